import PyProof.Rows.All
import Wide.All
import OpenK.AllK
import Wide.FinOn
import HandS.ForMost
import HandS.Exc
import HandS.WordsExc
import HandS.IsInst
import HandS.Flow
import HandS.HeadHook1
import KE.KDictCopyH
import KE.KeyNested
import HandS.TupAny
import HandS.Deep
import HandS.Wide
import HandS.Star
import HandS.Walk
import HandS.ExcOwn
import HandS.ExcCtx
import HandS.SuiteRaise
import HandS.RaiseFrom
import KE.KExcRaise
import HandS.CallSlots
import HandS.Defaults
import HandS.HeadEnd
import HandS.Dict
import HandS.More
import HandS.List
import HandS.Text
import HandS.Style
import HandS.RaiseMore
import PyProof.ReprRoads
import HandS.NamedTupSort
import HandS.OwnEq
import KE.KCallOwn
import KE.KFmtOwn
import PyProof.InstNe
import HandS.HeadHook2
import HandS.ClsMeth
import HandS.Strs
import KE.GoesMore
import PyProof.Draws
import PyProof.EnumMake
import KE.GoesZip
import HandS.ExcInit
import KE.KExcInit
import KE.KExcSuper
import KE.KExcIs
import HandS.ExcIs
import HandS.ExcField
import HandS.Head0
import HandS.Head1
import HandS.Head2
import Lean
import KE.KStateDown
import OpenK.KOps
import OpenK.KMeth
import HandS.NoneIn
import HandS.DictComp
import HandS.SortInts
import Wide.Txt2
import HandS.Property
import KE.KEqDict
import PyProof.Rows.TupDisplay
import HandS.SetBool
import PyProof.Rows.SortShellAny
import HandS.FStr
import KE.KxField
import PyProof.FString2
import PyProof.FString3
import HandS.Conv
import HandS.Iter
import HandS.Zip
import KE.KDictSum
import PySem.Challenge.RW_wordingkept_k56_marks_that_are_one
set_option Elab.async false
set_option linter.all false
set_option maxRecDepth 100000
set_option maxHeartbeats 4000000
namespace Bv
open PySem PySem.Spec L2
open PyProof.Rows hiding St
class HasW where
  w:World
variable [HasW]
inductive D where
  | non | bl (b:Bool) | int (i:Int) | str (x:Str)
  | tup (ds:List D) | lst (ds:List D) | dic (kvs:List (D × D))
  | obj (C:Str) (fs:List (Str × D)) | gl (x:Str) | scr (ns:List Int)
inductive X where
  | d (v:D) | r (n:Nat)
inductive O where
  | lst (xs:List X) | dic (kvs:List (D × X)) | ins (C:Str) (fs:List (Str × X))
  | fdc (kvs:List (D × X)) | tdc (kvs:List (D × X))
  | tfc (kvs:List (D × X))
  | ndc (kvs:List (D × X))
abbrev Sto:=List O
abbrev Ev:=List (Option X)
inductive R (α:Type) where
  | ok (a:α) (S:Sto) | err (C:Str) (fs:List (Str × D)) (S:Sto) | bad
def D.key?:D→Option Key
  | .int i=>some (.inl i)
  | .str x=>some (.inr x)
  | _=>none
def D.leaf?:D→Option Leaf
  | .non=>some .none
  | .bl b=>some (.num (if b=true then 1 else 0))
  | .int i=>some (.num i)
  | .str x=>some (.text x)
  | _=>none
def leafs?:List D→Option (List Leaf)
  | []=>some []
  | d :: r=>match d.leaf?,leafs? r with
    | some k,some l=>some (k :: l)
    | _,_=>none
def D.tkey?:D→Option (List Leaf)
  | .tup ds=>leafs? ds
  | _=>none
def W0u (ks:List Leaf):Int:=reduceHash (Builtin.Tuple.tupleHashOf (ks.map fun k=>k.key.hash HasW.w))
def TDx (a:Addr) (xs:List (List Leaf × Addr × V)) (h:Heap):Prop:=(a == sysModules)=false∧∃ ys:List (List Leaf × Addr × Value),Paired (fun p q=>p.1=q.1∧p.2.1=q.2.1∧RelV p.2.2 q.2.2) xs ys ∧
  ∃ o es ep,h.get? a=some o∧o.ExactDict∧o.data = .dict es ep∧es.toList=ys.map (fun x=>(⟨W0u x.1, .ref x.2.1,x.2.2⟩:DictEntry))∧(ys.map (·.1)).Nodup
abbrev TDo (a:Addr) (xs:List (List Leaf × Addr × V)):HO := .ext (TDx a xs)
def Y0z (f:D→Option NestedKey):List D→Option (List NestedKey)
  | []=>some []
  | d :: r=>match f d,Y0z f r with
    | some k,some l=>some (k :: l)
    | _,_=>none
def Z9n:Nat→D→Option NestedKey
  | _, .non=>some .none
  | _, .bl b=>some (.num (if b=true then 1 else 0))
  | _, .int i=>some (.num i)
  | _, .str x=>some (.text x)
  | n + 1, .tup ds=>(Y0z (Z9n n) ds).map .tup
  | _,_=>none
def D.nkey?:D→Option NestedKey
  | .tup ds=>(Z9n 8 (.tup ds)).bind fun k=>if decide (k.depth ≤ 8) then some k else none
  | _=>none
def NDx (a:Addr) (xs:List (NestedKey × Addr × V)) (h:Heap):Prop:=(a == sysModules)=false∧∃ ys:List (NestedKey × Addr × Value),Paired (fun p q=>p.1=q.1∧p.2.1=q.2.1∧RelV p.2.2 q.2.2) xs ys ∧
  ∃ o es ep,h.get? a=some o∧o.ExactDict∧o.data = .dict es ep∧es.toList=ys.map (fun x=>(⟨x.1.hash HasW.w, .ref x.2.1,x.2.2⟩:DictEntry))∧(ys.map (·.1)).Nodup
abbrev NDo (a:Addr) (xs:List (NestedKey × Addr × V)):HO := .ext (NDx a xs)
abbrev Wd:=Addr→Prop
def Wn (Z:Wd) (ρ:List Addr):Wd:=fun a=>Z a ∨ a ∈ ρ
def W8w (K:PySem.W.Frag) (a:Addr) (xs:List V):Prop:=∃ (o:Obj) (its:Array Value) (n:Nat),K.lookup a=some o∧o.cls = .type "tuple" ∧ o.data = .seq its n∧its.size ≤ sizeLine∧Vals xs its.toList
def Tp (K:PySem.W.Frag) (W:Wd) (H:Hp) (a:Addr) (xs:List V):Prop:=(¬ W a∧H a=some (.tup xs)) ∨ W8w K a xs
theorem Tp.sq {K:PySem.W.Frag} {W:Wd} {H:Hp} {a:Addr} {xs:List V} (h:Tp K W H a xs):SqT K H a xs:=by
  rcases h with ⟨_,h⟩ | h
  · exact .inl (.inl h)
  · exact .inr h
def W9q (K:PySem.W.Frag) (a:Addr) (xs:List V):Prop:=∃ (o:Obj) (its:Array Value) (n:Nat),K.lookup a=some o∧o.cls = .type "list" ∧ o.dict=none∧o.data = .seq its n∧its.size ≤ sizeLine∧Vals xs its.toList
def Lp (K:PySem.W.Frag) (W:Wd) (H:Hp) (a:Addr) (xs:List V):Prop:=(¬ W a∧Rd H a (.lst xs)) ∨ W9q K a xs
theorem Lp.sl {K:PySem.W.Frag} {W:Wd} {H:Hp} {a:Addr} {xs:List V} (h:Lp K W H a xs):SqL K H a xs:=by
  rcases h with ⟨_,h⟩ | h
  · exact .inl h
  · exact .inr h
mutual
inductive AV (K:PySem.W.Frag) (W:Wd) (H:Hp):D→V→Prop
  | non:AV K W H .non .non
  | bl (b:Bool):AV K W H (.bl b) (.bl b)
  | int (i:Int):AV K W H (.int i) (.int i)
  | str {x:Str}:PyData.strOk x=true→AV K W H (.str x) (.str x)
  | gl (x:Str):AV K W H (.gl x) (.ref (He.ga K x))
  | scr {a:Addr} {ns:List Int}:Lp K W H a (ns.map V.int)→AV K W H (.scr ns) (.ref a)
  | tup {a:Addr} {xs:List V} {ds:List D}:Tp K W H a xs→AVs K W H ds xs→AV K W H (.tup ds) (.ref a)
  | lst {a:Addr} {xs:List V} {ds:List D}:¬ W a→H a=some (.lst xs)→AVs K W H ds xs→AV K W H (.lst ds) (.ref a)
  | dic {a:Addr} {o:Obj} {ks:List (Key × V)} {kvs:List (D × D)}:¬ W a→H a=some (.frz o (.dK ks))→AVk K W H kvs ks→AV K W H (.dic kvs) (.ref a)
  | obj {C:Str} {a dx:Addr} {vs:List (Str × V)} {fs:List (Str × D)}:¬ W a→H a=some (.ins (He.ga K C) dx vs)→AVf K W H fs vs→AV K W H (.obj C fs) (.ref a)
inductive AVs (K:PySem.W.Frag) (W:Wd) (H:Hp):List D→List V→Prop
  | nil:AVs K W H [] []
  | cons {d:D} {v:V} {ds:List D} {vs:List V}:AV K W H d v→AVs K W H ds vs→AVs K W H (d :: ds) (v :: vs)
inductive AVk (K:PySem.W.Frag) (W:Wd) (H:Hp):List (D × D)→List (Key × V)→Prop
  | nil:AVk K W H [] []
  | cons {k d:D} {q:Key} {v:V} {ds:List (D × D)} {vs:List (Key × V)}:k.key?=some q→AV K W H d v→AVk K W H ds vs→AVk K W H ((k,d) :: ds) ((q,v) :: vs)
inductive AVf (K:PySem.W.Frag) (W:Wd) (H:Hp):List (Str × D)→List (Str × V)→Prop
  | nil:AVf K W H [] []
  | cons {f:Str} {d:D} {v:V} {ds:List (Str × D)} {vs:List (Str × V)}:AV K W H d v→AVf K W H ds vs→AVf K W H ((f,d) :: ds) ((f,v) :: vs)
end
def Mv (W:Wd) (H:Hp) (W':Wd) (H':Hp):Prop:=∀ a o,¬ W a→H a=some o→¬ W' a∧H' a=some o
theorem Mv.rd {W W':Wd} {H H':Hp} {a:Addr} {u:HO} (m:Mv W H W' H') (h:¬ W a) (r:Rd H a u):¬ W' a∧Rd H' a u:=by
  rcases r with r | ⟨o,r⟩
  · obtain ⟨h1,h2⟩:=m a _ h r
    exact ⟨h1, .inl h2⟩
  · obtain ⟨h1,h2⟩:=m a _ h r
    exact ⟨h1, .inr ⟨o,h2⟩⟩
theorem Mv.lp {K:PySem.W.Frag} {W W':Wd} {H H':Hp} {a:Addr} {xs:List V} (m:Mv W H W' H') (h:Lp K W H a xs):Lp K W' H' a xs:=by
  rcases h with ⟨h1,h2⟩ | h
  · exact .inl (m.rd h1 h2)
  · exact .inr h
theorem Mv.tp {K:PySem.W.Frag} {W W':Wd} {H H':Hp} {a:Addr} {xs:List V} (m:Mv W H W' H') (h:Tp K W H a xs):Tp K W' H' a xs:=by
  rcases h with ⟨h1,h2⟩ | h
  · exact .inl (m _ _ h1 h2)
  · exact .inr h
section
variable {K:PySem.W.Frag} {W W':Wd} {H H':Hp}
mutual
theorem AV.mv (m:Mv W H W' H'):∀ {d:D} {v:V},AV K W H d v→AV K W' H' d v
  | _,_, .non => .non
  | _,_, .bl b => .bl b
  | _,_, .int i => .int i
  | _,_, .str x => .str x
  | _,_, .scr h => .scr (m.lp h)
  | _,_, .gl x => .gl x
  | _,_, .tup h hs => .tup (m.tp h) (AVs.mv m hs)
  | _,_, .lst w h hs => .lst (m _ _ w h).1 (m _ _ w h).2 (AVs.mv m hs)
  | _,_, .dic w h hs => .dic (m _ _ w h).1 (m _ _ w h).2 (AVk.mv m hs)
  | _,_, .obj w h hs => .obj (m _ _ w h).1 (m _ _ w h).2 (AVf.mv m hs)
theorem AVs.mv (m:Mv W H W' H'):∀ {ds:List D} {vs:List V},AVs K W H ds vs→AVs K W' H' ds vs
  | _,_, .nil => .nil
  | _,_, .cons h hs => .cons (AV.mv m h) (AVs.mv m hs)
theorem AVk.mv (m:Mv W H W' H'):∀ {ds:List (D × D)} {vs:List (Key × V)},AVk K W H ds vs→AVk K W' H' ds vs
  | _,_, .nil => .nil
  | _,_, .cons k h hs => .cons k (AV.mv m h) (AVk.mv m hs)
theorem AVf.mv (m:Mv W H W' H'):∀ {ds:List (Str × D)} {vs:List (Str × V)},AVf K W H ds vs→AVf K W' H' ds vs
  | _,_, .nil => .nil
  | _,_, .cons h hs => .cons (AV.mv m h) (AVf.mv m hs)
end
end
inductive AX (K:PySem.W.Frag) (W:Wd) (ρ:List Addr) (H:Hp):X→V→Prop
  | d {v:D} {u:V}:AV K W H v u→AX K W ρ H (.d v) u
  | r {n:Nat} {a:Addr}:ρ[n]?=some a→AX K W ρ H (.r n) (.ref a)
abbrev AXs (K:PySem.W.Frag) (W:Wd) (ρ:List Addr) (H:Hp):List X→List V→Prop:=Paired (AX K W ρ H)
theorem AX.mv {K:PySem.W.Frag} {W W':Wd} {ρ ρ':List Addr} {H H':Hp} (m:Mv W H W' H') (p:ρ <+: ρ') {x:X} {v:V} (h:AX K W ρ H x v):AX K W' ρ' H' x v:=by
  cases h with
  | d h=>exact .d (h.mv m)
  | r h =>
    refine .r ?_
    obtain ⟨t,rfl⟩:=p
    rw [List.getElem?_append_left (List.getElem?_eq_some_iff.mp h).1]
    exact h
theorem AXs.mv {K:PySem.W.Frag} {W W':Wd} {ρ ρ':List Addr} {H H':Hp} (m:Mv W H W' H') (p:ρ <+: ρ') {xs:List X} {vs:List V} (h:AXs K W ρ H xs vs):AXs K W' ρ' H' xs vs:=Paired.mapP h fun _ _ q=>q.mv m p
def AO (K:PySem.W.Frag) (W:Wd) (ρ:List Addr) (H:Hp) (o:O) (a:Addr):Prop :=
  match o with
  | .lst xs=>∃ vs,H a=some (.lst vs)∧AXs K W ρ H xs vs
  | .dic kvs=>∃ ks:List (Key × V),H a=some (.dK ks)∧Paired (fun (p:D × X) (q:Key × V)=>p.1.key?=some q.1∧AX K W ρ H p.2 q.2) kvs ks
  | .fdc kvs=>∃ (ob:Obj) (ks:List (Key × V)),H a=some (.frz ob (.dK ks))∧Paired (fun (p:D × X) (q:Key × V)=>p.1.key?=some q.1∧AX K W ρ H p.2 q.2) kvs ks
  | .tdc kvs=>∃ xs:List (List Leaf × Addr × V),H a=some (TDo a xs)∧Paired (fun (p:D × X) (q:List Leaf × Addr × V)=>p.1.tkey?=some q.1∧AV K W H p.1 (.ref q.2.1)∧AX K W ρ H p.2 q.2.2) kvs xs
  | .tfc kvs=>∃ (ob:Obj) (xs:List (List Leaf × Addr × V)),H a=some (.frz ob (TDo a xs))∧Paired (fun (p:D × X) (q:List Leaf × Addr × V)=>p.1.tkey?=some q.1∧AV K W H p.1 (.ref q.2.1)∧AX K W ρ H p.2 q.2.2) kvs xs
  | .ndc kvs=>∃ xs:List (NestedKey × Addr × V),H a=some (NDo a xs)∧Paired (fun (p:D × X) (q:NestedKey × Addr × V)=>p.1.nkey?=some q.1∧AV K W H p.1 (.ref q.2.1)∧AX K W ρ H p.2 q.2.2) kvs xs
  | .ins C fs=>∃ (dx:Addr) (vs:List (Str × V)),H a=some (.ins (He.ga K C) dx vs)∧Paired (fun (p:Str × X) (q:Str × V)=>p.1=q.1∧AX K W ρ H p.2 q.2) fs vs
theorem AO.mv {K:PySem.W.Frag} {W W':Wd} {ρ ρ':List Addr} {H H':Hp} {o:O} {a:Addr} (m:Mv W H W' H') (p:ρ <+: ρ') (k:∀ u,H a=some u→H' a=some u) (x:AO K W ρ H o a):AO K W' ρ' H' o a:=by
  cases o with
  | lst xs=>obtain ⟨vs,e,q⟩:=x; exact ⟨vs,k _ e,AXs.mv m p q⟩
  | dic kvs=>obtain ⟨vs,e,q⟩:=x; exact ⟨vs,k _ e,Paired.mapP q fun _ _ z=>⟨z.1,z.2.mv m p⟩⟩
  | fdc kvs=>obtain ⟨ob,vs,e,q⟩:=x; exact ⟨ob,vs,k _ e,Paired.mapP q fun _ _ z=>⟨z.1,z.2.mv m p⟩⟩
  | tdc kvs=>obtain ⟨vs,e,q⟩:=x; exact ⟨vs,k _ e,Paired.mapP q fun _ _ z=>⟨z.1,z.2.1.mv m,z.2.2.mv m p⟩⟩
  | ndc kvs=>obtain ⟨vs,e,q⟩:=x; exact ⟨vs,k _ e,Paired.mapP q fun _ _ z=>⟨z.1,z.2.1.mv m,z.2.2.mv m p⟩⟩
  | tfc kvs=>obtain ⟨ob,vs,e,q⟩:=x; exact ⟨ob,vs,k _ e,Paired.mapP q fun _ _ z=>⟨z.1,z.2.1.mv m,z.2.2.mv m p⟩⟩
  | ins C fs=>obtain ⟨dx,vs,e,q⟩:=x; exact ⟨dx,vs,k _ e,Paired.mapP q fun _ _ z=>⟨z.1,z.2.mv m p⟩⟩
theorem AO.there {K:PySem.W.Frag} {W:Wd} {ρ:List Addr} {H:Hp} {o:O} {a:Addr} (x:AO K W ρ H o a):∃ u,H a=some u:=by
  cases o with
  | lst xs=>obtain ⟨vs,e,_⟩:=x; exact ⟨_,e⟩
  | dic kvs=>obtain ⟨vs,e,_⟩:=x; exact ⟨_,e⟩
  | fdc kvs=>obtain ⟨ob,vs,e,_⟩:=x; exact ⟨_,e⟩
  | tdc kvs=>obtain ⟨vs,e,_⟩:=x; exact ⟨_,e⟩
  | ndc kvs=>obtain ⟨vs,e,_⟩:=x; exact ⟨_,e⟩
  | tfc kvs=>obtain ⟨ob,vs,e,_⟩:=x; exact ⟨_,e⟩
  | ins C fs=>obtain ⟨dx,vs,e,_⟩:=x; exact ⟨_,e⟩
def O.isF:O→Bool
  | .fdc _=>true
  | .tfc _=>true
  | _=>false
structure Sta (K:PySem.W.Frag) (Z:Wd) (ρ:List Addr) (S:Sto) (H:Hp):Prop where
  nd:ρ.Nodup
  z:∀ a,Z a→a ∉ ρ∧∃ o,H a=some o
  len:S.length=ρ.length
  ob:∀ (n:Nat) (o:O) (a:Addr),S[n]?=some o→ρ[n]?=some a→AO K (Wn Z ρ) ρ H o a
theorem Sta.mem {K:PySem.W.Frag} {Z:Wd} {ρ:List Addr} {S:Sto} {H:Hp} (s:Sta K Z ρ S H) {a:Addr} (h:a ∈ ρ):∃ (n:Nat) (o:O),S[n]?=some o∧ρ[n]?=some a:=by
  obtain ⟨n,hn,e⟩:=List.getElem_of_mem h
  have h2:n < S.length:=by rw [s.len]; exact hn
  exact ⟨n,S[n],List.getElem?_eq_getElem h2,by rw [List.getElem?_eq_getElem hn,e]⟩
structure Go (ρ:List Addr) (H:Hp) (ρ':List Addr) (H':Hp):Prop where
  pre:ρ <+: ρ'
  keep:∀ a o,a ∉ ρ→H a=some o→a ∉ ρ'∧H' a=some o
  fz:∀ a ob u,H a=some (.frz ob u)→H' a=some (.frz ob u)
theorem Go.refl (ρ:List Addr) (H:Hp):Go ρ H ρ H:=⟨List.prefix_refl _,fun _ _ h q=>⟨h,q⟩,fun _ _ _ q=>q⟩
theorem Go.trans {ρ ρ1 ρ2:List Addr} {H H1 H2:Hp} (a:Go ρ H ρ1 H1) (b:Go ρ1 H1 ρ2 H2):Go ρ H ρ2 H2 :=
  ⟨a.pre.trans b.pre,fun c o h q=>let ⟨h1,q1⟩:=a.keep c o h q; b.keep c o h1 q1,fun c ob u q=>b.fz c ob u (a.fz c ob u q)⟩
theorem Go.mv {K:PySem.W.Frag} {Z:Wd} {ρ ρ':List Addr} {S:Sto} {H H':Hp} (s:Sta K Z ρ S H) (g:Go ρ H ρ' H'):Mv (Wn Z ρ) H (Wn Z ρ') H':=fun a o h q=>by
  have h1:a ∉ ρ:=fun z=>h (.inr z)
  obtain ⟨h2,q2⟩:=g.keep a o h1 q
  exact ⟨fun z=>z.elim (fun z=>h (.inl z)) h2,q2⟩
structure EvOk (K:PySem.W.Frag) (W:Wd) (ρ:List Addr) (H:Hp) (e:Ev) (σ:St):Prop where
  len:e.length=σ.length
  at_:∀ (i:Nat) (x:X),e[i]?=some (some x)→∃ v,σ[i]?=some (some v)∧AX K W ρ H x v
theorem EvOk.mv {K:PySem.W.Frag} {W W':Wd} {ρ ρ':List Addr} {H H':Hp} (m:Mv W H W' H') (p:ρ <+: ρ') {e:Ev} {σ:St} (h:EvOk K W ρ H e σ):EvOk K W' ρ' H' e σ :=
  ⟨h.len,fun i x q=>let ⟨v,h1,h2⟩:=h.at_ i x q; ⟨v,h1,h2.mv m p⟩⟩
theorem EvOk.set {K:PySem.W.Frag} {W:Wd} {ρ:List Addr} {H:Hp} {e:Ev} {σ:St} {i:Nat} {x:X} {v:V} (h:EvOk K W ρ H e σ) (a:AX K W ρ H x v):EvOk K W ρ H (e.set i (some x)) (σ.set i (some v)):=by
  refine ⟨by rw [List.length_set,List.length_set]; exact h.len,fun j y q=>?_⟩
  by_cases hj:i=j
  · subst hj
    have hl:i < e.length:=by
      have:=(List.getElem?_eq_some_iff.mp q).1
      rwa [List.length_set] at this
    rw [List.getElem?_set_self hl] at q
    cases q
    exact ⟨v,by rw [List.getElem?_set_self (by rw [← h.len]; exact hl)],a⟩
  · rw [List.getElem?_set_ne hj] at q
    obtain ⟨u,h1,h2⟩:=h.at_ j y q
    exact ⟨u,by rw [List.getElem?_set_ne hj]; exact h1,h2⟩
def X9i (K:PySem.W.Frag) (Z:Wd) (ρ:List Addr) (H:Hp) (Wx:WX) (σ:St) (C:Str) (fs:List (Str × D)) (S':Sto):Prop :=
  ∀ (ρ':List Addr) (H':Hp) (d:Option Addr),Sta K Z ρ' S' H'→Go ρ H ρ' H' →
    ((d=none∧fs=[]) ∨ ∃ (dd:Addr) (vs:List (Str × V)),d=some dd∧H dd=none∧¬ Wn Z ρ' dd∧H' dd=some (.xd vs)∧AVf K (Wn Z ρ') H' fs vs)→Wx (.ref (He.ga K C)) d σ H'
def W5 {α β:Type} (rel:Wd→List Addr→Hp→α→β→Prop) (K:PySem.W.Frag) (Z:Wd) (ρ:List Addr) (H:Hp) (Wx:WX) (σ:St) (Q:β→Hp→Prop):R α→Prop
  | .ok x S'=>∀ (ρ':List Addr) (H':Hp) (v:β),Sta K Z ρ' S' H'→Go ρ H ρ' H'→rel (Wn Z ρ') ρ' H' x v→Q v H'
  | .err C fs S'=>X9i K Z ρ H Wx σ C fs S'
  | .bad=>False
abbrev MG (α:Type):=Ev→Sto→R α
def RG {α β:Type} (rel:Wd→List Addr→Hp→α→β→Prop) (K:PySem.W.Frag) (Wx:WX) (m:MG α):St→Hp→(β→Hp→Prop)→Prop:=fun σ H Q=>∃ (Z:Wd) (ρ:List Addr) (e:Ev) (S:Sto),Sta K Z ρ S H∧EvOk K (Wn Z ρ) ρ H e σ∧W5 rel K Z ρ H Wx σ Q (m e S)
abbrev M:=MG X
abbrev Z55 (K:PySem.W.Frag):=W5 (AX K) K
abbrev RE (K:PySem.W.Frag) (Wx:WX) (m:M):TE:=RG (AX K) K Wx m
abbrev ME (X:Cx) (Wx:WX) (e:Expr) (m:M):Prop:=PE X e (RE X.K Wx m)
abbrev RA (K:PySem.W.Frag) (Wx:WX) (m:MG (List X)):TA:=RG (AXs K) K Wx m
abbrev MA (X:Cx) (Wx:WX) (es:List Expr) (m:MG (List Bv.X)):Prop:=PA X es (RA X.K Wx m)
abbrev relB:Wd→List Addr→Hp→Bool→Bool→Prop:=fun _ _ _ b c=>b=c
abbrev RB (K:PySem.W.Frag) (Wx:WX) (m:MG Bool):L2.TT:=RG relB K Wx m
abbrev MT (X:Cx) (Wx:WX) (e:Expr) (m:MG Bool):Prop:=PT X e (RB X.K Wx m)
def R.bind {α β:Type} (r:R α) (k:α→Sto→R β):R β:=match r with
  | .ok a S=>k a S
  | .err C fs S => .err C fs S
  | .bad => .bad
theorem X9i.shift {K:PySem.W.Frag} {Z:Wd} {ρ ρ1:List Addr} {H H1:Hp} {Wx:WX} {σ:St} {C:Str} {fs:List (Str × D)} {S':Sto} (g:Go ρ H ρ1 H1) (s1:∀ a o,H a=some o→∃ u,H1 a=some u) (h:X9i K Z ρ H Wx σ C fs S'):X9i K Z ρ1 H1 Wx σ C fs S':=fun ρ' H' d st go q=>by
  refine h ρ' H' d st (g.trans go) ?_
  rcases q with q | ⟨dd,vs,h1,h2,h3⟩
  · exact .inl q
  · refine .inr ⟨dd,vs,h1,?_,h3⟩
    cases e:H dd with
    | none=>rfl
    | some o =>
      obtain ⟨u,z⟩:=s1 dd o e
      rw [h2] at z; cases z
theorem Y96 {K:PySem.W.Frag} {Z:Wd} {ρ ρ1:List Addr} {S1:Sto} {H H1:Hp} (g:Go ρ H ρ1 H1) (s1:Sta K Z ρ1 S1 H1):∀ a o,H a=some o→∃ u,H1 a=some u:=fun a o q=>by
  by_cases h:a ∈ ρ
  · have h1:a ∈ ρ1:=g.pre.subset h
    obtain ⟨n,o,e1,e2⟩:=s1.mem h1
    exact (s1.ob n o a e1 e2).there
  · exact ⟨o,(g.keep a o h q).2⟩
theorem W5.shift {α β:Type} {rel:Wd→List Addr→Hp→α→β→Prop} {K:PySem.W.Frag} {Z:Wd} {ρ ρ1:List Addr} {S1:Sto} {H H1:Hp} {Wx:WX} {σ:St} {Q:β→Hp→Prop} {r:R α} (g:Go ρ H ρ1 H1) (s1:Sta K Z ρ1 S1 H1) (h:W5 rel K Z ρ H Wx σ Q r):W5 rel K Z ρ1 H1 Wx σ Q r:=by
  cases r with
  | ok x S'=>exact fun ρ' H' v st go a=>h ρ' H' v st (g.trans go) a
  | err C fs S'=>exact X9i.shift g (Y96 g s1) h
  | bad=>exact h
theorem X6 {α β γ δ:Type} {rel:Wd→List Addr→Hp→α→β→Prop} {rel':Wd→List Addr→Hp→γ→δ→Prop} {K:PySem.W.Frag} {Wx:WX} {Z:Wd} {ρ:List Addr} {e:Ev} {S:Sto} {σ:St} {H:Hp} {Q:δ→Hp→Prop} {m:MG α} {k:α→Sto→R γ} {R':β→Hp→Prop} (st:Sta K Z ρ S H) (ev:EvOk K (Wn Z ρ) ρ H e σ) (h:W5 rel' K Z ρ H Wx σ Q ((m e S).bind k))
    (next:∀ ρ1 H1 v x S1,Sta K Z ρ1 S1 H1→Go ρ H ρ1 H1→EvOk K (Wn Z ρ1) ρ1 H1 e σ→rel (Wn Z ρ1) ρ1 H1 x v→W5 rel' K Z ρ1 H1 Wx σ Q (k x S1)→R' v H1):RG rel K Wx m σ H R':=by
  refine ⟨Z,ρ,e,S,st,ev,?_⟩
  cases q:m e S with
  | ok x S1 =>
    rw [q] at h
    exact fun ρ1 H1 v s1 g a=>next ρ1 H1 v x S1 s1 g (ev.mv (g.mv st) g.pre) a (W5.shift g s1 h)
  | err C fs S1=>rw [q] at h; exact h
  | bad=>rw [q] at h; exact h
theorem Sta.grow {K:PySem.W.Frag} {Z:Wd} {ρ:List Addr} {S:Sto} {H H':Hp} (s:Sta K Z ρ S H) (k:∀ a o,H a=some o→H' a=some o):Sta K Z ρ S H':=by
  have m:Mv (Wn Z ρ) H (Wn Z ρ) H':=fun a o h q=>⟨h,k a o q⟩
  refine ⟨s.nd,fun a h=>⟨(s.z a h).1,let ⟨o,q⟩:=(s.z a h).2; ⟨o,k a o q⟩⟩,s.len,fun n o a e1 e2=>?_⟩
  exact AO.mv m (List.prefix_refl _) (k a) (s.ob n o a e1 e2)
theorem Go.grow {ρ:List Addr} {H H':Hp} (k:∀ a o,H a=some o→H' a=some o):Go ρ H ρ H':=⟨List.prefix_refl _,fun a o h q=>⟨h,k a o q⟩,fun a _ _ q=>k a _ q⟩
theorem Sta.thereW {K:PySem.W.Frag} {Z:Wd} {ρ:List Addr} {S:Sto} {H:Hp} (s:Sta K Z ρ S H) {a:Addr} (h:Wn Z ρ a):∃ o,H a=some o:=by
  rcases h with h | h
  · exact (s.z a h).2
  · obtain ⟨n,o,e1,e2⟩:=s.mem h
    exact (s.ob n o a e1 e2).there
theorem Sta.put {K:PySem.W.Frag} {Z:Wd} {ρ:List Addr} {S:Sto} {H:Hp} {n:Nat} {a:Addr} {o':O} {u:HO} (s:Sta K Z ρ S H) (hn:ρ[n]?=some a) (nf:∀ ob u,H a ≠ some (.frz ob u)) (new:AO K (Wn Z ρ) ρ (upd H a u) o' a):Sta K Z ρ (S.set n o') (upd H a u)∧Go ρ H ρ (upd H a u):=by
  have ha:a ∈ ρ:=List.mem_of_getElem? hn
  have m:Mv (Wn Z ρ) H (Wn Z ρ) (upd H a u):=fun b o h q=>⟨h,by rw [upd_ne (fun z=>h (.inr (by rw [z]; exact ha)))]; exact q⟩
  refine ⟨⟨s.nd,fun b h=>⟨(s.z b h).1,?_⟩,by rw [List.length_set]; exact s.len,fun k o b e1 e2=>?_⟩,⟨List.prefix_refl _,fun b o h q=>⟨h,by rw [upd_ne (fun z=>h (by rw [z]; exact ha))]; exact q⟩,fun b ob w q=>by rw [upd_ne (fun z=>nf ob w (by rw [← z]; exact q))]; exact q⟩⟩
  · obtain ⟨o,q⟩:=(s.z b h).2
    exact ⟨o,by rw [upd_ne (fun z=>(s.z b h).1 (by rw [z]; exact ha))]; exact q⟩
  · by_cases hk:n=k
    · subst hk
      rw [hn] at e2; cases e2
      have hl:n < S.length:=by
        have:=(List.getElem?_eq_some_iff.mp e1).1
        rwa [List.length_set] at this
      rw [List.getElem?_set_self hl] at e1
      cases e1
      exact new
    · rw [List.getElem?_set_ne hk] at e1
      have hb:b ≠ a:=fun z=>by
        subst z
        obtain ⟨h1,q1⟩:=List.getElem?_eq_some_iff.mp hn
        obtain ⟨h2,q2⟩:=List.getElem?_eq_some_iff.mp e2
        exact hk ((List.getElem_inj s.nd).mp (q1.trans q2.symm))
      exact AO.mv m (List.prefix_refl _) (fun w q=>by rw [upd_ne hb]; exact q) (s.ob k o b e1 e2)
theorem Sta.push {K:PySem.W.Frag} {Z:Wd} {ρ:List Addr} {S:Sto} {H H':Hp} {a:Addr} {o':O} (s:Sta K Z ρ S H) (hn:H a=none) (k:∀ b o,H b=some o→H' b=some o) (new:AO K (Wn Z (ρ++[a])) (ρ++[a]) H' o' a):Sta K Z (ρ++[a]) (S++[o']) H'∧Go ρ H (ρ++[a]) H':=by
  have hne:∀ b o,H b=some o→b ≠ a:=fun b o q z=>by rw [z,hn] at q; cases q
  have g:Go ρ H (ρ++[a]) H':=⟨List.prefix_append _ _,fun b o h q=>⟨fun z=>by
    rcases List.mem_append.mp z with z | z
    · exact h z
    · exact hne b o q (by simpa using z),k b o q⟩,fun b _ _ q=>k b _ q⟩
  have hna:a ∉ ρ:=fun z=>by
    obtain ⟨n,o,e1,e2⟩:=s.mem z
    obtain ⟨w,q⟩:=(s.ob n o a e1 e2).there
    exact hne a w q rfl
  refine ⟨⟨?_,fun b h=>⟨fun z=>?_,?_⟩,by rw [List.length_append,List.length_append,s.len]; rfl,fun m o b e1 e2=>?_⟩,g⟩
  · rw [List.nodup_append]
    exact ⟨s.nd,by simp,fun x hx y hy z=>by
      have:y=a:=by simpa using hy
      subst this; subst z; exact hna hx⟩
  · obtain ⟨o,q⟩:=(s.z b h).2
    rcases List.mem_append.mp z with z | z
    · exact (s.z b h).1 z
    · exact hne b o q (by simpa using z)
  · obtain ⟨o,q⟩:=(s.z b h).2
    exact ⟨o,k b o q⟩
  · by_cases hm:m < ρ.length
    · rw [List.getElem?_append_left hm] at e2
      rw [List.getElem?_append_left (by rw [s.len]; exact hm)] at e1
      exact AO.mv (g.mv s) g.pre (k b) (s.ob m o b e1 e2)
    · rw [List.getElem?_append_right (by omega)] at e2
      rw [List.getElem?_append_right (by rw [s.len]; omega)] at e1
      have hz:m - ρ.length=0:=by
        have:=(List.getElem?_eq_some_iff.mp e2).1
        simp at this; omega
      rw [hz] at e2
      rw [s.len,hz] at e1
      cases e1; cases e2
      exact new
theorem Sta.fresh {K:PySem.W.Frag} {Z:Wd} {ρ:List Addr} {S:Sto} {H:Hp} (s:Sta K Z ρ S H) {a:Addr} (h:H a=none):¬ Wn Z ρ a:=fun z=>by
  obtain ⟨o,e⟩:=s.thereW z
  rw [h] at e; cases e
theorem U9 {H:Hp} {p:Addr} {o:HO} (h:H p=none):∀ a u,H a=some u→upd H p o a=some u:=fun a u q=>by
  rw [upd_ne (ne_of_none q h)]; exact q
theorem W5.ret {α β:Type} {rel:Wd→List Addr→Hp→α→β→Prop} {K:PySem.W.Frag} {Z:Wd} {ρ:List Addr} {S:Sto} {H H':Hp} {Wx:WX} {σ:St} {Q:β→Hp→Prop} {x:α} {v:β} (h:W5 rel K Z ρ H Wx σ Q (.ok x S)) (s:Sta K Z ρ S H) (k:∀ a o,H a=some o→H' a=some o) (a:rel (Wn Z ρ) ρ H' x v):Q v H' :=
  h ρ H' v (s.grow k) (Go.grow k) a
theorem W5.ret0 {α β:Type} {rel:Wd→List Addr→Hp→α→β→Prop} {K:PySem.W.Frag} {Z:Wd} {ρ:List Addr} {S:Sto} {H:Hp} {Wx:WX} {σ:St} {Q:β→Hp→Prop} {x:α} {v:β} (h:W5 rel K Z ρ H Wx σ Q (.ok x S)) (s:Sta K Z ρ S H) (a:rel (Wn Z ρ) ρ H x v):Q v H :=
  h ρ H v s (Go.refl _ _) a
end Bv
namespace Bv
open PySem PySem.Spec L2
open PyProof.Rows hiding St
variable [HasW]
inductive AW (K:PySem.W.Frag) (W:Wd) (H:Hp):D→V→Prop
  | av {d:D} {v:V}:AV K W H d v→AW K W H d v
  | lst {a:Addr} {xs:List V} {ds:List D}:H a=some (.lst xs)→AVs K W H ds xs→AW K W H (.lst ds) (.ref a)
  | fdc {a:Addr} {ob:Obj} {ks:List (Key × V)} {kvs:List (D × D)}:H a=some (.frz ob (.dK ks))→AVk K W H kvs ks→AW K W H (.dic kvs) (.ref a)
def X.d?:X→Option D
  | .d v=>some v
  | .r _=>none
def ds?:List X→Option (List D)
  | []=>some []
  | x :: r=>match x,ds? r with
    | .d v,some l=>some (v :: l)
    | _,_=>none
def ks?:List (D × X)→Option (List (D × D))
  | []=>some []
  | (k,x) :: r=>match x,ks? r with
    | .d v,some l=>some ((k,v) :: l)
    | _,_=>none
def X.get (S:Sto):X→Option D
  | .d v=>some v
  | .r n=>match S[n]? with
    | some (.lst xs)=>(ds? xs).map .lst
    | some (.fdc kvs)=>(ks? kvs).map .dic
    | _=>none
section
variable {K:PySem.W.Frag} {W:Wd} {ρ:List Addr} {H:Hp}
theorem AXs.ds:∀ {xs:List X} {vs:List V} {ds:List D},AXs K W ρ H xs vs→ds? xs=some ds→AVs K W H ds vs
  | _,_,_, .nil,e=>by cases e; exact .nil
  | x :: r,_,ds, .cons h hs,e=>by
    cases x with
    | r n=>simp [ds?] at e
    | d v =>
      unfold ds? at e
      cases q:ds? r with
      | none=>rw [q] at e; cases e
      | some l =>
        rw [q] at e
        cases e
        cases h with
        | d h=>exact .cons h (AXs.ds hs q)
theorem AXk.ks:∀ {xs:List (D × X)} {vs:List (Key × V)} {ds:List (D × D)},Paired (fun (p:D × X) (q:Key × V)=>p.1.key?=some q.1∧AX K W ρ H p.2 q.2) xs vs→ks? xs=some ds→AVk K W H ds vs
  | _,_,_, .nil,e=>by cases e; exact .nil
  | (k,x) :: r,_,ds, .cons h hs,e=>by
    cases x with
    | r n=>simp [ks?] at e
    | d v =>
      unfold ks? at e
      cases q:ks? r with
      | none=>rw [q] at e; cases e
      | some l =>
        rw [q] at e
        cases e
        obtain ⟨h1,h2⟩:=h
        cases h2 with
        | d h=>exact .cons h1 h (AXk.ks hs q)
theorem Sta.at_ {Z:Wd} {S:Sto} (s:Sta K Z ρ S H) {n:Nat} {o:O} (e:S[n]?=some o):∃ a,ρ[n]?=some a∧AO K (Wn Z ρ) ρ H o a:=by
  have h:n < ρ.length:=by rw [← s.len]; exact (List.getElem?_eq_some_iff.mp e).1
  exact ⟨ρ[n],List.getElem?_eq_getElem h,s.ob n o _ e (List.getElem?_eq_getElem h)⟩
theorem AX.get {Z:Wd} {S:Sto} (s:Sta K Z ρ S H) {x:X} {v:V} {d:D} (a:AX K (Wn Z ρ) ρ H x v) (e:x.get S=some d):AW K (Wn Z ρ) H d v:=by
  cases a with
  | d h=>cases e; exact .av h
  | r h =>
    rename_i n a
    have e1:(match S[n]? with
      | some (.lst xs)=>(ds? xs).map .lst
      | some (.fdc kvs)=>(ks? kvs).map .dic
      | _=>none)=some d:=e
    cases q:S[n]? with
    | none=>rw [q] at e1; cases e1
    | some o =>
      rw [q] at e1
      obtain ⟨b,hb,x⟩:=s.at_ q
      rw [h] at hb; cases hb
      cases o with
      | lst xs =>
        obtain ⟨l,h1,h2⟩:=Option.map_eq_some_iff.mp (show (ds? xs).map D.lst=some d from e1)
        subst h2
        obtain ⟨vs,h3,h4⟩:=x
        exact .lst h3 (AXs.ds h4 h1)
      | fdc kvs =>
        obtain ⟨l,h1,h2⟩:=Option.map_eq_some_iff.mp (show (ks? kvs).map D.dic=some d from e1)
        subst h2
        obtain ⟨ob,vs,h3,h4⟩:=x
        exact .fdc h3 (AXk.ks h4 h1)
      | _=>cases e1
theorem AW.sq {ds:List D} {v:V} (h:AW K W H (.lst ds) v):∃ a xs,v = .ref a∧H a=some (.lst xs)∧AVs K W H ds xs:=by
  cases h with
  | av h=>cases h with | lst w r hs=>exact ⟨_,_,rfl,r,hs⟩
  | lst h hs=>exact ⟨_,_,rfl,h,hs⟩
theorem AW.tq {ds:List D} {v:V} (h:AW K W H (.tup ds) v):∃ a xs,v = .ref a∧Tp K W H a xs∧AVs K W H ds xs:=by
  cases h with
  | av h=>cases h with | tup t hs=>exact ⟨_,_,rfl,t,hs⟩
theorem AW.ob {C:Str} {fs:List (Str × D)} {v:V} (h:AW K W H (.obj C fs) v):∃ a dx vs,v = .ref a∧¬ W a∧H a=some (.ins (He.ga K C) dx vs)∧AVf K W H fs vs:=by
  cases h with
  | av h=>cases h with | obj w r hs=>exact ⟨_,_,_,rfl,w,r,hs⟩
theorem AVs.length:∀ {ds:List D} {vs:List V},AVs K W H ds vs→ds.length=vs.length
  | _,_, .nil=>rfl
  | _,_, .cons _ t=>by simp [AVs.length t]
theorem AVs.get:∀ {ds:List D} {vs:List V} {i:Nat} {d:D},AVs K W H ds vs→ds[i]?=some d→∃ v,vs[i]?=some v∧AV K W H d v
  | _,_,_,_, .nil,e=>by simp at e
  | _,_,0,_, .cons h _,e=>by simp at e; subst e; exact ⟨_,rfl,h⟩
  | _,_,i + 1,d, .cons _ t,e=>by
    obtain ⟨v,h1,h2⟩:=AVs.get (i:=i) (d:=d) t (by simpa using e)
    exact ⟨v,by simpa using h1,h2⟩
theorem AVs.append:∀ {ds es:List D} {vs us:List V},AVs K W H ds vs→AVs K W H es us→AVs K W H (ds++es) (vs++us)
  | _,_,_,_, .nil,s=>s
  | _,_,_,_, .cons r t,s => .cons r (AVs.append t s)
theorem AVs.take:∀ {ds:List D} {vs:List V} (n:Nat),AVs K W H ds vs→AVs K W H (ds.take n) (vs.take n)
  | _,_,0,_ => .nil
  | _,_,_ + 1, .nil => .nil
  | _,_,n + 1, .cons r t => .cons r (AVs.take n t)
theorem AVs.drop:∀ {ds:List D} {vs:List V} (n:Nat),AVs K W H ds vs→AVs K W H (ds.drop n) (vs.drop n)
  | _,_,0,r=>r
  | _,_,_ + 1, .nil => .nil
  | _,_,n + 1, .cons _ t=>AVs.drop n t
theorem AVf.look:∀ {fs:List (Str × D)} {vs:List (Str × V)} {f:Str} {d:D},AVf K W H fs vs→fs.lookup f=some d→∃ v,vs.lookup f=some v∧AV K W H d v
  | _,_,_,_, .nil,e=>by cases e
  | (g,x) :: r,_,f,d, .cons h hs,e=>by
    rw [List.lookup_cons] at e ⊢
    cases q:f == g with
    | true=>rw [q] at e; cases e; exact ⟨_,rfl,h⟩
    | false=>rw [q] at e; exact AVf.look hs e
theorem AVf.none_of:∀ {fs:List (Str × D)} {vs:List (Str × V)} {f:Str},AVf K W H fs vs→fs.lookup f=none→vs.lookup f=none
  | _,_,_, .nil,e=>rfl
  | (g,x) :: r,_,f, .cons h hs,e=>by
    rw [List.lookup_cons] at e ⊢
    cases q:f == g with
    | true=>rw [q] at e; cases e
    | false=>rw [q] at e; exact AVf.none_of hs e
end
def Z1 (i:Nat):M:=fun e S=>match e[i]? with
  | some (some x) => .ok x S
  | _ => .bad
def m_c (d:D):M:=fun _ S => .ok (.d d) S
section
variable {X:Cx} {Wx:WX} {pos:Pos}
theorem PE.of {X:Cx} {e:Expr} {t t':TE} (h:PE X e t) (w:∀ σ H Q,t' σ H Q→t σ H Q):PE X e t':=⟨fun pins s σ H Q I q=>h.run pins s σ H Q I (w σ H Q q)⟩
theorem Z3 (i:Nat) {x:Str} (hN:X.N[i]?=some x:=by rfl) (hv:Vis X.env.scope x:=by first | exact Or.inl rfl | exact Or.inr (Or.inl rfl) | exact Or.inr (Or.inr rfl)) (hd:(x == ("__debug__" : Str))=false:=by decide)
    (hcd:(x == ("__classdict__" : Str))=false:=by decide):ME X Wx (.Name x pos) (Z1 i):=PE.of (pe_var hN hv hd hcd) fun σ H Q ⟨Z,ρ,e,S,st,ev,p⟩=>by
  unfold Z1 at p
  cases q:e[i]? with
  | none=>rw [q] at p; exact p.elim
  | some o =>
    cases o with
    | none=>rw [q] at p; exact p.elim
    | some x =>
      rw [q] at p
      obtain ⟨v,h1,h2⟩:=ev.at_ i x q
      exact ⟨v,h1,p.ret0 st h2⟩
theorem X3f {e:Expr} {d:D} {v:V} (h:PE X e (tC v)) (a:∀ W H,AV X.K W H d v):ME X Wx e (m_c d):=PE.of h fun σ H Q ⟨Z,ρ,e,S,st,ev,p⟩=>W5.ret0 p st (.d (a _ _))
theorem X0 {i:Int} {j}:ME X Wx (.Constant (.int i) j pos) (m_c (.int i)):=X3f pe_int fun _ _ => .int i
theorem Z8a {b:Bool} {j}:ME X Wx (.Constant (.bool b) j pos) (m_c (.bl b)):=X3f pe_bl fun _ _ => .bl b
theorem Z8k {j}:ME X Wx (.Constant .none j pos) (m_c .non):=X3f pe_non fun _ _ => .non
theorem X9 {x:Str} {j} (h:PyData.strOk x=true:=by decide +kernel):ME X Wx (.Constant (.str x) j pos) (m_c (.str x)):=X3f pe_str fun _ _ => .str h
theorem Y4p {x:Str} {d:D} {u:Value} (hg:Gl X x) (hm:X.mg x=some u) (h:∃ v,(∀ W H,AV X.K W H d v)∧RelV v u) (hd:(x == ("__debug__" : Str))=false:=by decide):ME X Wx (.Name x pos) (m_c d):=by
  obtain ⟨v,a,r⟩:=h
  exact X3f (pe_glob hg hm r hd) a
end
def Op2 (K:PySem.W.Frag) (r:R2) (f:D→D→Option D):Prop:=∀ (W:Wd) (H:Hp) (d1 d2:D) (v1 v2:V) (d:D) (Q:VK),(∀ a,W a→∃ o,H a=some o)→AW K W H d1 v1→AW K W H d2 v2→f d1 d2=some d →
  (∀ H' v,Same H H'→AV K W H' d v→Q v H')→r v1 v2 H Q
def op2 (f:D→D→Option D) (S:Sto) (x y:X):R X:=match x.get S,y.get S with
  | some a,some b=>(match f a b with
    | some d => .ok (.d d) S
    | none => .bad)
  | _,_ => .bad
def Y2 (f:D→D→Option D) (ma mb:M):M:=fun e S=>(ma e S).bind fun x S1=>(mb e S1).bind fun y S2=>op2 f S2 x y
section
variable {X:Cx} {Wx:WX} {pos:Pos} {a b c:Expr} {ma mb mc:M}
theorem Z4k {W:Wd} {H H':Hp} (k:Same H H'):Mv W H W H':=fun a o h q=>⟨h,k a o q⟩
theorem X38 {r:R2} {f:D→D→Option D} (hf:Op2 X.K r f) {Z:Wd} {ρ:List Addr} {S:Sto} {H:Hp} {σ:St} {Q:VK} {x y:Bv.X} {v1 v2:V} (st:Sta X.K Z ρ S H) (a1:AX X.K (Wn Z ρ) ρ H x v1) (a2:AX X.K (Wn Z ρ) ρ H y v2)
    (p:Z55 X.K Z ρ H Wx σ Q (op2 f S x y)):r v1 v2 H Q:=by
  unfold op2 at p
  cases e1:x.get S with
  | none=>rw [e1] at p; exact p.elim
  | some d1 =>
    cases e2:y.get S with
    | none=>rw [e1,e2] at p; exact p.elim
    | some d2 =>
      rw [e1,e2] at p
      have p:Z55 X.K Z ρ H Wx σ Q (match f d1 d2 with
        | some d => .ok (.d d) S
        | none => .bad):=p
      cases e3:f d1 d2 with
      | none=>rw [e3] at p; exact p.elim
      | some d =>
        rw [e3] at p
        exact hf (Wn Z ρ) H d1 d2 v1 v2 d Q (fun _ h=>st.thereW h) (a1.get st e1) (a2.get st e2) e3 fun H' v k h=>p.ret st k (.d h)
theorem Y8k {r:R2} {f:D→D→Option D} (hf:Op2 X.K r f) {σ:St} {H:Hp} {Q:VK} (h:RE X.K Wx (Y2 f ma mb) σ H Q):tOp r (RE X.K Wx ma) (RE X.K Wx mb) σ H Q:=by
  obtain ⟨Z,ρ,e,S,st,ev,p⟩:=h
  refine X6 st ev p fun ρ1 H1 v1 x S1 st1 g1 ev1 a1 p1=>?_
  refine X6 st1 ev1 p1 fun ρ2 H2 v2 y S2 st2 g2 ev2 a2 p2=>?_
  exact X38 hf st2 (a1.mv (g2.mv st1) g2.pre) a2 p2
theorem W73 {op:Operator} {r:R2} {f:D→D→Option D} (ho:OpR X (binaryOp op) r) (hf:Op2 X.K r f) (ha:ME X Wx a ma) (hb:ME X Wx b mb):ME X Wx (.BinOp a op b pos) (Y2 f ma mb) :=
  PE.of (pe_op ho ha hb) fun _ _ _ h=>Y8k hf h
theorem W4r {op:CmpOp} {r:R2} {f:D→D→Option D} (ho:OpR X (compareOp op) r) (hf:Op2 X.K r f) (ha:ME X Wx a ma) (hb:ME X Wx b mb) (hm:behindInMarks op b=false:=by first | exact nomark _ | (with_unfolding_all rfl)):ME X Wx (.Compare a [op] [b] pos) (Y2 f ma mb) :=
  PE.of (pe_cmpR ho ha hb hm) fun _ _ _ h=>Y8k hf h
def W3 (f g:D→D→Option D) (ma mb mc:M):M:=fun e S=>(ma e S).bind fun x S1=>(mb e S1).bind fun y S2=>(op2 f S2 x y).bind fun z S3=>match z with
  | .d (.bl true)=>(mc e S3).bind fun w S4=>op2 g S4 y w
  | .d (.bl false) => .ok (.d (.bl false)) S3
  | _ => .bad
end
end Bv
namespace Bv
open PySem PySem.Spec L2
open PyProof.Rows hiding St
variable [HasW]
mutual
def D.py:D→Option PyData
  | .non=>some .none
  | .bl b=>some (.bool b)
  | .int i=>some (.int i)
  | .str x=>some (.str x)
  | .tup ds=>match pys ds with
    | some l=>some (.tuple l)
    | none=>none
  | .lst ds=>match pys ds with
    | some l=>some (.list l)
    | none=>none
  | .scr ns=>some (.list (ns.map .int))
  | .dic _=>none
  | .obj _ _=>none
  | .gl _=>none
def pys:List D→Option (List PyData)
  | []=>some []
  | d :: r=>match d.py,pys r with
    | some p,some l=>some (p :: l)
    | _,_=>none
end
section
variable {K:PySem.W.Frag} {W:Wd} {H:Hp}
theorem X2f:∀ ns:List Int,DpAll K H (ns.map V.int) (ns.map PyData.int)
  | [] => .nil
  | n :: r => .cons (.int n) (X2f r)
theorem Y9o:∀ ns:List Int,PyData.canLayAll0 (ns.map PyData.int)=true
  | []=>by simp [PyData.canLayAll0]
  | n :: r=>by simp [PyData.canLayAll0,PyData.canLay0,Y9o r]
mutual
theorem AV.dp:∀ {d:D} {v:V} {p:PyData},AV K W H d v→d.py=some p→Dp K H v p∧p.canLay0=true
  | _,_,_, .non,e=>by cases e; exact ⟨.non,by simp [PyData.canLay0]⟩
  | _,_,_, .bl b,e=>by cases e; exact ⟨.bl b,by simp [PyData.canLay0]⟩
  | _,_,_, .int i,e=>by cases e; exact ⟨.int i,by simp [PyData.canLay0]⟩
  | _,_,_, .str h,e=>by cases e; exact ⟨.str _,by simpa [PyData.canLay0] using h⟩
  | _,_,_, .gl x,e=>by cases e
  | _,_,_, .scr h,e=>by cases e; exact ⟨.lst h.sl (X2f _),by simpa [PyData.canLay0] using Y9o _⟩
  | .tup ds,_,p, .tup t hs,e=>by
    have e1:(match pys ds with
      | some l=>some (PyData.tuple l)
      | none=>none)=some p:=by simpa [D.py] using e
    cases q:pys ds with
    | none=>rw [q] at e1; cases e1
    | some l =>
      rw [q] at e1; cases e1
      obtain ⟨h1,h2⟩:=AVs.dp hs q
      exact ⟨.tup t.sq h1,by simpa [PyData.canLay0] using h2⟩
  | .lst ds,_,p, .lst w h hs,e=>by
    have e1:(match pys ds with
      | some l=>some (PyData.list l)
      | none=>none)=some p:=by simpa [D.py] using e
    cases q:pys ds with
    | none=>rw [q] at e1; cases e1
    | some l =>
      rw [q] at e1; cases e1
      obtain ⟨h1,h2⟩:=AVs.dp hs q
      exact ⟨.lst (.inl (.inl h)) h1,by simpa [PyData.canLay0] using h2⟩
  | _,_,_, .dic w h hs,e=>by simp [D.py] at e
  | _,_,_, .obj w h hs,e=>by simp [D.py] at e
theorem AVs.dp:∀ {ds:List D} {vs:List V} {ps:List PyData},AVs K W H ds vs→pys ds=some ps→DpAll K H vs ps∧PyData.canLayAll0 ps=true
  | _,_,_, .nil,e=>by simp [pys] at e; subst e; exact ⟨.nil,by simp [PyData.canLayAll0]⟩
  | d :: r,_,ps, .cons h hs,e=>by
    cases q1:d.py with
    | none=>simp [pys,q1] at e
    | some p =>
      cases q2:pys r with
      | none=>simp [pys,q1,q2] at e
      | some l =>
        simp [pys,q1,q2] at e
        subst e
        obtain ⟨h1,h2⟩:=AV.dp h q1
        obtain ⟨h3,h4⟩:=AVs.dp hs q2
        exact ⟨.cons h1 h3,by simp [PyData.canLayAll0,h2,h4]⟩
end
theorem AW.dp {d:D} {v:V} {p:PyData} (h:AW K W H d v) (e:d.py=some p):Dp K H v p∧p.canLay0=true:=by
  cases h with
  | av h=>exact h.dp e
  | lst h hs =>
    rename_i a xs ds
    have e1:(match pys ds with
      | some l=>some (PyData.list l)
      | none=>none)=some p:=by simpa [D.py] using e
    cases q:pys ds with
    | none=>rw [q] at e1; cases e1
    | some l =>
      rw [q] at e1; cases e1
      obtain ⟨h1,h2⟩:=AVs.dp hs q
      exact ⟨.lst (.inl (.inl h)) h1,by simpa [PyData.canLay0] using h2⟩
  | fdc h hs=>simp [D.py] at e
end
def dOk (p:PyData):Bool:=decide (p.depth ≤ 64)
theorem Z6f {p:PyData} (h:p.canLay0=true) (d:dOk p=true):SeqAt.shaped p=true:=by
  unfold SeqAt.shaped
  rw [h,Bool.true_and]
  exact d
def eqD (a b:D):Option D:=match a.py,b.py with
  | some p,some q=>if dOk p && dOk q then some (.bl (PyData.eqv p q)) else none
  | _,_=>none
def neD (a b:D):Option D:=match a.py,b.py with
  | some p,some q=>if dOk p && dOk q then some (.bl (!PyData.eqv p q)) else none
  | _,_=>none
section
variable {K:PySem.W.Frag}
theorem X9h {a b d:D} {f:PyData→PyData→D} (e:(match a.py,b.py with
  | some p,some q=>if dOk p && dOk q then some (f p q) else none
  | _,_=>none)=some d):∃ p q,a.py=some p∧b.py=some q∧dOk p=true∧dOk q=true∧d=f p q:=by
  cases q1:a.py with
  | none=>rw [q1] at e; cases e
  | some p =>
    cases q2:b.py with
    | none=>rw [q1,q2] at e; cases e
    | some q =>
      rw [q1,q2] at e
      have e:(if dOk p && dOk q then some (f p q) else none)=some d:=e
      cases q3:dOk p && dOk q with
      | false=>rw [q3] at e; cases e
      | true =>
        rw [q3] at e
        cases e
        obtain ⟨h1,h2⟩:=Bool.and_eq_true_iff.mp q3
        exact ⟨p,q,rfl,rfl,h1,h2,rfl⟩
theorem W94:Op2 K (rEqD K) eqD:=fun W H d1 d2 v1 v2 d Q hw a1 a2 e k=>by
  obtain ⟨p,q,e1,e2,h1,h2,rfl⟩:=X9h (f:=fun p q => .bl (PyData.eqv p q)) e
  obtain ⟨x1,y1⟩:=a1.dp e1
  obtain ⟨x2,y2⟩:=a2.dp e2
  exact ⟨p,q,x1,x2,Z6f y1 h1,Z6f y2 h2,k H _ (Same.refl H) (.bl _)⟩
theorem W97:Op2 K (rNeD K) neD:=fun W H d1 d2 v1 v2 d Q hw a1 a2 e k=>by
  obtain ⟨p,q,e1,e2,h1,h2,rfl⟩:=X9h (f:=fun p q => .bl (!PyData.eqv p q)) e
  obtain ⟨x1,y1⟩:=a1.dp e1
  obtain ⟨x2,y2⟩:=a2.dp e2
  exact ⟨p,q,x1,x2,Z6f y1 h1,Z6f y2 h2,k H _ (Same.refl H) (.bl _)⟩
end
def inB (a b:D):Option Bool:=match a.py,b.py with
  | some p,some (.list l)=>if dOk p && dOk (.list l) then some (l.any fun z=>PyData.eqv z p) else none
  | some p,some (.tuple l)=>if dOk p && dOk (.tuple l) then some (l.any fun z=>PyData.eqv z p) else none
  | some (.str x),some (.str y)=>if x.cps.size=1 then some (y.cps.toList.contains (x.cps.getD 0 0)) else none
  | _,_=>none
def inD (a b:D):Option D:=(inB a b).map .bl
def X32 (a b:D):Option D:=(inB a b).map fun c => .bl (!c)
def W3e (neg:Bool) (K:PySem.W.Frag):R2:=fun x y H Q=>(∃ d ds,Dp K H x d∧(Dp K H y (.list ds) ∨ Dp K H y (.tuple ds))∧SeqAt.shaped d=true∧SeqAt.shaped (.list ds)=true∧Q (.bl (if neg then !ds.any fun z=>PyData.eqv z d else ds.any fun z=>PyData.eqv z d)) H) ∨
  ∃ (c:Nat) (z:Str),x = .str ⟨#[c]⟩∧y = .str z∧Q (.bl (if neg then !decide (c ∈ z.cps.toList) else decide (c ∈ z.cps.toList))) H
theorem W5g {X:Cx} (hu:X.A.units + 65 < cLine):OpR X (compareOp .In) (W3e false X.K):=by
  intro pins s σ H x y v u Q I rx ry h
  rcases h with ⟨d,ds,hd,he,sd,se,q⟩ | ⟨c,z,rfl,rfl,q⟩
  · obtain ⟨as,r1⟩:=Dp.reads I d x v hd rx
    rcases he with he | he
    · obtain ⟨bs,r2⟩:=Dp.reads I (.list ds) y u he ry
      exact SeqAt.in_list_reads r2 r1 (SeqAt.canLay_of_shaped se) (SeqAt.canLay_of_shaped sd) (room_in_shaped sd hu) ⟨.bl _,H,I,rfl,q⟩
    · obtain ⟨bs,r2⟩:=Dp.reads I (.tuple ds) y u he ry
      exact SeqAt.in_tuple_reads r2 r1 (SeqAt.canLay_of_shaped se) (SeqAt.canLay_of_shaped sd) (room_in_shaped sd hu) ⟨.bl _,H,I,rfl,q⟩
  · exact op_in_sign pins s σ H _ _ v u Q I rx ry ⟨c,z,rfl,rfl,q⟩
theorem W1s {X:Cx} (hu:X.A.units + 65 < cLine):OpR X (compareOp .NotIn) (W3e true X.K):=by
  intro pins s σ H x y v u Q I rx ry h
  rcases h with ⟨d,ds,hd,he,sd,se,q⟩ | ⟨c,z,rfl,rfl,q⟩
  · obtain ⟨as,r1⟩:=Dp.reads I d x v hd rx
    rcases he with he | he
    · obtain ⟨bs,r2⟩:=Dp.reads I (.list ds) y u he ry
      exact SeqAt.notIn_list_reads r2 r1 (SeqAt.canLay_of_shaped se) (SeqAt.canLay_of_shaped sd) (room_in_shaped sd hu) ⟨.bl _,H,I,rfl,q⟩
    · obtain ⟨bs,r2⟩:=Dp.reads I (.tuple ds) y u he ry
      exact SeqAt.notIn_tuple_reads r2 r1 (SeqAt.canLay_of_shaped se) (SeqAt.canLay_of_shaped sd) (room_in_shaped sd hu) ⟨.bl _,H,I,rfl,q⟩
  · exact op_notIn_sign pins s σ H _ _ v u Q I rx ry ⟨c,z,rfl,rfl,q⟩
theorem X67 {x:Str} (h:x.cps.size=1):x=⟨#[x.cps.getD 0 0]⟩:=by
  obtain ⟨a⟩:=x
  obtain ⟨l⟩:=a
  cases l with
  | nil=>cases h
  | cons c r =>
    cases r with
    | nil=>rfl
    | cons c' r=>simp at h
theorem X8e {K:PySem.W.Frag} {W:Wd} {H:Hp} {a b:D} {v1 v2:V} {c:Bool} (neg:Bool) {Q:VK} (a1:AW K W H a v1) (a2:AW K W H b v2) (e:inB a b=some c) (q:Q (.bl (if neg then !c else c)) H):W3e neg K v1 v2 H Q:=by
  unfold inB at e
  cases e1:a.py with
  | none=>rw [e1] at e; cases e
  | some p =>
    cases e2:b.py with
    | none=>rw [e1,e2] at e; cases p <;> cases e
    | some t =>
      rw [e1,e2] at e
      obtain ⟨x1,y1⟩:=a1.dp e1
      obtain ⟨x2,y2⟩:=a2.dp e2
      have seq:∀ {l:List PyData},(Dp K H v2 (.list l) ∨ Dp K H v2 (.tuple l))→PyData.canLayAll0 l=true→dOk (.list l)=true→dOk p=true→c=(l.any fun z=>PyData.eqv z p)→W3e neg K v1 v2 H Q:=fun {l} h hl hd hp hc=>by
        subst hc
        exact .inl ⟨p,l,x1,h,Z6f y1 hp,Z6f (by simpa [PyData.canLay0] using hl) hd,q⟩
      cases t with
      | list l =>
        have e:(if dOk p && dOk (.list l) then some (l.any fun z=>PyData.eqv z p) else none)=some c:=by cases p <;> exact e
        cases h:dOk p && dOk (.list l) with
        | false=>rw [h] at e; cases e
        | true =>
          rw [h] at e
          cases e
          obtain ⟨h1,h2⟩:=Bool.and_eq_true_iff.mp h
          exact seq (.inl x2) (by simpa [PyData.canLay0] using y2) h2 h1 rfl
      | tuple l =>
        have e:(if dOk p && dOk (.tuple l) then some (l.any fun z=>PyData.eqv z p) else none)=some c:=by cases p <;> exact e
        cases h:dOk p && dOk (.tuple l) with
        | false=>rw [h] at e; cases e
        | true =>
          rw [h] at e
          cases e
          obtain ⟨h1,h2⟩:=Bool.and_eq_true_iff.mp h
          exact seq (.inr x2) (by simpa [PyData.canLay0] using y2) (by simpa [dOk,PyData.depth] using h2) h1 rfl
      | str y =>
        cases p with
        | str x =>
          have e:(if x.cps.size=1 then some (y.cps.toList.contains (x.cps.getD 0 0)) else none)=some c:=e
          by_cases h:x.cps.size=1
          · rw [if_pos h] at e
            cases e
            cases x1
            cases x2
            refine .inr ⟨x.cps.getD 0 0,y,by rw [← X67 h],rfl,?_⟩
            rw [List.contains_eq_mem] at q
            exact q
          · rw [if_neg h] at e; cases e
        | _=>cases e
      | none=>cases p <;> cases e
      | bool _=>cases p <;> cases e
      | int _=>cases p <;> cases e
      | dict _=>cases p <;> cases e
section
variable {K:PySem.W.Frag}
theorem W95:Op2 K (W3e false K) inD:=fun W H d1 d2 v1 v2 d Q hw a1 a2 e k=>by
  obtain ⟨c,h1,h2⟩:=Option.map_eq_some_iff.mp (show (inB d1 d2).map D.bl=some d from e)
  subst h2
  exact X8e false a1 a2 h1 (k H _ (Same.refl H) (.bl _))
theorem W8d:Op2 K (W3e true K) X32:=fun W H d1 d2 v1 v2 d Q hw a1 a2 e k=>by
  obtain ⟨c,h1,h2⟩:=Option.map_eq_some_iff.mp (show (inB d1 d2).map (fun c=>D.bl (!c))=some d from e)
  subst h2
  exact X8e true a1 a2 h1 (k H _ (Same.refl H) (.bl _))
end
section
variable {K:PySem.W.Frag}
def ii (f:Int→Int→Option D):D→D→Option D
  | .int i, .int j=>f i j
  | _,_=>none
theorem AW.int_inv {W:Wd} {H:Hp} {i:Int} {v:V} (h:AW K W H (.int i) v):v = .int i:=by
  cases h with | av h=>cases h; rfl
theorem AW.str_inv {W:Wd} {H:Hp} {x:Str} {v:V} (h:AW K W H (.str x) v):v = .str x∧PyData.strOk x=true:=by
  cases h with | av h=>cases h with | str h=>exact ⟨rfl,h⟩
theorem AW.bl_inv {W:Wd} {H:Hp} {b:Bool} {v:V} (h:AW K W H (.bl b) v):v = .bl b:=by
  cases h with | av h=>cases h; rfl
theorem AW.non_inv {W:Wd} {H:Hp} {v:V} (h:AW K W H .non v):v = .non:=by
  cases h with | av h=>cases h; rfl
theorem Y9h {f:Int→Int→Option D} {a b d:D} (e:ii f a b=some d):∃ i j,a = .int i∧b = .int j∧f i j=some d:=by
  cases a with
  | int i=>cases b with
    | int j=>exact ⟨i,j,rfl,rfl,e⟩
    | _=>cases e
  | _=>cases b <;> cases e
theorem W5e {g:Int→Int→Int}:Op2 K (rI0 fun i j => .int (g i j)) (ii fun i j=>some (.int (g i j))):=fun W H d1 d2 v1 v2 d Q hw a1 a2 e k=>by
  obtain ⟨i,j,rfl,rfl,e0⟩:=Y9h e
  clear e
  have e:=e0
  clear e0
  cases e
  cases a1.int_inv
  cases a2.int_inv
  exact ⟨i,j,rfl,rfl,k H _ (Same.refl H) (.int _)⟩
theorem Y9w {C:Int→Int→Prop} [∀ i j,Decidable (C i j)] {g:Int→Int→Int}:Op2 K (rI C fun i j => .int (g i j)) (ii fun i j=>if C i j then some (.int (g i j)) else none):=fun W H d1 d2 v1 v2 d Q hw a1 a2 e k=>by
  obtain ⟨i,j,rfl,rfl,e0⟩:=Y9h e
  clear e
  have e:=e0
  clear e0
  by_cases h:C i j
  · rw [if_pos h] at e
    cases e
    cases a1.int_inv
    cases a2.int_inv
    exact ⟨i,j,rfl,rfl,h,k H _ (Same.refl H) (.int _)⟩
  · rw [if_neg h] at e; cases e
theorem Y9v {g:Int→Int→Bool}:Op2 K (rI0 fun i j => .bl (g i j)) (ii fun i j=>some (.bl (g i j))):=fun W H d1 d2 v1 v2 d Q hw a1 a2 e k=>by
  obtain ⟨i,j,rfl,rfl,e0⟩:=Y9h e
  clear e
  have e:=e0
  clear e0
  cases e
  cases a1.int_inv
  cases a2.int_inv
  exact ⟨i,j,rfl,rfl,k H _ (Same.refl H) (.bl _)⟩
instance (i j:Int):Decidable (CMul i j):=by unfold CMul; infer_instance
instance (i j:Int):Decidable (CDiv i j):=by unfold CDiv; infer_instance
instance (i j:Int):Decidable (CPow i j):=by unfold CPow; infer_instance
def W6x:D→D→Option D:=ii fun i j=>some (.int (i - j))
def X3n:D→D→Option D:=ii fun i j=>if CMul i j then some (.int (i * j)) else none
def Y7c:D→D→Option D:=ii fun i j=>if CDiv i j then some (.int (i / j)) else none
def Y7p:D→D→Option D:=ii fun i j=>if 0 < j then some (.int (i % j)) else none
def W3d:D→D→Option D:=ii fun i j=>if CPow i j then some (.int (i ^ j.toNat)) else none
def ltD:D→D→Option D:=ii fun i j=>some (.bl (decide (i < j)))
def leD:D→D→Option D:=ii fun i j=>some (.bl (decide (i ≤ j)))
def gtD:D→D→Option D:=ii fun i j=>some (.bl (decide (j < i)))
def geD:D→D→Option D:=ii fun i j=>some (.bl (decide (j ≤ i)))
end
section
variable {K:PySem.W.Frag} {W:Wd} {H:Hp}
theorem Z81 {p:Addr} {ds:List D} {xs:List V} (hw:∀ a,W a→∃ o,H a=some o) (hp:H p=none) (a:AVs K W H ds xs):AV K W (upd H p (.lst xs)) (.lst ds) (.ref p) :=
  .lst (fun z=>by obtain ⟨o,e⟩:=hw p z; rw [hp] at e; cases e) upd_same (a.mv (Z4k (U9 hp)))
theorem Y2j {p:Addr} {ds:List D} {xs:List V} (hw:∀ a,W a→∃ o,H a=some o) (hp:H p=none) (a:AVs K W H ds xs):AV K W (upd H p (.tup xs)) (.tup ds) (.ref p) :=
  .tup (.inl ⟨fun z=>(by obtain ⟨o,e⟩:=hw p z; rw [hp] at e; cases e),upd_same⟩) (a.mv (Z4k (U9 hp)))
theorem Z7q {x y:Str} (hx:PyData.strOk x=true) (hy:PyData.strOk y=true):PyData.strOk (x++y)=true:=by
  unfold PyData.strOk at *
  have e:(x++y).cps=x.cps++y.cps:=rfl
  rw [e,Array.all_append,hx,hy]; rfl
end
def Z4e (a b:D):Option D:=match a,b with
  | .int i, .int j=>some (.int (i + j))
  | .str x, .str y=>if x.length + y.length ≤ sizeLine then some (.str (x++y)) else none
  | .lst xs, .lst ys=>if xs.length + ys.length ≤ sizeLine then some (.lst (xs++ys)) else none
  | .tup xs, .tup ys=>if xs.length + ys.length ≤ sizeLine then some (.tup (xs++ys)) else none
  | _,_=>none
def W5s (K:PySem.W.Frag):R2:=fun x y H Q=>((rI0 fun i j => .int (i + j)) x y H Q) ∨ ((∃ i j,x = .str i∧y = .str j∧i.length + j.length ≤ sizeLine∧Q (.str (i++j)) H) ∨ (rCat x y H Q ∨ rCatA K x y H Q))
theorem W1r {X:Cx}:OpR X (binaryOp .Add) (W5s X.K):=OpR.or op_add (OpR.or op_add_str (OpR.or op_cat op_catA))
theorem W8b {K:PySem.W.Frag}:Op2 K (W5s K) Z4e:=fun W H d1 d2 v1 v2 d Q hw a1 a2 e k=>by
  cases d1 with
  | int i=>cases d2 with
    | int j =>
      cases e
      cases a1.int_inv
      cases a2.int_inv
      exact .inl ⟨i,j,rfl,rfl,k H _ (Same.refl H) (.int _)⟩
    | _=>cases e
  | str x=>cases d2 with
    | str y =>
      have e:(if x.length + y.length ≤ sizeLine then some (D.str (x++y)) else none)=some d:=e
      by_cases h:x.length + y.length ≤ sizeLine
      · rw [if_pos h] at e
        cases e
        obtain ⟨rfl,h1⟩:=a1.str_inv
        obtain ⟨rfl,h2⟩:=a2.str_inv
        exact .inr (.inl ⟨x,y,rfl,rfl,h,k H _ (Same.refl H) (.str (Z7q h1 h2))⟩)
      · rw [if_neg h] at e; cases e
    | _=>cases e
  | lst xs=>cases d2 with
    | lst ys =>
      have e:(if xs.length + ys.length ≤ sizeLine then some (D.lst (xs++ys)) else none)=some d:=e
      by_cases h:xs.length + ys.length ≤ sizeLine
      · rw [if_pos h] at e
        cases e
        obtain ⟨a,vs,rfl,h1,q1⟩:=a1.sq
        obtain ⟨b,us,rfl,h2,q2⟩:=a2.sq
        refine .inr (.inr (.inl ⟨a,b,vs,us,rfl,rfl,h1,h2,by rw [← q1.length,← q2.length]; exact h,fun p hp=>?_⟩))
        exact k _ _ (U9 hp) (Z81 hw hp (q1.append q2))
      · rw [if_neg h] at e; cases e
    | _=>cases e
  | tup xs=>cases d2 with
    | tup ys =>
      have e:(if xs.length + ys.length ≤ sizeLine then some (D.tup (xs++ys)) else none)=some d:=e
      by_cases h:xs.length + ys.length ≤ sizeLine
      · rw [if_pos h] at e
        cases e
        obtain ⟨a,vs,rfl,h1,q1⟩:=a1.tq
        obtain ⟨b,us,rfl,h2,q2⟩:=a2.tq
        refine .inr (.inr (.inr ⟨a,b,vs,us,rfl,rfl,h1.sq,h2.sq,by rw [← q1.length,← q2.length]; exact h,fun z=>?_,fun z1 z2=>?_,fun _ _ p hp=>?_⟩))
        · subst z
          cases q1
          exact k H _ (Same.refl H) (.tup h2 q2)
        · subst z2
          cases q2
          rw [List.append_nil] at k
          exact k H _ (Same.refl H) (.tup h1 q1)
        · exact k _ _ (U9 hp) (Y2j hw hp (q1.append q2))
      · rw [if_neg h] at e; cases e
    | _=>cases e
  | _=>cases e
def D.isNon:D→Bool
  | .non=>true
  | _=>false
def isD (a b:D):Option D:=match b with
  | .non=>some (.bl a.isNon)
  | _=>none
theorem AW.isN {K:PySem.W.Frag} {W:Wd} {H:Hp} {d:D} {v:V} (h:AW K W H d v):decide (v = .non)=d.isNon:=by
  cases h with
  | av h=>cases h <;> simp [D.isNon]
  | lst h hs=>simp [D.isNon]
  | fdc h hs=>simp [D.isNon]
theorem W96 {K:PySem.W.Frag}:Op2 K (fun x y H Q=>y = .non∧Q (.bl (decide (x = .non))) H) isD:=fun W H d1 d2 v1 v2 d Q hw a1 a2 e k=>by
  cases d2 with
  | non =>
    cases a2.non_inv
    refine ⟨rfl,?_⟩
    rw [a1.isN]
    cases e
    exact k H _ (Same.refl H) (.bl _)
  | _=>cases e
end Bv
namespace Bv
open PySem PySem.Spec L2
open PyProof.Rows hiding St
variable [HasW]
def U1:D→Option Bool
  | .non=>some false
  | .bl b=>some b
  | .int i=>some (i != 0)
  | .str x=>if x.length ≤ sizeLine then some ((x.length:Int) != 0) else none
  | .lst ds=>some (!ds.isEmpty)
  | .tup ds=>some (!ds.isEmpty)
  | .dic _=>none
  | .scr ns=>some (!ns.isEmpty)
  | .obj _ _=>none
  | .gl _=>none
theorem AVs.isEmpty {K:PySem.W.Frag} {W:Wd} {H:Hp}:∀ {ds:List D} {vs:List V},AVs K W H ds vs→ds.isEmpty=vs.isEmpty
  | _,_, .nil=>rfl
  | _,_, .cons _ _=>rfl
theorem AW.tru {K:PySem.W.Frag} {W:Wd} {H:Hp} {d:D} {v:V} {b:Bool} (h:AW K W H d v) (e:U1 d=some b):TruV K v H b:=by
  cases d with
  | non=>cases h.non_inv; cases e; rfl
  | bl c=>cases h.bl_inv; cases e; rfl
  | int i=>cases h.int_inv; cases e; rfl
  | str x =>
    obtain ⟨rfl,_⟩:=h.str_inv
    have e:(if x.length ≤ sizeLine then some ((x.length:Int) != 0) else none)=some b:=e
    by_cases hx:x.length ≤ sizeLine
    · rw [if_pos hx] at e
      cases e
      exact ⟨hx,rfl⟩
    · rw [if_neg hx] at e; cases e
  | lst ds =>
    obtain ⟨a,xs,rfl,h1,h2⟩:=h.sq
    cases e
    exact .inl ⟨xs, .inl (.inl h1),by rw [h2.isEmpty]⟩
  | tup ds =>
    obtain ⟨a,xs,rfl,h1,h2⟩:=h.tq
    cases e
    exact .inr (.inl ⟨xs,h1.sq,by rw [h2.isEmpty]⟩)
  | dic ds=>cases e
  | scr ns =>
    cases e
    cases h with
    | av h=>cases h with
      | scr r=>exact .inl ⟨_,r.sl,by simp⟩
  | obj _ _=>cases e
  | gl _=>cases e
def V1 (S:Sto) (x:X):Option Bool:=(x.get S).bind U1
def Y7 (m:M):MG Bool:=fun e S=>(m e S).bind fun x S1=>match V1 S1 x with
  | some b => .ok b S1
  | none => .bad
def tb:X→Sto→R Bool:=fun x S=>match x with
  | .d (.bl b) => .ok b S
  | _ => .bad
def U3 (m:M):MG Bool:=fun e S=>(m e S).bind tb
def X7 (m:MG Bool):MG Bool:=fun e S=>(m e S).bind fun b S1 => .ok (!b) S1
def W4 (ma mb:MG Bool):MG Bool:=fun e S=>(ma e S).bind fun b S1=>if b then mb e S1 else .ok false S1
def U2 (ma mb:MG Bool):MG Bool:=fun e S=>(ma e S).bind fun b S1=>if b then .ok true S1 else mb e S1
def Z3q (m:MG Bool):M:=fun e S=>(m e S).bind fun b S1 => .ok (.d (.bl b)) S1
def Z0v (m:M):M:=Z3q (X7 (Y7 m))
def Q0 (ma mb:M):M:=fun e S=>(ma e S).bind fun x S1=>match V1 S1 x with
  | some true=>mb e S1
  | some false => .ok x S1
  | none => .bad
def Z25 (ma mb:M):M:=fun e S=>(ma e S).bind fun x S1=>match V1 S1 x with
  | some true => .ok x S1
  | some false=>mb e S1
  | none => .bad
def Z1q (mt:MG Bool) (ma mb:M):M:=fun e S=>(mt e S).bind fun b S1=>if b then ma e S1 else mb e S1
section
variable {X:Cx} {Wx:WX} {pos:Pos} {a b c:Expr} {ma mb mc:M} {rest:List Expr} {mt mu:MG Bool}
theorem AX.tru {K:PySem.W.Frag} {Z:Wd} {ρ:List Addr} {S:Sto} {H:Hp} {x:Bv.X} {v:V} {k:Bool} (st:Sta K Z ρ S H) (h:AX K (Wn Z ρ) ρ H x v) (e:V1 S x=some k):TruV K v H k:=by
  obtain ⟨d,h1,h2⟩:=Option.bind_eq_some_iff.mp e
  exact (h.get st h1).tru h2
theorem Z0x (h:ME X Wx a ma) (he:∀ whole,isTrue a X.env whole=(do let v ← whole; standAt a.pos; holding [v] (truthy v)):=by intro _; rfl):MT X Wx a (Y7 ma):=by
  refine ⟨fun pins s σ H Q I hq=>(pt_truth h he).run pins s σ H Q I ?_⟩
  obtain ⟨Z,ρ,e,S,st,ev,p⟩:=hq
  refine X6 st ev p fun ρ1 H1 v x S1 st1 g1 ev1 a1 p1=>?_
  cases q:V1 S1 x with
  | none=>rw [q] at p1; exact p1.elim
  | some k =>
    rw [q] at p1
    exact ⟨k,a1.tru st1 q,p1.ret0 st1 rfl⟩
theorem W40 {op:CmpOp} {r:R2} {f:D→D→Option D} (ho:OpR X (compareOp op) r) (hf:Op2 X.K r f) (ha:ME X Wx a ma) (hb:ME X Wx b mb) (hm:behindInMarks op b=false:=by first | exact nomark _ | (with_unfolding_all rfl)):MT X Wx (.Compare a [op] [b] pos) (U3 (Y2 f ma mb)):=by
  refine ⟨fun pins s σ H Q I hq=>(pt_cmpR ho ha hb hm).run pins s σ H Q I ?_⟩
  obtain ⟨Z,ρ,e,S,st,ev,p⟩:=hq
  show tOp r (RE X.K Wx ma) (RE X.K Wx mb) σ H fun x H'=>∃ k,x = .bl k∧Q k H'
  refine Y8k (f:=f) hf ?_
  refine X6 st ev p fun ρ1 H1 v x S1 st1 g1 ev1 a1 p1=>?_
  cases x with
  | r n=>exact p1.elim
  | d d =>
    cases d with
    | bl k =>
      cases a1 with
      | d h =>
        cases h
        exact ⟨k,rfl,p1.ret0 st1 rfl⟩
    | _=>exact p1.elim
theorem Z3b (h:MT X Wx a mt):MT X Wx (.UnaryOp .Not a pos) (X7 mt):=by
  refine ⟨fun pins s σ H Q I hq=>(pt_not h).run pins s σ H Q I ?_⟩
  obtain ⟨Z,ρ,e,S,st,ev,p⟩:=hq
  refine X6 st ev p fun ρ1 H1 v x S1 st1 g1 ev1 a1 p1=>?_
  cases (show x=v from a1)
  exact p1.ret0 st1 rfl
abbrev MW (X:Cx) (Wx:WX) (e:Expr) (m:MG Bool):Prop:=PW X e (RB X.K Wx m)
theorem Z5f (h:MT X Wx a mt):MW X Wx (.BoolOp .And [a] pos) mt:=pw_and1 h
theorem Z5g (h:MT X Wx a mt):MW X Wx (.BoolOp .Or [a] pos) mt:=pw_or1 h
theorem Z6c (h:MT X Wx a mt) (h2:MW X Wx (.BoolOp .And (b :: rest) pos) mu):MW X Wx (.BoolOp .And (a :: b :: rest) pos) (W4 mt mu):=by
  refine ⟨fun wh pins s σ H Q I hq=>(pw_and h h2).run wh pins s σ H Q I ?_⟩
  obtain ⟨Z,ρ,e,S,st,ev,p⟩:=hq
  refine X6 st ev p fun ρ1 H1 v x S1 st1 g1 ev1 a1 p1=>?_
  cases (show x=v from a1)
  cases v with
  | true=>exact ⟨Z,ρ1,e,S1,st1,ev1,p1⟩
  | false=>exact p1.ret0 st1 rfl
theorem Z7g (h:MT X Wx a mt) (h2:MW X Wx (.BoolOp .Or (b :: rest) pos) mu):MW X Wx (.BoolOp .Or (a :: b :: rest) pos) (U2 mt mu):=by
  refine ⟨fun wh pins s σ H Q I hq=>(pw_or h h2).run wh pins s σ H Q I ?_⟩
  obtain ⟨Z,ρ,e,S,st,ev,p⟩:=hq
  refine X6 st ev p fun ρ1 H1 v x S1 st1 g1 ev1 a1 p1=>?_
  cases (show x=v from a1)
  cases v with
  | true=>exact p1.ret0 st1 rfl
  | false=>exact ⟨Z,ρ1,e,S1,st1,ev1,p1⟩
theorem Y0o (h:MW X Wx a mt):MT X Wx a mt:=h.pt
theorem Y0m {op} (h:ME X Wx a ma):ME X Wx (.BoolOp op [a] pos) ma:=pe_one h
theorem Z9f (h:ME X Wx a ma) (h2:ME X Wx (.BoolOp .And (b :: rest) pos) mb):ME X Wx (.BoolOp .And (a :: b :: rest) pos) (Q0 ma mb):=PE.of (pe_andT h h2) fun σ H Q ⟨Z,ρ,e,S,st,ev,p⟩=>by
  refine X6 st ev p fun ρ1 H1 v x S1 st1 g1 ev1 a1 p1=>?_
  cases q:V1 S1 x with
  | none=>rw [q] at p1; exact p1.elim
  | some k =>
    rw [q] at p1
    refine ⟨k,a1.tru st1 q,?_⟩
    cases k with
    | true=>rw [if_pos rfl]; exact ⟨Z,ρ1,e,S1,st1,ev1,p1⟩
    | false=>rw [if_neg Bool.false_ne_true]; exact W5.ret0 p1 st1 a1
theorem W74 (h:ME X Wx a ma) (h2:ME X Wx (.BoolOp .Or (b :: rest) pos) mb):ME X Wx (.BoolOp .Or (a :: b :: rest) pos) (Z25 ma mb):=PE.of (pe_orT h h2) fun σ H Q ⟨Z,ρ,e,S,st,ev,p⟩=>by
  refine X6 st ev p fun ρ1 H1 v x S1 st1 g1 ev1 a1 p1=>?_
  cases q:V1 S1 x with
  | none=>rw [q] at p1; exact p1.elim
  | some k =>
    rw [q] at p1
    refine ⟨k,a1.tru st1 q,?_⟩
    cases k with
    | true=>rw [if_pos rfl]; exact W5.ret0 p1 st1 a1
    | false=>rw [if_neg Bool.false_ne_true]; exact ⟨Z,ρ1,e,S1,st1,ev1,p1⟩
theorem Y0x (hc:MT X Wx c mt) (h:ME X Wx a ma) (h2:ME X Wx b mb):ME X Wx (.IfExp c a b pos) (Z1q mt ma mb):=PE.of (pe_ifExp hc h h2) fun σ H Q ⟨Z,ρ,e,S,st,ev,p⟩=>by
  refine X6 st ev p fun ρ1 H1 v x S1 st1 g1 ev1 a1 p1=>?_
  cases (show x=v from a1)
  cases v with
  | true=>exact ⟨Z,ρ1,e,S1,st1,ev1,p1⟩
  | false=>exact ⟨Z,ρ1,e,S1,st1,ev1,p1⟩
theorem X16 {r r':R2} {f g:D→D→Option D} (hf:Op2 X.K r f) (hg:Op2 X.K r' g) {σ:St} {H:Hp} {Q:VK} (h:RE X.K Wx (W3 f g ma mb mc) σ H Q):tChain r r' (RE X.K Wx ma) (RE X.K Wx mb) (RE X.K Wx mc) σ H Q:=by
  obtain ⟨Z,ρ,e,S,st,ev,p⟩:=h
  refine X6 st ev p fun ρ1 H1 v x S1 st1 g1 ev1 a1 p1=>?_
  refine X6 st1 ev1 p1 fun ρ2 H2 u y S2 st2 g2 ev2 a2 p2=>?_
  have a1':=a1.mv (g2.mv st1) g2.pre
  have:=ev2
  have key:∀ d:D,op2 f S2 x y=R.ok (Bv.X.d d) S2→∃ d1 d2,x.get S2=some d1∧y.get S2=some d2∧f d1 d2=some d:=fun d q=>by
    unfold op2 at q
    cases e1:x.get S2 with
    | none=>rw [e1] at q; cases q
    | some d1 =>
      cases e2:y.get S2 with
      | none=>rw [e1,e2] at q; cases q
      | some d2 =>
        rw [e1,e2] at q
        have q:(match f d1 d2 with
          | some d=>R.ok (Bv.X.d d) S2
          | none => .bad) = .ok (Bv.X.d d) S2:=q
        cases e3:f d1 d2 with
        | none=>rw [e3] at q; cases q
        | some d3=>rw [e3] at q; cases q; exact ⟨d1,d2,rfl,rfl,e3⟩
  cases q:op2 f S2 x y with
  | bad=>rw [q] at p2; exact p2.elim
  | err C fs S3=>unfold op2 at q; split at q <;> (first | cases q | (split at q <;> cases q))
  | ok z S3 =>
    have hz:∃ d:D,z=Bv.X.d d∧S3=S2:=by
      unfold op2 at q
      split at q
      · split at q
        · cases q; exact ⟨_,rfl,rfl⟩
        · cases q
      · cases q
    obtain ⟨d,rfl,rfl⟩:=hz
    obtain ⟨d1,d2,e1,e2,e3⟩:=key d q
    rw [q] at p2
    refine hf (Wn Z ρ2) H2 d1 d2 v u d _ (fun _ h=>st2.thereW h) (a1'.get st2 e1) (a2.get st2 e2) e3 fun H3 w k a3=>?_
    cases d with
    | bl kk =>
      cases a3
      refine ⟨kk,rfl,?_⟩
      have st3:=st2.grow k
      have g3:Go ρ2 H2 ρ2 H3:=Go.grow k
      have ev3:=ev2.mv (g3.mv st2) g3.pre
      cases kk with
      | true =>
        rw [if_pos rfl]
        refine X6 st3 ev3 (W5.shift g3 st3 p2) fun ρ4 H4 w' y' S4 st4 g4 ev4 a4 p4=>?_
        exact X38 hg st4 (a2.mv ((g3.trans g4).mv st2) (g3.trans g4).pre) a4 p4
      | false =>
        rw [if_neg Bool.false_ne_true]
        exact W5.ret p2 st2 k (.d (.bl _))
    | _=>exact p2.elim
theorem W6i {m:M} {σ:St} {H:Hp} {Q:Bool→Hp→Prop} (h:RB X.K Wx (U3 m) σ H Q):RE X.K Wx m σ H fun x H'=>∃ k,x = .bl k∧Q k H':=by
  obtain ⟨Z,ρ,e,S,st,ev,p⟩:=h
  refine X6 st ev p fun ρ1 H1 v x S1 st1 g1 ev1 a1 p1=>?_
  cases x with
  | r n=>exact p1.elim
  | d d =>
    cases d with
    | bl k =>
      cases a1 with
      | d h =>
        cases h
        exact ⟨k,rfl,p1.ret0 st1 rfl⟩
    | _=>exact p1.elim
theorem X6q {op op':CmpOp} {r r':R2} {f g:D→D→Option D} (ho:OpR X (compareOp op) r) (ho':OpR X (compareOp op') r') (hf:Op2 X.K r f) (hg:Op2 X.K r' g) (ha:ME X Wx a ma) (hb:ME X Wx b mb) (hc:ME X Wx c mc)
    (hm:lastMarks [op,op'] [b,c]=false:=by with_unfolding_all rfl):MT X Wx (.Compare a [op,op'] [b,c] pos) (U3 (W3 f g ma mb mc)) :=
  ⟨fun pins s σ H Q I hq=>(pt_chain ho ho' ha hb hc hm).run pins s σ H Q I (X16 hf hg (W6i hq))⟩
end
end Bv
namespace Bv
open PySem PySem.Spec L2
open PyProof.Rows hiding St
variable [HasW]
def Z04 {α:Type} (o:Option α) (S:Sto):R α:=match o with
  | some a => .ok a S
  | none => .bad
theorem W5.opt {α β:Type} {rel:Wd→List Addr→Hp→α→β→Prop} {K:PySem.W.Frag} {Z:Wd} {ρ:List Addr} {H:Hp} {Wx:WX} {σ:St} {Q:β→Hp→Prop} {o:Option α} {S:Sto} (p:W5 rel K Z ρ H Wx σ Q (Z04 o S)):∃ a,o=some a∧W5 rel K Z ρ H Wx σ Q (.ok a S):=by
  cases o with
  | none=>exact p.elim
  | some a=>exact ⟨a,rfl,p⟩
def Z7:MG (List X):=fun _ S => .ok [] S
def Z0 (m:M) (ms:MG (List X)):MG (List X):=fun e S=>(m e S).bind fun x S1=>(ms e S1).bind fun xs S2 => .ok (x :: xs) S2
def items (S:Sto):X→Option (List X)
  | .d (.lst ds)=>some (ds.map .d)
  | .d (.tup ds)=>some (ds.map .d)
  | .d _=>none
  | .r n=>match S[n]? with
    | some (.lst xs)=>some xs
    | _=>none
def W9 (m:M) (ms:MG (List X)):MG (List X):=fun e S=>(m e S).bind fun x S1=>match items S1 x with
  | some ys=>(ms e S1).bind fun xs S2 => .ok (ys++xs) S2
  | none => .bad
section
variable {X:Cx} {Wx:WX} {pos p:Pos} {a b c:Expr} {es:List Expr} {ma mb mc m:M} {ms:MG (List Bv.X)}
theorem Paired.append {α β:Type} {F:α→β→Prop}:∀ {l1 l2:List α} {r1 r2:List β},Paired F l1 r1→Paired F l2 r2→Paired F (l1++l2) (r1++r2)
  | _,_,_,_, .nil,s=>s
  | _,_,_,_, .cons r t,s => .cons r (Paired.append t s)
theorem AVs.axs {K:PySem.W.Frag} {W:Wd} {ρ:List Addr} {H:Hp}:∀ {ds:List D} {vs:List V},AVs K W H ds vs→AXs K W ρ H (ds.map .d) vs
  | _,_, .nil => .nil
  | _,_, .cons h hs => .cons (.d h) (AVs.axs hs)
theorem AX.items {K:PySem.W.Frag} {Z:Wd} {ρ:List Addr} {S:Sto} {H:Hp} {x:Bv.X} {v:V} {ys:List Bv.X} (st:Sta K Z ρ S H) (h:AX K (Wn Z ρ) ρ H x v) (e:items S x=some ys) :
    ∃ q xs,v = .ref q∧(SqT K H q xs ∨ SqL K H q xs)∧AXs K (Wn Z ρ) ρ H ys xs:=by
  cases h with
  | d h =>
    cases h with
    | lst w r hs=>cases e; exact ⟨_,_,rfl, .inr (.inl (.inl r)),hs.axs⟩
    | tup t hs=>cases e; exact ⟨_,_,rfl, .inl t.sq,hs.axs⟩
    | _=>cases e
  | r h =>
    rename_i n q
    have e1:(match S[n]? with
      | some (.lst xs)=>some xs
      | _=>none)=some ys:=e
    cases z:S[n]? with
    | none=>rw [z] at e1; cases e1
    | some o =>
      rw [z] at e1
      cases o with
      | lst xs =>
        cases e1
        obtain ⟨vs,h1,h2⟩:=st.ob n _ q z h
        exact ⟨q,vs,rfl, .inr (.inl (.inl h1)),h2⟩
      | _=>cases e1
theorem Y0:MA X Wx [] Z7:=⟨fun pos pins s σ H Q I h=>pa_nil.run pos pins s σ H Q I (by
  obtain ⟨Z,ρ,e,S,st,ev,p⟩:=h
  exact W5.ret0 p st .nil)⟩
theorem PA.of {X:Cx} {es:List Expr} {t t':TA} (h:PA X es t) (w:∀ σ H Q,t' σ H Q→t σ H Q):PA X es t':=⟨fun pos pins s σ H Q I q=>h.run pos pins s σ H Q I (w σ H Q q)⟩
theorem Z4 (h:ME X Wx a ma) (h2:MA X Wx es ms) (hs:starEach (a :: es) X.env=(false,eval a X.env) :: starEach es X.env:=by rfl):MA X Wx (a :: es) (Z0 ma ms):=PA.of (pa_cons h h2 hs) fun σ H Q ⟨Z,ρ,e,S,st,ev,p⟩=>by
  refine X6 st ev p fun ρ1 H1 v x S1 st1 g1 ev1 a1 p1=>?_
  refine X6 st1 ev1 p1 fun ρ2 H2 vs xs S2 st2 g2 ev2 a2 p2=>?_
  exact W5.ret0 p2 st2 (.cons (a1.mv (g2.mv st1) g2.pre) a2)
theorem Z6q (h:ME X Wx a ma) (h2:MA X Wx es ms) (hs:starEach (.Starred a p :: es) X.env=(true,eval a X.env) :: starEach es X.env:=by rfl):MA X Wx (.Starred a p :: es) (W9 ma ms):=PA.of (StX.pa_star h h2 hs) fun σ H Q ⟨Z,ρ,e,S,st,ev,p⟩=>by
  refine X6 st ev p fun ρ1 H1 v x S1 st1 g1 ev1 a1 p1=>?_
  cases q:items S1 x with
  | none=>rw [q] at p1; exact p1.elim
  | some ys =>
    rw [q] at p1
    obtain ⟨b,us,rfl,hq,ha⟩:=a1.items st1 q
    refine ⟨b,us,rfl,hq,?_⟩
    refine X6 st1 ev1 p1 fun ρ2 H2 vs xs S2 st2 g2 ev2 a2 p2=>?_
    exact W5.ret0 p2 st2 (Paired.append (ha.mv (g2.mv st1) g2.pre) a2)
def Z0p (xs:List Bv.X) (S:Sto):R Bv.X:=match ds? xs with
  | some ds=>if ds.length ≤ sizeLine then .ok (.d (.tup ds)) S else .bad
  | none => .bad
def Z0j (xs:List Bv.X) (S:Sto):R Bv.X:=match ds? xs with
  | some ds=>if ds.length ≤ sizeLine then .ok (.d (.lst ds)) S else .bad
  | none => .bad
def Z0o (xs:List Bv.X) (S:Sto):R Bv.X:=if xs.length ≤ sizeLine then .ok (.r S.length) (S++[.lst xs]) else .bad
def W1 (ms:MG (List Bv.X)):M:=fun e S=>(ms e S).bind Z0p
def V3 (ms:MG (List Bv.X)):M:=fun e S=>(ms e S).bind Z0j
def V2 (ms:MG (List Bv.X)):M:=fun e S=>(ms e S).bind Z0o
theorem Paired.length {α β:Type} {F:α→β→Prop}:∀ {l:List α} {r:List β},Paired F l r→l.length=r.length
  | _,_, .nil=>rfl
  | _,_, .cons _ t=>by simp [Paired.length t]
theorem Z1m {x1} (h:MA X Wx es ms):ME X Wx (.Tuple es x1 pos) (W1 ms):=PE.of (pe_tup h) fun σ H Q ⟨Z,ρ,e,S,st,ev,p⟩=>by
  refine X6 st ev p fun ρ1 H1 vs xs S1 st1 g1 ev1 a1 p1=>?_
  unfold Z0p at p1
  cases q:ds? xs with
  | none=>rw [q] at p1; exact p1.elim
  | some ds =>
    rw [q] at p1
    have p1:Z55 X.K Z ρ1 H1 Wx σ Q (if ds.length ≤ sizeLine then .ok (.d (.tup ds)) S1 else .bad):=p1
    by_cases hl:ds.length ≤ sizeLine
    · rw [if_pos hl] at p1
      have av:=AXs.ds a1 q
      exact ⟨by rw [← av.length]; exact hl,fun p hp=>W5.ret p1 st1 (U9 hp) (.d (Y2j (fun _ h=>st1.thereW h) hp av))⟩
    · rw [if_neg hl] at p1; exact p1.elim
theorem Z2y (h:MA X Wx es ms):ME X Wx (.List es pos) (V3 ms):=PE.of (pe_lst h) fun σ H Q ⟨Z,ρ,e,S,st,ev,p⟩=>by
  refine X6 st ev p fun ρ1 H1 vs xs S1 st1 g1 ev1 a1 p1=>?_
  unfold Z0j at p1
  cases q:ds? xs with
  | none=>rw [q] at p1; exact p1.elim
  | some ds =>
    rw [q] at p1
    have p1:Z55 X.K Z ρ1 H1 Wx σ Q (if ds.length ≤ sizeLine then .ok (.d (.lst ds)) S1 else .bad):=p1
    by_cases hl:ds.length ≤ sizeLine
    · rw [if_pos hl] at p1
      have av:=AXs.ds a1 q
      exact ⟨by rw [← av.length]; exact hl,fun p hp=>W5.ret p1 st1 (U9 hp) (.d (Z81 (fun _ h=>st1.thereW h) hp av))⟩
    · rw [if_neg hl] at p1; exact p1.elim
theorem Sta.pushL {K:PySem.W.Frag} {Z:Wd} {ρ:List Addr} {S:Sto} {H:Hp} {q:Addr} {xs:List Bv.X} {vs:List V} (s:Sta K Z ρ S H) (hq:H q=none) (a:AXs K (Wn Z ρ) ρ H xs vs) :
    Sta K Z (ρ++[q]) (S++[.lst xs]) (upd H q (.lst vs))∧Go ρ H (ρ++[q]) (upd H q (.lst vs)):=by
  have g:Go ρ H (ρ++[q]) (upd H q (.lst vs)):=⟨List.prefix_append _ _,fun b o h e=>⟨fun z=>(by
    rcases List.mem_append.mp z with z | z
    · exact h z
    · have:b=q:=by simpa using z
      rw [this,hq] at e; cases e),U9 hq b o e⟩,fun b _ _ e=>U9 hq b _ e⟩
  exact s.push hq (U9 hq) ⟨vs,upd_same,a.mv (g.mv s) g.pre⟩
theorem Z6r (h:MA X Wx es ms):ME X Wx (.List es pos) (V2 ms):=PE.of (pe_lst h) fun σ H Q ⟨Z,ρ,e,S,st,ev,p⟩=>by
  refine X6 st ev p fun ρ1 H1 vs xs S1 st1 g1 ev1 a1 p1=>?_
  unfold Z0o at p1
  by_cases hl:xs.length ≤ sizeLine
  · rw [if_pos hl] at p1
    refine ⟨by rw [← Paired.length a1]; exact hl,fun q hq=>?_⟩
    obtain ⟨h1,h2⟩:=st1.pushL hq a1
    exact p1 _ _ _ h1 h2 (.r (by rw [st1.len]; simp))
  · rw [if_neg hl] at p1; exact p1.elim
def Z0i (Cs:List Str) (f:Str) (S:Sto):Bv.X→Option Bv.X
  | .d (.obj C fs)=>if Cs.contains C then (fs.lookup f).map .d else none
  | .d _=>none
  | .r n=>match S[n]? with
    | some (.ins C fs)=>if Cs.contains C then fs.lookup f else none
    | _=>none
def Y4 (Cs:List Str) (f:Str) (m:M):M:=fun e S=>(m e S).bind fun x S1=>Z04 (Z0i Cs f S1 x) S1
def Z6w (K:PySem.W.Frag) (Cs:List Str) (f:Str):Prop:=∀ C ∈ Cs,Cls K (He.ga K C)∧NoAttr K (He.ga K C) f
theorem Y3s {K:PySem.W.Frag} {W:Wd} {ρ:List Addr} {H:Hp}:∀ {fs:List (Str × Bv.X)} {vs:List (Str × V)} {f:Str} {x:Bv.X},Paired (fun (p:Str × Bv.X) (q:Str × V)=>p.1=q.1∧AX K W ρ H p.2 q.2) fs vs→fs.lookup f=some x→∃ v,vs.lookup f=some v∧AX K W ρ H x v
  | _,_,_,_, .nil,e=>by cases e
  | (g,y) :: r,(g',v) :: r',f,x, .cons ⟨h1,h2⟩ hs,e=>by
    cases (show g=g' from h1)
    rw [List.lookup_cons] at e ⊢
    cases q:f == g with
    | true=>rw [q] at e; cases e; exact ⟨_,rfl,h2⟩
    | false=>rw [q] at e; exact Y3s hs e
theorem Y3t {K:PySem.W.Frag} {W:Wd} {ρ:List Addr} {H:Hp}:∀ {fs:List (Str × Bv.X)} {vs:List (Str × V)} {f:Str},Paired (fun (p:Str × Bv.X) (q:Str × V)=>p.1=q.1∧AX K W ρ H p.2 q.2) fs vs→fs.lookup f=none→vs.lookup f=none
  | _,_,_, .nil,e=>rfl
  | (g,y) :: r,(g',v) :: r',f, .cons ⟨h1,h2⟩ hs,e=>by
    cases (show g=g' from h1)
    rw [List.lookup_cons] at e ⊢
    cases q:f == g with
    | true=>rw [q] at e; cases e
    | false=>rw [q] at e; exact Y3t hs e
theorem Z06 {α:Type} {c:Bool} {o:Option α} {a:α} (h:(if c then o else none)=some a):c=true∧o=some a:=by
  cases c with
  | true=>exact ⟨rfl,h⟩
  | false=>cases h
theorem V9 {f:Str} (Cs:List Str) (T:Z6w X.K Cs f) (h:ME X Wx a ma) (hb:attributeBase a f X.env (eval a X.env)=eval a X.env:=by rfl):ME X Wx (.Attribute a f pos) (Y4 Cs f ma):=PE.of (pe_fld h hb) fun σ H Q ⟨Z,ρ,e,S,st,ev,p⟩=>by
  refine X6 st ev p fun ρ1 H1 v x S1 st1 g1 ev1 a1 p1=>?_
  obtain ⟨y,hy,p2⟩:=p1.opt
  clear p1
  cases a1 with
  | d h1 =>
    cases h1 with
    | obj w r hs =>
      rename_i C q dx vs fs
      obtain ⟨hc,hl⟩:=Z06 (show (if Cs.contains C then (fs.lookup f).map Bv.X.d else none)=some y from hy)
      obtain ⟨d,z,rfl⟩:=Option.map_eq_some_iff.mp hl
      obtain ⟨v,h2,h3⟩:=hs.look z
      obtain ⟨t1,t2⟩:=T C (by simpa using hc)
      exact ⟨_,_,_,_,v,rfl,r,t1,t2,h2,W5.ret0 p2 st1 (.d h3)⟩
    | _=>cases hy
  | r h1 =>
    rename_i n q
    cases z:S1[n]? with
    | none=>simp [Z0i,z] at hy
    | some o =>
      cases o with
      | ins C fs =>
        obtain ⟨hc,hl⟩:=Z06 (show (if Cs.contains C then fs.lookup f else none)=some y by simpa [Z0i,z] using hy)
        obtain ⟨dx,vs,h2,h3⟩:=st1.ob n _ q z h1
        obtain ⟨v,h4,h5⟩:=Y3s h3 hl
        obtain ⟨t1,t2⟩:=T C (by simpa using hc)
        exact ⟨_,_,_,_,v,rfl,h2,t1,t2,h4,W5.ret0 p2 st1 h5⟩
      | _=>simp [Z0i,z] at hy
def ixD:Bv.X→Int→Option Bv.X
  | .d (.str z),i=>if decide (z.length ≤ sizeLine) then (atI z.cps.toList i).map fun c => .d (.str ⟨#[c]⟩) else none
  | .d (.scr ns),i=>(atI ns i).map fun z => .d (.int z)
  | _,_=>none
def ixO (S:Sto) (x:Bv.X) (i:Int):Option Bv.X:=match items S x with
  | some xs=>atI xs i
  | none=>ixD x i
def Z2v:Bv.X→Option Int
  | .d (.int i)=>some i
  | _=>none
def V5 (ma mb:M):M:=fun e S=>(ma e S).bind fun x S1=>(mb e S1).bind fun y S2=>Z04 ((Z2v y).bind (ixO S2 x)) S2
theorem AX.int {K:PySem.W.Frag} {W:Wd} {ρ:List Addr} {H:Hp} {x:Bv.X} {v:V} {i:Int} (a:AX K W ρ H x v) (h:Z2v x=some i):v = .int i:=by
  cases a with
  | r _=>cases h
  | d h1 =>
    cases h1 with
    | int j=>cases h; rfl
    | _=>cases h
theorem X5m {α β:Type} {F:α→β→Prop} {l:List α} {r:List β} (p:Paired F l r) {i:Int} {a:α} (e:atI l i=some a):∃ b,atI r i=some b∧F a b:=by
  unfold atI at *
  rw [Paired.length p] at e
  cases q:ixN r.length i with
  | none=>rw [q] at e; cases e
  | some j =>
    rw [q] at e
    have e:l[j]?=some a:=e
    have go:∀ {l:List α} {r:List β} {j:Nat},Paired F l r→l[j]?=some a→∃ b,r[j]?=some b∧F a b:=fun {l r j} p=>by
      induction p generalizing j with
      | nil=>intro z; simp at z
      | cons x _ ih =>
        intro z
        cases j with
        | zero=>simp at z; subst z; exact ⟨_,rfl,x⟩
        | succ n=>simp at z; obtain ⟨b,h1,h2⟩:=ih z; exact ⟨b,by simpa using h1,h2⟩
    obtain ⟨b,h1,h2⟩:=go p e
    exact ⟨b,h1,h2⟩
theorem Y2w {z:Str} {c:Nat} (h:PyData.strOk z=true) (m:c ∈ z.cps.toList):c < 0x110000:=by
  have h2:=Array.all_eq_true_iff_forall_mem.mp (show z.cps.all (· < 0x110000)=true from h) c (by simpa using m)
  simpa using h2
theorem Y1c {z:Str} (h:∀ c ∈ z.cps.toList,c < 0x110000):PyData.strOk z=true:=by
  show z.cps.all (· < 0x110000)=true
  exact Array.all_eq_true_iff_forall_mem.mpr fun c m=>by simpa using h c (by simpa using m)
theorem X9p {α:Type} {l:List α} {i:Int} {a:α} (e:atI l i=some a):a ∈ l:=by
  unfold atI at e
  cases q:ixN l.length i with
  | none=>rw [q] at e; cases e
  | some j=>rw [q] at e; exact List.mem_of_getElem? e
theorem U8 (ha:ME X Wx a ma) (hb:ME X Wx b mb) (hs:PlainIx b:=by exact fun _ _=>rfl):ME X Wx (.Subscript a b pos) (V5 ma mb):=PE.of (pe_ix ix_seq ha hb hs) fun σ H Q ⟨Z,ρ,e,S,st,ev,p⟩=>by
  refine X6 st ev p fun ρ1 H1 v x S1 st1 g1 ev1 a1 p1=>?_
  refine X6 st1 ev1 p1 fun ρ2 H2 u y S2 st2 g2 ev2 a2 p2=>?_
  have a1':=a1.mv (g2.mv st1) g2.pre
  clear a1
  obtain ⟨w,hw0,p2'⟩:=p2.opt
  clear p2 p1 p
  obtain ⟨i,hi,hw⟩:=Option.bind_eq_some_iff.mp hw0
  clear hw0
  have eu:=a2.int hi
  subst eu
  cases q:items S2 x with
  | some xs =>
    have q2:atI xs i=some w:=by simpa [ixO,q] using hw
    obtain ⟨b,us,rfl,hq,ha⟩:=a1'.items st2 q
    obtain ⟨w',h1,h2⟩:=X5m ha q2
    rcases hq with hq | hq
    · exact .inr (.inl ⟨_,us,i,w',rfl,rfl,hq,h1,W5.ret0 p2' st2 h2⟩)
    · exact .inl ⟨_,us,i,w',rfl,rfl,hq,h1,W5.ret0 p2' st2 h2⟩
  | none =>
    have hw2:ixD x i=some w:=by simpa [ixO,q] using hw
    clear hw
    cases a1' with
    | r h=>cases hw2
    | d h =>
      cases h with
      | str hz =>
        rename_i z
        obtain ⟨hl,hc⟩:=Z06 hw2
        obtain ⟨c,q2,rfl⟩:=Option.map_eq_some_iff.mp hc
        refine .inr (.inr ⟨z,i,c,rfl,rfl,of_decide_eq_true hl,q2,W5.ret0 p2' st2 (.d (.str ?_))⟩)
        have hc:=Y2w hz (X9p q2)
        exact Y1c fun c' m=>by
          have:c'=c:=by simpa using m
          rw [this]; exact hc
      | scr r =>
        rename_i q' ns
        obtain ⟨z,q2,rfl⟩:=Option.map_eq_some_iff.mp hw2
        refine .inl ⟨_,ns.map V.int,i, .int z,rfl,rfl,r.sl,?_,W5.ret0 p2' st2 (.d (.int z))⟩
        unfold atI at *
        rw [List.length_map]
        cases q3:ixN ns.length i with
        | none=>rw [q3] at q2; cases q2
        | some j =>
          rw [q3] at q2
          have q2:ns[j]?=some z:=q2
          show (ns.map V.int)[j]?=some (.int z)
          rw [List.getElem?_map,q2]; rfl
      | _=>cases hw2
end
end Bv
namespace Bv
open PySem PySem.Spec L2
open PyProof.Rows hiding St
variable [HasW]
inductive Out where
  | nx (e:Ev) | rt (x:X) | bk (e:Ev) | ct (e:Ev) | rp (d:D) | rq (xs:List X)
inductive RO where
  | go (o:Out) (S:Sto) | err (C:Str) (fs:List (Str × D)) (e:Ev) (S:Sto) | bad
abbrev MS:=Ev→Sto→RO
def W3f (K:PySem.W.Frag) (W:Wd) (H H':Hp) (fs:List (Str × D)) (d:Option Addr):Prop :=
  (d=none∧fs=[]) ∨ ∃ (dd:Addr) (vs:List (Str × V)),d=some dd∧H dd=none∧¬ W dd∧H' dd=some (.xd vs)∧AVf K W H' fs vs
def Z3j (K:PySem.W.Frag) (Z:Wd) (ρ:List Addr) (H:Hp) (Wx:WX) (D:Ends):RO→Prop
  | .go (.nx e) S'=>∀ (ρ':List Addr) (H':Hp) (σ':St),Sta K Z ρ' S' H'→Go ρ H ρ' H'→EvOk K (Wn Z ρ') ρ' H' e σ'→D.nx σ' H'
  | .go (.bk e) S'=>∀ (ρ':List Addr) (H':Hp) (σ':St),Sta K Z ρ' S' H'→Go ρ H ρ' H'→EvOk K (Wn Z ρ') ρ' H' e σ'→D.bk σ' H'
  | .go (.ct e) S'=>∀ (ρ':List Addr) (H':Hp) (σ':St),Sta K Z ρ' S' H'→Go ρ H ρ' H'→EvOk K (Wn Z ρ') ρ' H' e σ'→D.ct σ' H'
  | .go (.rt x) S'=>∀ (ρ':List Addr) (H':Hp) (v:V),Sta K Z ρ' S' H'→Go ρ H ρ' H'→AX K (Wn Z ρ') ρ' H' x v→D.rt v H'
  | .go (.rp d) _=>∀ (H':Hp) (v:V),(∀ a o,a ∉ ρ→H a=some o→H' a=some o)→AV K Z H' d v→D.rt v H'
  | .go (.rq xs) S'=>∀ (ρ':List Addr) (H':Hp) (vs:List V) (t:Addr),Sta K Z ρ' S' H'→Go ρ H ρ' H'→AXs K (Wn Z ρ') ρ' H' xs vs→H' t=none→D.rt (.ref t) (upd H' t (.tup vs))
  | .err C fs e S'=>∀ (ρ':List Addr) (H':Hp) (σ':St) (d:Option Addr),Sta K Z ρ' S' H'→Go ρ H ρ' H'→EvOk K (Wn Z ρ') ρ' H' e σ'→W3f K (Wn Z ρ') H H' fs d→Wx (.ref (He.ga K C)) d σ' H'
  | .bad=>False
def RS (K:PySem.W.Frag) (Wx:WX) (m:MS):TS:=fun D σ H=>∃ (Z:Wd) (ρ:List Addr) (e:Ev) (S:Sto),Sta K Z ρ S H∧EvOk K (Wn Z ρ) ρ H e σ∧Z3j K Z ρ H Wx D (m e S)
abbrev MP (X:Cx) (Wx:WX) (st:Stmt) (m:MS):Prop:=PS X st (RS X.K Wx m)
abbrev MPs (X:Cx) (Wx:WX) (sts:List Stmt) (m:MS):Prop:=PSs X sts (RS X.K Wx m)
def R.so {α:Type} (r:R α) (e:Ev) (k:α→Sto→RO):RO:=match r with
  | .ok a S=>k a S
  | .err C fs S => .err C fs e S
  | .bad => .bad
section
variable {K:PySem.W.Frag} {Z:Wd} {ρ ρ1:List Addr} {S S1:Sto} {H H1:Hp} {Wx:WX} {σ:St} {D:Ends}
theorem W3f.back {W:Wd} {H':Hp} {fs:List (Str × Bv.D)} {d:Option Addr} (s1:∀ a o,H a=some o→∃ u,H1 a=some u) (h:W3f K W H1 H' fs d):W3f K W H H' fs d:=by
  rcases h with q | ⟨dd,vs,h1,h2,h3⟩
  · exact .inl q
  · refine .inr ⟨dd,vs,h1,?_,h3⟩
    cases e:H dd with
    | none=>rfl
    | some o =>
      obtain ⟨u,z⟩:=s1 dd o e
      rw [h2] at z; cases z
theorem Z3j.shift {r:RO} (g:Go ρ H ρ1 H1) (s1:Sta K Z ρ1 S1 H1) (h:Z3j K Z ρ H Wx D r):Z3j K Z ρ1 H1 Wx D r:=by
  cases r with
  | go o S' =>
    cases o with
    | nx e=>exact fun ρ' H' σ' st go ev=>h ρ' H' σ' st (g.trans go) ev
    | bk e=>exact fun ρ' H' σ' st go ev=>h ρ' H' σ' st (g.trans go) ev
    | ct e=>exact fun ρ' H' σ' st go ev=>h ρ' H' σ' st (g.trans go) ev
    | rt x=>exact fun ρ' H' v st go a=>h ρ' H' v st (g.trans go) a
    | rp d=>exact fun H' v k a=>h H' v (fun b o hb q=>let ⟨h1,q1⟩:=g.keep b o hb q; k b o h1 q1) a
    | rq xs=>exact fun ρ' H' vs t st go a ht=>h ρ' H' vs t st (g.trans go) a ht
  | err C fs e S'=>exact fun ρ' H' σ' d st go ev q=>h ρ' H' σ' d st (g.trans go) ev (q.back (Y96 g s1))
  | bad=>exact h
theorem Z1i {α β:Type} {rel:Wd→List Addr→Hp→α→β→Prop} {e:Ev} {m:MG α} {k:α→Sto→RO} {R':β→Hp→Prop} (st:Sta K Z ρ S H) (ev:EvOk K (Wn Z ρ) ρ H e σ) (h:Z3j K Z ρ H Wx D ((m e S).so e k))
    (next:∀ ρ1 H1 v x S1,Sta K Z ρ1 S1 H1→Go ρ H ρ1 H1→EvOk K (Wn Z ρ1) ρ1 H1 e σ→rel (Wn Z ρ1) ρ1 H1 x v→Z3j K Z ρ1 H1 Wx D (k x S1)→R' v H1):RG rel K Wx m σ H R':=by
  refine ⟨Z,ρ,e,S,st,ev,?_⟩
  cases q:m e S with
  | ok x S1 =>
    rw [q] at h
    exact fun ρ1 H1 v s1 g a=>next ρ1 H1 v x S1 s1 g (ev.mv (g.mv st) g.pre) a (Z3j.shift g s1 h)
  | err C fs S1 =>
    rw [q] at h
    exact fun ρ' H' d s1 g z=>h ρ' H' σ d s1 g (ev.mv (g.mv st) g.pre) z
  | bad=>rw [q] at h; exact h
theorem Z3j.next {e:Ev} (h:Z3j K Z ρ H Wx D (.go (.nx e) S)) (st:Sta K Z ρ S H) (ev:EvOk K (Wn Z ρ) ρ H e σ):D.nx σ H:=h ρ H σ st (Go.refl _ _) ev
end
def W7:MS:=fun e S => .go (.nx e) S
def RO.then (r:RO) (m:MS):RO:=match r with
  | .go (.nx e) S=>m e S
  | r=>r
def Z9 (m1 m2:MS):MS:=fun e S=>(m1 e S).then m2
def W0 (m:M):MS:=fun e S=>(m e S).so e fun _ S1 => .go (.nx e) S1
def X2 (i:Nat) (m:M):MS:=fun e S=>(m e S).so e fun x S1 => .go (.nx (e.set i (some x))) S1
def Q1 (m:M):MS:=fun e S=>(m e S).so e fun x S1 => .go (.rt x) S1
def X3 (m:M):MS:=fun e S=>(m e S).so e fun x S1=>match x.get S1 with
  | some d => .go (.rp d) S1
  | none => .bad
def U5:MS:=fun _ S => .go (.rt (.d .non)) S
def V0:MS:=fun _ S => .go (.rp .non) S
def Z19 (S:Sto):List X→Option (List D)
  | []=>some []
  | x :: r=>match x.get S,Z19 S r with
    | some d,some l=>some (d :: l)
    | _,_=>none
def V4 (ms:MG (List X)):MS:=fun e S=>(ms e S).so e fun xs S1=>match Z19 S1 xs with
  | some ds=>if ds.length ≤ sizeLine then .go (.rp (.tup ds)) S1 else .bad
  | none => .bad
def Z0r (mt:MG Bool) (m1 m2:MS):MS:=fun e S=>(mt e S).so e fun b S1=>if b then m1 e S1 else m2 e S1
section
variable {X:Cx} {Wx:WX} {pos p:Pos} {a b c:Expr} {st:Stmt} {es:List Expr} {rest sts sts2:List Stmt} {ma mb mc m:M} {ms:MG (List Bv.X)} {mt:MG Bool} {m1 m2:MS}
theorem PS.of {X:Cx} {st:Stmt} {t t':TS} (h:PS X st t) (w:∀ D σ H,t' D σ H→t D σ H):PS X st t':=⟨fun pins s σ H D I q=>h.run pins s σ H D I (w D σ H q)⟩
theorem PSs.of {X:Cx} {sts:List Stmt} {t t':TS} (h:PSs X sts t) (w:∀ D σ H,t' D σ H→t D σ H):PSs X sts t':=⟨fun pins s σ H D I q=>h.run pins s σ H D I (w D σ H q)⟩
theorem Z0c:MPs X Wx [] W7:=PSs.of pss_nil fun D σ H ⟨Z,ρ,e,S,st,ev,p⟩=>p.next st ev
theorem Y1 (h1:MP X Wx st m1) (h2:MPs X Wx rest m2):MPs X Wx (st :: rest) (Z9 m1 m2):=PSs.of (pss_cons h1 h2) fun D σ H ⟨Z,ρ,e,S,st,ev,p⟩=>by
  refine ⟨Z,ρ,e,S,st,ev,?_⟩
  have p:Z3j X.K Z ρ H Wx D ((m1 e S).then m2):=p
  cases q:m1 e S with
  | go o S1 =>
    rw [q] at p
    cases o with
    | nx e1=>exact fun ρ' H' σ' st' go ev'=>⟨Z,ρ',e1,S1,st',ev',Z3j.shift go st' p⟩
    | _=>exact p
  | err C fs e1 S1=>rw [q] at p; exact p
  | bad=>rw [q] at p; exact p
theorem X1 (h1:MP X Wx st m1):MPs X Wx [st] m1:=pss_one h1
theorem Z4y (h:ME X Wx a ma) (hs:swapsWith a none pos.line X.env=pure false:=by rfl):MP X Wx (.Expr a pos) (W0 ma):=PS.of (ps_expr h hs) fun D σ H ⟨Z,ρ,e,S,st,ev,p⟩ =>
  Z1i st ev p fun ρ1 H1 v x S1 st1 g1 ev1 a1 p1=>p1.next st1 ev1
theorem Q5 {i:Nat} {x:Str} {pos':Pos} (hN:X.N.Nodup) (hi:X.N[i]?=some x) (hx:Loc X.env.scope x) (he:ME X Wx a ma) (hs:swapsWith a (some (.Name x pos')) pos.line X.env=pure false:=by rfl) (hf:X.fn x=true ∨ X.env.scope.names.lookup x=some .local:=by first | exact .inl rfl | exact .inr rfl | assumption) :
    MP X Wx (.Assign [.Name x pos'] a pos) (X2 i ma):=PS.of (ps_set hN hi hx he hs hf) fun D σ H ⟨Z,ρ,e,S,st,ev,p⟩ =>
  Z1i st ev p fun ρ1 H1 v x S1 st1 g1 ev1 a1 p1=>p1.next st1 (ev1.set a1)
theorem Z9k (h:ME X Wx a ma):MP X Wx (.Return (some a) pos) (Q1 ma):=PS.of (ps_ret h) fun D σ H ⟨Z,ρ,e,S,st,ev,p⟩ =>
  Z1i st ev p fun ρ1 H1 v x S1 st1 g1 ev1 a1 p1=>p1 ρ1 H1 v st1 (Go.refl _ _) a1
theorem AW.leave {K:PySem.W.Frag} {Z:Wd} {ρ:List Addr} {S:Sto} {H:Hp} {d:Bv.D} {v:V} (st:Sta K Z ρ S H) (h:AW K (Wn Z ρ) H d v) (hz:∀ q,v = .ref q→¬ Z q):AV K Z H d v:=by
  have m:Mv (Wn Z ρ) H Z H:=fun a o h q=>⟨fun z=>h (.inl z),q⟩
  cases h with
  | av h=>exact h.mv m
  | lst h hs=>exact .lst (hz _ rfl) h (hs.mv m)
  | fdc h hs=>exact .dic (hz _ rfl) h (hs.mv m)
theorem AX.leave {K:PySem.W.Frag} {Z:Wd} {ρ:List Addr} {S:Sto} {H:Hp} {x:Bv.X} {d:Bv.D} {v:V} (st:Sta K Z ρ S H) (h:AX K (Wn Z ρ) ρ H x v) (e:x.get S=some d):AV K Z H d v:=by
  cases h with
  | d h =>
    cases e
    exact h.mv fun a o h q=>⟨fun z=>h (.inl z),q⟩
  | r h =>
    refine AW.leave st ((AX.r h).get st e) fun q hq=>?_
    cases hq
    exact fun z=>(st.z _ z).1 (List.mem_of_getElem? h)
theorem Z0q (h:ME X Wx a ma):MP X Wx (.Return (some a) pos) (X3 ma):=PS.of (ps_ret h) fun D σ H ⟨Z,ρ,e,S,st,ev,p⟩ =>
  Z1i st ev p fun ρ1 H1 v x S1 st1 g1 ev1 a1 p1=>by
    cases q:x.get S1 with
    | none=>rw [q] at p1; exact p1.elim
    | some d =>
      rw [q] at p1
      exact p1 H1 v (fun _ _ _ z=>z) (a1.leave st1 q)
theorem Y3k {K:PySem.W.Frag} {Z:Wd} {ρ:List Addr} {S:Sto} {H:Hp} (st:Sta K Z ρ S H):∀ {xs:List Bv.X} {vs:List V} {ds:List Bv.D},AXs K (Wn Z ρ) ρ H xs vs→Z19 S xs=some ds→AVs K Z H ds vs
  | _,_,_, .nil,e=>by cases e; exact .nil
  | x :: r,_,ds, .cons h hs,e=>by
    unfold Z19 at e
    cases q:x.get S with
    | none=>rw [q] at e; cases e
    | some d =>
      cases q2:Z19 S r with
      | none=>rw [q,q2] at e; cases e
      | some l =>
        rw [q,q2] at e
        cases e
        exact .cons (h.leave st q) (Y3k st hs q2)
theorem Z7f {x1} {p2:Pos} (h:MA X Wx es ms):MP X Wx (.Return (some (.Tuple es x1 p2)) pos) (V4 ms):=PS.of (ps_ret (pe_tup h)) fun D σ H ⟨Z,ρ,e,S,st,ev,p⟩ =>
  Z1i (rel:=AXs X.K) st ev p fun ρ1 H1 vs xs S1 st1 g1 ev1 a1 p1=>by
    cases q:Z19 S1 xs with
    | none=>rw [q] at p1; exact p1.elim
    | some ds =>
      rw [q] at p1
      have p1:Z3j X.K Z ρ1 H1 Wx D (if ds.length ≤ sizeLine then .go (.rp (.tup ds)) S1 else .bad):=p1
      by_cases hl:ds.length ≤ sizeLine
      · rw [if_pos hl] at p1
        have av:=Y3k st1 a1 q
        refine ⟨by rw [← av.length]; exact hl,fun r hr=>p1 _ _ (fun b o _ z=>U9 hr b o z) (Y2j (fun z hz=>(st1.z z hz).2) hr av)⟩
      · rw [if_neg hl] at p1; exact p1.elim
theorem Z2p (hc:MT X Wx c mt) (h1:MPs X Wx sts m1) (h2:MPs X Wx sts2 m2):MP X Wx (.If c sts sts2 pos) (Z0r mt m1 m2):=PS.of (ps_if hc h1 h2) fun D σ H ⟨Z,ρ,e,S,st,ev,p⟩ =>
  Z1i (rel:=relB) st ev p fun ρ1 H1 v x S1 st1 g1 ev1 a1 p1=>by
    cases (show x=v from a1)
    cases v with
    | true=>exact ⟨Z,ρ1,e,S1,st1,ev1,p1⟩
    | false=>exact ⟨Z,ρ1,e,S1,st1,ev1,p1⟩
def Z4v:MS:=fun _ _ => .bad
theorem Z5e:MP X Wx st Z4v:=PS.of ps_never fun D σ H ⟨Z,ρ,e,S,st,ev,p⟩=>p
inductive Tg where
  | nm (i:Nat) | tp (ts:List Tg)
mutual
def Tg.asg (S:Sto):Tg→Bv.X→Ev→Option Ev
  | .nm i,x,e=>some (e.set i (some x))
  | .tp ts, .d (.tup ds),e=>Tg.asgs S ts (ds.map .d) e
  | .tp _,_,_=>none
def Tg.asgs (S:Sto):List Tg→List Bv.X→Ev→Option Ev
  | [],[],e=>some e
  | t :: ts,x :: xs,e=>match t.asg S x e with
    | some e1=>Tg.asgs S ts xs e1
    | none=>none
  | [],_ :: _,_=>none
  | _ :: _,[],_=>none
end
mutual
def Tg.slots:Tg→List Nat
  | .nm i=>[i]
  | .tp ts=>Tg.slotss ts
def Tg.slotss:List Tg→List Nat
  | []=>[]
  | t :: ts=>t.slots++Tg.slotss ts
end
def TGt (K:PySem.W.Frag) (t:Tg):TG:=fun v σ H Q=>∃ (Z:Wd) (ρ:List Addr) (e:Ev) (S:Sto) (x:Bv.X) (e':Ev),Sta K Z ρ S H∧EvOk K (Wn Z ρ) ρ H e σ∧AX K (Wn Z ρ) ρ H x v∧t.asg S x e=some e'∧∀ σ',EvOk K (Wn Z ρ) ρ H e' σ'→(∀ vs:List Nat,(∀ i ∈ t.slots,i ∈ vs)→wipe σ' vs=wipe σ vs)→Q σ' H
def W3j (K:PySem.W.Frag) (ts:List Tg):TGs:=fun vs σ H Q=>∃ (Z:Wd) (ρ:List Addr) (e:Ev) (S:Sto) (xs:List Bv.X) (e':Ev),Sta K Z ρ S H∧EvOk K (Wn Z ρ) ρ H e σ∧AXs K (Wn Z ρ) ρ H xs vs∧Tg.asgs S ts xs e=some e'∧∀ σ',EvOk K (Wn Z ρ) ρ H e' σ'→(∀ vs:List Nat,(∀ i ∈ Tg.slotss ts,i ∈ vs)→wipe σ' vs=wipe σ vs)→Q σ' H
theorem X0a {σ:St} {i:Nat} {o:Option V}:∀ {vs:List Nat},i ∈ vs→wipe (σ.set i o) vs=wipe σ vs
  | [],h=>by cases h
  | j :: vs,h=>by
    unfold wipe
    by_cases hi:i ∈ vs
    · rw [X0a hi]
    · have e:i=j:=by
        rcases List.mem_cons.mp h with h | h
        · exact h
        · exact absurd h hi
      subst e
      have go:∀ {vs:List Nat},i ∉ vs→wipe (σ.set i o) vs=(wipe σ vs).set i o:=fun {vs}=>by
        induction vs with
        | nil=>intro _; rfl
        | cons k ks ih =>
          intro hk
          rw [List.mem_cons,not_or] at hk
          unfold wipe
          rw [ih hk.2,List.set_comm _ _ hk.1]
      rw [go hi,List.set_set]
theorem PG.of {X:Cx} {e:Expr} {t t':TG} (h:PG X e t) (w:∀ v σ H Q,t' v σ H Q→t v σ H Q):PG X e t':=⟨fun pins s σ H v u Q I r q=>h.run pins s σ H v u Q I r (w v σ H Q q)⟩
theorem PGs.of {X:Cx} {e:List Expr} {t t':TGs} (h:PGs X e t) (w:∀ v σ H Q,t' v σ H Q→t v σ H Q):PGs X e t':=⟨fun pins s σ H v u Q I r q=>h.run pins s σ H v u Q I r (w v σ H Q q)⟩
theorem X8 {i:Nat} {x:Str} (hN:X.N.Nodup) (hi:X.N[i]?=some x) (hx:Loc X.env.scope x) (hf:X.fn x=true ∨ X.env.scope.names.lookup x=some .local:=by first | exact .inl rfl | exact .inr rfl | assumption):PG X (.Name x pos) (TGt X.K (.nm i)) :=
  PG.of (pg_name hN hi hx hf) fun v σ H Q ⟨Z,ρ,e,S,x,e',st,ev,a,h,k⟩=>by
    have h:some (e.set i (some x))=some e':=by simpa [Tg.asg] using h
    cases h
    exact k _ (ev.set a) fun vs hv=>X0a (hv i (by simp [Tg.slots]))
theorem Z4i:PGs X [] (W3j X.K []):=PGs.of pgs_nil fun v σ H Q ⟨Z,ρ,e,S,xs,e',st,ev,a,h,k⟩=>by
  cases a with
  | nil =>
    have h:some e=some e':=by simpa [Tg.asgs] using h
    cases h
    exact ⟨rfl,k σ ev fun _ _=>rfl⟩
  | cons _ _=>simp [Tg.asgs] at h
theorem Q6 {t:Tg} {ts:List Tg} (h1:PG X a (TGt X.K t)) (h2:PGs X es (W3j X.K ts)) (hs:(assignEach (a :: es) X.env).map (·.2)=assign a X.env :: (assignEach es X.env).map (·.2):=by rfl):PGs X (a :: es) (W3j X.K (t :: ts)) :=
  PGs.of (pgs_cons h1 h2 hs) fun v σ H Q ⟨Z,ρ,e,S,xs,e',st,ev,a,h,k⟩=>by
    cases a with
    | nil=>simp [Tg.asgs] at h
    | @cons x v0 xr vr ha hr =>
      cases q:t.asg S x e with
      | none=>simp [Tg.asgs,q] at h
      | some e1 =>
        have h:Tg.asgs S ts xr e1=some e':=by simpa [Tg.asgs,q] using h
        exact ⟨v0,vr,rfl,Z,ρ,e,S,x,e1,st,ev,ha,q,fun σ1 ev1 w1=>⟨Z,ρ,e1,S,xr,e',st,ev1,hr,h,fun σ2 ev2 w2=>k σ2 ev2 fun vs hv=>(w2 vs fun i hi=>hv i (by simp [Tg.slotss,hi])).trans (w1 vs fun i hi=>hv i (by simp [Tg.slotss,hi]))⟩⟩
theorem Y35 {S:Sto}:∀ {ts:List Tg} {xs:List Bv.X} {e e':Ev},Tg.asgs S ts xs e=some e'→xs.length=ts.length
  | [],[],_,_,_=>rfl
  | t :: ts,x :: xs,e,e',h=>by
    cases q:t.asg S x e with
    | none=>simp [Tg.asgs,q] at h
    | some e1 =>
      have h:Tg.asgs S ts xs e1=some e':=by simpa [Tg.asgs,q] using h
      simp [Y35 h]
  | [],_ :: _,_,_,h=>by simp [Tg.asgs] at h
  | _ :: _,[],_,_,h=>by simp [Tg.asgs] at h
theorem Z6x {k:Nat} {ts:List Tg} (hc:X.calm=true) (h:PGs X es (W3j X.K ts)) (hn:(assignEach es X.env).length=ts.length:=by rfl) (hst:(assignEach es X.env).findIdx? (·.1)=none:=by rfl):PG X (.Tuple es k pos) (TGt X.K (.tp ts)) :=
  PG.of (pg_tup hc h hn hst) fun v σ H Q ⟨Z,ρ,e,S,x,e',st,ev,a,h,kk⟩=>by
    cases a with
    | r _=>simp [Tg.asg] at h
    | d h1 =>
      cases h1 with
      | @tup q xs ds t hs =>
        have h:Tg.asgs S ts (ds.map .d) e=some e':=by simpa [Tg.asg] using h
        have hl:=Y35 h
        rw [List.length_map] at hl
        exact ⟨_,xs,rfl,t.sq,by rw [← hs.length]; exact hl,Z,ρ,e,S,_,e',st,ev,hs.axs,h,fun σ2 ev2 w2=>kk σ2 ev2 fun vs hv=>w2 vs fun i hi=>hv i (by simpa [Tg.slots] using hi)⟩
      | _=>simp [Tg.asg] at h
def Z0d (t:Tg) (m:M):MS:=fun e S=>(m e S).so e fun x S1=>match t.asg S1 x e with
  | some e1 => .go (.nx e1) S1
  | none => .bad
theorem X3l {tg:Expr} {t:Tg} (he:ME X Wx a ma) (hg:PG X tg (TGt X.K t)) (hs:swapsWithSole [tg] a pos.line X.env=pure false:=by rfl) (hw:swappedStores [tg] a X.env=pure none:=by rfl)
    (h1:(assignEach [tg] X.env).map (·.2)=[assign tg X.env]:=by rfl):MP X Wx (.Assign [tg] a pos) (Z0d t ma):=PS.of (ps_asg he hg hs hw h1) fun D σ H ⟨Z,ρ,e,S,st,ev,p⟩ =>
  Z1i st ev p fun ρ1 H1 v x S1 st1 g1 ev1 a1 p1=>by
    cases q:t.asg S1 x e with
    | none=>rw [q] at p1; exact p1.elim
    | some e1 =>
      rw [q] at p1
      exact ⟨Z,ρ1,e,S1,x,e1,st1,ev1,a1,q,fun σ' ev' _=>p1.next st1 ev'⟩
def Z2m (f:Str) (x:Bv.X):List (Str × Bv.X)→List (Str × Bv.X)
  | []=>[(f,x)]
  | (g,y) :: r=>if g=f then (g,x) :: r else (g,y) :: Z2m f x r
theorem Y9z {K:PySem.W.Frag} {W:Wd} {ρ:List Addr} {H:Hp} {f:Str} {x:Bv.X} {v:V} (a:AX K W ρ H x v):∀ {fs:List (Str × Bv.X)} {vs:List (Str × V)},Paired (fun (p:Str × Bv.X) (q:Str × V)=>p.1=q.1∧AX K W ρ H p.2 q.2) fs vs →
    Paired (fun (p:Str × Bv.X) (q:Str × V)=>p.1=q.1∧AX K W ρ H p.2 q.2) (Z2m f x fs) (putF f v vs)
  | _,_, .nil => .cons ⟨rfl,a⟩ .nil
  | (g,y) :: r,(g',u) :: r', .cons ⟨h1,h2⟩ hs=>by
    cases (show g=g' from h1)
    unfold Z2m putF
    by_cases h:g=f
    · rw [if_pos h,if_pos h]; exact .cons ⟨rfl,a⟩ hs
    · rw [if_neg h,if_neg h]; exact .cons ⟨rfl,h2⟩ (Y9z a hs)
def Z27 (Cs:List Str) (f:Str) (S:Sto) (o y:Bv.X):Option Sto:=match o with
  | .r n=>(match S[n]? with
    | some (.ins C fs)=>if Cs.contains C && decide (fs.length < 1000) then some (S.set n (.ins C (Z2m f y fs))) else none
    | _=>none)
  | .d _=>none
def Q4 (Cs:List Str) (f:Str) (mo m:M):MS:=fun e S=>(m e S).so e fun y S1=>(mo e S1).so e fun o S2=>match Z27 Cs f S2 o y with
  | some S3 => .go (.nx e) S3
  | none => .bad
theorem Z9j {o:Expr} {mo:M} {f:Str} {pos':Pos} (Cs:List Str) (T:Z6w X.K Cs f) (ho:ME X Wx o mo) (ha:ME X Wx a ma) (hs:swapsWith a (some (.Attribute o f pos')) pos.line X.env=pure false:=by rfl):MP X Wx (.Assign [.Attribute o f pos'] a pos) (Q4 Cs f mo ma) :=
  PS.of (ps_fld ho ha hs) fun D σ H ⟨Z,ρ,e,S,st,ev,p⟩ =>
  Z1i st ev p fun ρ1 H1 v y S1 st1 g1 ev1 a1 p1=>Z1i st1 ev1 p1 fun ρ2 H2 u o S2 st2 g2 ev2 a2 p2=>by
    have a1:=a1.mv (g2.mv st1) g2.pre
    cases q:Z27 Cs f S2 o y with
    | none=>rw [q] at p2; exact p2.elim
    | some S3 =>
      rw [q] at p2
      cases a2 with
      | d h=>cases q
      | r h =>
        rename_i n q0
        cases z:S2[n]? with
        | none=>simp [Z27,z] at q
        | some oo =>
          cases oo with
          | ins C fs =>
            have q1:(if (Cs.contains C && decide (fs.length < 1000))=true then some (S2.set n (.ins C (Z2m f y fs))) else none)=some S3:=by simpa [Z27,z] using q
            by_cases hc:(Cs.contains C && decide (fs.length < 1000))=true
            · rw [if_pos hc] at q1
              cases q1
              obtain ⟨hc1,hc2⟩:=Bool.and_eq_true_iff.mp hc
              obtain ⟨dx,vs,h2,h3⟩:=st2.ob n _ q0 z h
              obtain ⟨t1,t2⟩:=T C (by simpa using hc1)
              have hl:vs.length < 1000:=by rw [← Paired.length h3]; exact of_decide_eq_true hc2
              have hin:q0 ∈ ρ2:=List.mem_of_getElem? h
              have m:Mv (Wn Z ρ2) H2 (Wn Z ρ2) (upd H2 q0 (.ins (He.ga X.K C) dx (putF f v vs))):=fun b o hb hq=>⟨hb,by rw [upd_ne (fun z=>hb (.inr (by rw [z]; exact hin)))]; exact hq⟩
              obtain ⟨st3,g3⟩:=st2.put (o' := .ins C (Z2m f y fs)) (u := .ins (He.ga X.K C) dx (putF f v vs)) h (fun _ _ q=>by rw [h2] at q; cases q) ⟨dx,_,upd_same,Paired.mapP (Y9z a1 h3) fun _ _ w=>⟨w.1,w.2.mv m (List.prefix_refl _)⟩⟩
              exact ⟨_,_,_,vs,rfl,h2,t1,t2,hl,p2 _ _ σ st3 g3 (ev2.mv m (List.prefix_refl _))⟩
            · rw [if_neg hc] at q1; cases q1
          | _=>simp [Z27,z] at q
end
end Bv
namespace Bv
open PySem PySem.Spec L2
open PyProof.Rows hiding St
variable [HasW]
mutual
def D.beq:D→D→Bool
  | .non, .non=>true
  | .bl a, .bl b=>a == b
  | .int a, .int b=>decide (a=b)
  | .str a, .str b=>decide (a=b)
  | .gl a, .gl b=>decide (a=b)
  | .scr a, .scr b=>decide (a=b)
  | .tup a, .tup b=>D.beqs a b
  | .lst a, .lst b=>D.beqs a b
  | .dic a, .dic b=>D.beqk a b
  | .obj c a, .obj d b=>decide (c=d) && D.beqf a b
  | _,_=>false
def D.beqs:List D→List D→Bool
  | [],[]=>true
  | a :: r,b :: s=>D.beq a b && D.beqs r s
  | _,_=>false
def D.beqk:List (D × D)→List (D × D)→Bool
  | [],[]=>true
  | (k,a) :: r,(l,b) :: s=>(D.beq k l && D.beq a b) && D.beqk r s
  | _,_=>false
def D.beqf:List (Str × D)→List (Str × D)→Bool
  | [],[]=>true
  | (k,a) :: r,(l,b) :: s=>(decide (k=l) && D.beq a b) && D.beqf r s
  | _,_=>false
end
mutual
theorem D.eq_of_beq:∀ (a b:D),D.beq a b=true→a=b
  | .non,b,h=>by cases b <;> first | rfl | simp [D.beq] at h
  | .bl x,b,h=>by cases b <;> first | (simp [D.beq] at h; rw [h]) | simp [D.beq] at h
  | .int x,b,h=>by cases b <;> first | (simp [D.beq] at h; rw [h]) | simp [D.beq] at h
  | .str x,b,h=>by cases b <;> first | (simp [D.beq] at h; rw [h]) | simp [D.beq] at h
  | .gl x,b,h=>by cases b <;> first | (simp [D.beq] at h; rw [h]) | simp [D.beq] at h
  | .scr x,b,h=>by cases b <;> first | (simp [D.beq] at h; rw [h]) | simp [D.beq] at h
  | .tup x,b,h=>by
    cases b with
    | tup y=>simp only [D.beq] at h; rw [D.eqs_of_beqs x y h]
    | _=>simp [D.beq] at h
  | .lst x,b,h=>by
    cases b with
    | lst y=>simp only [D.beq] at h; rw [D.eqs_of_beqs x y h]
    | _=>simp [D.beq] at h
  | .dic x,b,h=>by
    cases b with
    | dic y=>simp only [D.beq] at h; rw [D.eqk_of_beqk x y h]
    | _=>simp [D.beq] at h
  | .obj c x,b,h=>by
    cases b with
    | obj d y=>simp only [D.beq,Bool.and_eq_true,decide_eq_true_eq] at h; rw [h.1,D.eqf_of_beqf x y h.2]
    | _=>simp [D.beq] at h
theorem D.eqs_of_beqs:∀ (a b:List D),D.beqs a b=true→a=b
  | [],b,h=>by cases b <;> first | rfl | simp [D.beqs] at h
  | x :: r,b,h=>by
    cases b with
    | nil=>simp [D.beqs] at h
    | cons y s =>
      simp only [D.beqs,Bool.and_eq_true] at h
      rw [D.eq_of_beq x y h.1,D.eqs_of_beqs r s h.2]
theorem D.eqk_of_beqk:∀ (a b:List (D × D)),D.beqk a b=true→a=b
  | [],b,h=>by cases b <;> first | rfl | simp [D.beqk] at h
  | (k,u) :: r,b,h=>by
    cases b with
    | nil=>simp [D.beqk] at h
    | cons y s =>
      obtain ⟨l,v⟩:=y
      simp only [D.beqk,Bool.and_eq_true] at h
      rw [D.eq_of_beq k l h.1.1,D.eq_of_beq u v h.1.2,D.eqk_of_beqk r s h.2]
theorem D.eqf_of_beqf:∀ (a b:List (Str × D)),D.beqf a b=true→a=b
  | [],b,h=>by cases b <;> first | rfl | simp [D.beqf] at h
  | (k,u) :: r,b,h=>by
    cases b with
    | nil=>simp [D.beqf] at h
    | cons y s =>
      obtain ⟨l,v⟩:=y
      simp only [D.beqf,Bool.and_eq_true,decide_eq_true_eq] at h
      rw [h.1.1,D.eq_of_beq u v h.1.2,D.eqf_of_beqf r s h.2]
end
mutual
theorem D.beq_self:∀ a:D,D.beq a a=true
  | .non=>by simp [D.beq]
  | .bl _=>by simp [D.beq]
  | .int _=>by simp [D.beq]
  | .str _=>by simp [D.beq]
  | .gl _=>by simp [D.beq]
  | .scr _=>by simp [D.beq]
  | .tup a=>by simp [D.beq,D.beqs_self a]
  | .lst a=>by simp [D.beq,D.beqs_self a]
  | .dic a=>by simp [D.beq,D.beqk_self a]
  | .obj c a=>by simp [D.beq,D.beqf_self a]
theorem D.beqs_self:∀ a:List D,D.beqs a a=true
  | []=>by simp [D.beqs]
  | a :: r=>by simp [D.beqs,D.beq_self a,D.beqs_self r]
theorem D.beqk_self:∀ a:List (D × D),D.beqk a a=true
  | []=>by simp [D.beqk]
  | (k,a) :: r=>by simp [D.beqk,D.beq_self k,D.beq_self a,D.beqk_self r]
theorem D.beqf_self:∀ a:List (Str × D),D.beqf a a=true
  | []=>by simp [D.beqf]
  | (k,a) :: r=>by simp [D.beqf,D.beq_self a,D.beqf_self r]
end
instance:DecidableEq D:=fun a b=>if h:D.beq a b=true then .isTrue (D.eq_of_beq a b h) else .isFalse fun e=>h (e ▸ D.beq_self a)
instance:DecidableEq X
  | .d a, .d b=>if h:a=b then .isTrue (h ▸ rfl) else .isFalse fun e=>h (by cases e; rfl)
  | .r a, .r b=>if h:a=b then .isTrue (h ▸ rfl) else .isFalse fun e=>h (by cases e; rfl)
  | .d _, .r _ => .isFalse fun e=>by cases e
  | .r _, .d _ => .isFalse fun e=>by cases e
inductive Lk where
  | free | lst (n:Nat) (xs:List X)
def Lk.ok:Lk→Sto→Bool
  | .free,_=>true
  | .lst n xs,S=>match S[n]? with
    | some (.lst zs)=>decide (zs=xs)
    | _=>false
def Srv (K:PySem.W.Frag) (W:Wd) (ρ:List Addr) (H:Hp) (p:List X × Lk) (J:It):Prop:=∃ (G:Hp→Prop) (Y:Nat→Hp→V→Hp→Prop),Walk J p.1.length G Y ∧
  ∀ (Z2:Wd) (ρ2:List Addr) (S2:Sto) (H2:Hp),Sta K Z2 ρ2 S2 H2→Mv W H (Wn Z2 ρ2) H2→ρ <+: ρ2→(∀ a ob u,H a=some (.frz ob u)→H2 a=some (.frz ob u))→p.2.ok S2=true→G H2 ∧
    ∀ i x H3,Y i H2 x H3→Same H2 H3∧∃ y,p.1[i]?=some y∧AX K (Wn Z2 ρ2) ρ2 H3 y x
abbrev MIt:=MG (List X × Lk)
abbrev MI (X:Cx) (Wx:WX) (tg iter:Expr) (m:MIt):Prop:=PI X tg iter (RG (Srv X.K) X.K Wx m)
theorem PI.of {X:Cx} {tg e:Expr} {t t':TI} (h:PI X tg e t) (w:∀ σ H R,t' σ H R→t σ H R):PI X tg e t':=⟨fun pins s σ H R I q=>h.run pins s σ H R I (w σ H R q)⟩
def RO.ext (r:RO) (e:Ev):RO:=r
def Z60 (t:Tg) (l:Lk) (body:MS):List X→Ev→Sto→RO
  | [],e,S=>if l.ok S then .go (.nx e) S else .bad
  | x :: xs,e,S=>if l.ok S then (match t.asg S x e with
    | some e1=>(match body e1 S with
      | .go (.nx e2) S2=>Z60 t l body xs e2 S2
      | .go (.ct e2) S2=>Z60 t l body xs e2 S2
      | .go (.bk e2) S2 => .go (.nx e2) S2
      | r=>r)
    | none => .bad) else .bad
def Z1f (t:Tg) (mi:MIt) (body:MS):MS:=fun e S=>(mi e S).so e fun p S1=>Z60 t p.2 body p.1 e S1
section
variable {X:Cx} {Wx:WX} {pos:Pos} {tg iter:Expr} {body:List Stmt} {mi:MIt} {mb:MS} {t:Tg}
theorem Y4d {α:Type} {l:List α} {i:Nat} {a:α} (h:l[i]?=some a):l.drop i=a :: l.drop (i + 1):=by
  obtain ⟨h1,h2⟩:=List.getElem?_eq_some_iff.mp h
  rw [← h2]
  exact List.drop_eq_getElem_cons h1
theorem Z3m (hp:PassesOwn (model X.prog X.w) X.A X.env X.xe) (hc:X.calm=true) (hi:MI X Wx tg iter mi) (hg:PG X tg (TGt X.K t)) (hb:MPs X Wx body mb)
    (hs:∀ x,foldedSetIterable iter X.env x=pure x:=by intro _; rfl):MP X Wx (.For tg iter body [] pos) (Z1f t mi mb):=PS.of (ps_for hp hc hi hg hb hs) fun D σ H ⟨Z,ρ,e,S,st,ev,p⟩ =>
  Z1i (rel:=Srv X.K) st ev p fun ρ1 H1 J p0 S1 st1 g1 ev1 srv p1=>by
    obtain ⟨ys,l⟩:=p0
    obtain ⟨G,Y,w,sv⟩:=srv
    have p1:Z3j X.K Z ρ1 H1 Wx D (Z60 t l mb ys e S1):=p1
    have sv:∀ (Z2:Wd) (ρ2:List Addr) (S2:Sto) (H2:Hp),Sta X.K Z2 ρ2 S2 H2→Mv (Wn Z ρ1) H1 (Wn Z2 ρ2) H2→ρ1 <+: ρ2→(∀ a ob u,H1 a=some (.frz ob u)→H2 a=some (.frz ob u))→l.ok S2=true→G H2 ∧
      ∀ i x H3,Y i H2 x H3→Same H2 H3∧∃ y,ys[i]?=some y∧AX X.K (Wn Z2 ρ2) ρ2 H3 y x:=sv
    have w:Walk J ys.length G Y:=w
    let Pv:Nat→L2.St→Hp→Prop:=fun i σ H=>∃ (ρ:List Addr) (e:Ev) (S:Sto),Sta X.K Z ρ S H∧Go ρ1 H1 ρ H∧EvOk X.K (Wn Z ρ) ρ H e σ∧Z3j X.K Z ρ H Wx D (Z60 t l mb (ys.drop i) e S)
    have okOf:∀ {xs:List Bv.X} {e:Ev} {S:Sto} {ρ:List Addr} {H:Hp},Z3j X.K Z ρ H Wx D (Z60 t l mb xs e S)→l.ok S=true:=fun {xs e S ρ H} q=>by
      cases z:l.ok S with
      | true=>rfl
      | false=>cases xs <;> (simp only [Z60,z] at q; exact q.elim)
    refine for_it w Pv ⟨ρ1,e,S1,st1,Go.refl _ _,ev1,by rw [List.drop_zero]; exact p1⟩ ?_ ?_ ?_
    · rintro i σ2 H2 _ ⟨ρ2,e2,S2,st2,g2,ev2,q2⟩
      exact (sv Z ρ2 S2 H2 st2 (g2.mv st1) g2.pre g2.fz (okOf q2)).1
    · rintro i x σ2 H2 H3 hi ⟨ρ2,e2,S2,st2,g2,ev2,q2⟩ hy
      have hk:=okOf q2
      obtain ⟨k,y,e3,a⟩:=(sv Z ρ2 S2 H2 st2 (g2.mv st1) g2.pre g2.fz hk).2 i x H3 hy
      have st3:=st2.grow k
      have g3:Go ρ2 H2 ρ2 H3:=Go.grow k
      have ev3:=ev2.mv (g3.mv st2) g3.pre
      have q3:=Z3j.shift g3 st3 q2
      rw [Y4d e3] at q3
      simp only [Z60,hk,if_true] at q3
      cases q4:t.asg S2 y e2 with
      | none=>rw [q4] at q3; exact q3.elim
      | some e4 =>
        rw [q4] at q3
        refine ⟨Z,ρ2,e2,S2,y,e4,st3,ev3,a,q4,fun σ5 ev5 _=>⟨Z,ρ2,e4,S2,st3,ev5,?_⟩⟩
        have q3:Z3j X.K Z ρ2 H3 Wx D (match mb e4 S2 with
          | .go (.nx e2) S2=>Z60 t l mb (ys.drop (i + 1)) e2 S2
          | .go (.ct e2) S2=>Z60 t l mb (ys.drop (i + 1)) e2 S2
          | .go (.bk e2) S2 => .go (.nx e2) S2
          | r=>r):=q3
        cases q5:mb e4 S2 with
        | bad=>rw [q5] at q3; exact q3
        | err C fs e6 S6=>rw [q5] at q3; exact q3
        | go o S6 =>
          rw [q5] at q3
          cases o with
          | nx e6=>exact fun ρ7 H7 σ7 st7 g7 ev7=>⟨ρ7,e6,S6,st7,g2.trans (g3.trans g7),ev7,Z3j.shift g7 st7 q3⟩
          | ct e6=>exact fun ρ7 H7 σ7 st7 g7 ev7=>⟨ρ7,e6,S6,st7,g2.trans (g3.trans g7),ev7,Z3j.shift g7 st7 q3⟩
          | bk e6=>exact q3
          | rt x6=>exact q3
          | rp d6=>exact q3
          | rq d6=>exact q3
    · rintro σ2 H2 ⟨ρ2,e2,S2,st2,g2,ev2,q2⟩
      have hk:=okOf q2
      rw [List.drop_length] at q2
      simp only [Z60,hk,if_true] at q2
      exact q2.next st2 ev2
def Z5l (mt:MG Bool) (body:MS):Nat→Ev→Sto→RO
  | 0,_,_ => .bad
  | n + 1,e,S=>(mt e S).so e fun b S1=>if b then (match body e S1 with
    | .go (.nx e2) S2=>Z5l mt body n e2 S2
    | .go (.ct e2) S2=>Z5l mt body n e2 S2
    | .go (.bk e2) S2 => .go (.nx e2) S2
    | r=>r) else .go (.nx e) S1
def many:Nat:=1000000
def Z7o (mt:MG Bool) (body:MS):MS:=Z5l mt body many
theorem Y9t {c:Expr} {mt:MG Bool} (hp:PassesOwn (model X.prog X.w) X.A X.env X.xe) (hc:MT X Wx c mt) (hb:MPs X Wx body mb):MP X Wx (.While c body [] pos) (Z7o mt mb):=PS.of (ps_while hp hc hb) fun D σ H ⟨Z,ρ,e,S,st,ev,p⟩=>by
  refine ⟨fun m σ H=>∃ (ρ:List Addr) (e:Ev) (S:Sto),Sta X.K Z ρ S H∧EvOk X.K (Wn Z ρ) ρ H e σ∧Z3j X.K Z ρ H Wx D (Z5l mt mb m e S),⟨many,ρ,e,S,st,ev,p⟩,?_⟩
  rintro m σ H ⟨ρ,e,S,st,ev,p⟩
  cases m with
  | zero=>exact p.elim
  | succ n =>
    refine Z1i (rel:=relB) st ev p fun ρ1 H1 v x S1 st1 g1 ev1 a1 p1=>?_
    cases (show x=v from a1)
    cases v with
    | false=>exact p1.next st1 ev1
    | true =>
      refine ⟨fun σ H=>∃ (ρ:List Addr) (e:Ev) (S:Sto),Sta X.K Z ρ S H∧EvOk X.K (Wn Z ρ) ρ H e σ∧Z3j X.K Z ρ H Wx D (Z5l mt mb n e S),fun σ' H' q=>⟨n,Nat.lt_succ_self n,q⟩,⟨Z,ρ1,e,S1,st1,ev1,?_⟩⟩
      have p1:Z3j X.K Z ρ1 H1 Wx D (match mb e S1 with
        | .go (.nx e2) S2=>Z5l mt mb n e2 S2
        | .go (.ct e2) S2=>Z5l mt mb n e2 S2
        | .go (.bk e2) S2 => .go (.nx e2) S2
        | r=>r):=p1
      cases q5:mb e S1 with
      | bad=>rw [q5] at p1; exact p1
      | err C fs e6 S6=>rw [q5] at p1; exact p1
      | go o S6 =>
        rw [q5] at p1
        cases o with
        | nx e6=>exact fun ρ7 H7 σ7 st7 g7 ev7=>⟨ρ7,e6,S6,st7,ev7,Z3j.shift g7 st7 p1⟩
        | ct e6=>exact fun ρ7 H7 σ7 st7 g7 ev7=>⟨ρ7,e6,S6,st7,ev7,Z3j.shift g7 st7 p1⟩
        | bk e6=>exact p1
        | rt x6=>exact p1
        | rp d6=>exact p1
        | rq d6=>exact p1
def R.ne {α:Type}:R α→R α
  | .ok a S => .ok a S
  | _ => .bad
def Z0s (e:Ev):List Nat→Ev
  | []=>e
  | v :: vs=>(Z0s e vs).set v none
theorem Z34 (e:Ev):∀ vs:List Nat,(Z0s e vs).length=e.length
  | []=>rfl
  | v :: vs=>by unfold Z0s; rw [List.length_set,Z34 e vs]
theorem Y31 {e:Ev} {i:Nat} {x:Bv.X}:∀ {vs:List Nat},(Z0s e vs)[i]?=some (some x)→e[i]?=some (some x)∧i ∉ vs
  | [],h=>⟨h,by simp⟩
  | v :: vs,h=>by
    unfold Z0s at h
    by_cases hi:v=i
    · subst hi
      by_cases hv:v < (Z0s e vs).length
      · rw [List.getElem?_set_self hv] at h; cases h
      · rw [List.getElem?_eq_none (by simpa using hv)] at h; cases h
    · rw [List.getElem?_set_ne hi] at h
      obtain ⟨h1,h2⟩:=Y31 h
      exact ⟨h1,by simp only [List.mem_cons,not_or]; exact ⟨fun e=>hi e.symm,h2⟩⟩
theorem Y6s {σ:L2.St} {i:Nat} {x:Option V}:∀ {vs:List Nat},i ∉ vs→σ[i]?=some x→(wipe σ vs)[i]?=some x
  | [],_,h=>h
  | v :: vs,hn,h=>by
    rw [List.mem_cons,not_or] at hn
    unfold wipe
    rw [List.getElem?_set_ne (fun z=>hn.1 z.symm)]
    exact Y6s hn.2 h
theorem EvOk.wipe {K:PySem.W.Frag} {W:Wd} {ρ:List Addr} {H:Hp} {e:Ev} {σ:L2.St} (h:EvOk K W ρ H e σ) (vs:List Nat):EvOk K W ρ H (Z0s e vs) (wipe σ vs) :=
  ⟨by rw [Z34,wipe_length]; exact h.len,fun i x q=>by
    obtain ⟨h1,h2⟩:=Y31 q
    obtain ⟨v,h3,h4⟩:=h.at_ i x h1
    exact ⟨v,Y6s h2 h3,h4⟩⟩
def lcL (t:Tg) (l:Lk) (mt:MG Bool) (me:M) (e:Ev):List Bv.X→Sto→R (List D)
  | [],S=>if l.ok S then .ok [] S else .bad
  | x :: xs,S=>if l.ok S then (match t.asg S x e with
    | some e1=>(mt e1 S).ne.bind fun b S1=>if b then (me e1 S1).ne.bind fun y S2=>(match y with
        | .d d=>(lcL t l mt me e xs S2).bind fun ds S3 => .ok (d :: ds) S3
        | .r _ => .bad) else lcL t l mt me e xs S1
    | none => .bad) else .bad
def Y0k (ds:List D) (S:Sto):R Bv.X:=if ds.length ≤ sizeLine then .ok (.d (.lst ds)) S else .bad
def Z14 (t:Tg) (mi:MIt) (mt:MG Bool) (me:M) (vs:List Nat):M:=fun e S=>(mi e S).bind fun p S1=>(lcL t p.2 mt me (Z0s e vs) p.1 S1).bind Y0k
def W8:MG Bool:=fun _ S => .ok true S
abbrev WX0:WX:=fun _ _ _ _=>False
theorem R.bind_assoc {α β γ:Type} (r:R α) (f:α→Sto→R β) (g:β→Sto→R γ):(r.bind f).bind g=r.bind fun a S=>(f a S).bind g:=by cases r <;> rfl
theorem Y7j {t:Tg} {l:Lk} {mt:MG Bool} {me:M} {e:Ev}:∀ {xs:List Bv.X} {S:Sto} {C fs S'},lcL t l mt me e xs S ≠ .err C fs S'
  | [],S,C,fs,S',h=>by
    simp only [lcL] at h
    split at h <;> cases h
  | x :: xs,S,C,fs,S',h=>by
    simp only [lcL] at h
    split at h
    · split at h
      · rename_i e1 _
        cases q:(mt e1 S).ne with
        | err _ _ _=>cases q2:mt e1 S <;> rw [q2] at q <;> cases q
        | bad=>rw [q] at h; cases h
        | ok b S1 =>
          rw [q] at h
          have h:(if b then (me e1 S1).ne.bind fun y S2=>(match y with
            | .d d=>(lcL t l mt me e xs S2).bind fun ds S3 => .ok (d :: ds) S3
            | .r _ => .bad) else lcL t l mt me e xs S1) = .err C fs S':=h
          cases b with
          | false=>exact Y7j h
          | true =>
            cases q3:(me e1 S1).ne with
            | err _ _ _=>cases q2:me e1 S1 <;> rw [q2] at q3 <;> cases q3
            | bad=>rw [q3] at h; cases h
            | ok y S2 =>
              rw [q3] at h
              cases y with
              | r _=>cases h
              | d d =>
                have h:((lcL t l mt me e xs S2).bind fun ds S3=>R.ok (d :: ds) S3) = .err C fs S':=h
                cases q4:lcL t l mt me e xs S2 with
                | ok _ _=>rw [q4] at h; cases h
                | bad=>rw [q4] at h; cases h
                | err C' fs' S''=>exact Y7j q4
      · cases h
    · cases h
theorem Y2i {α β:Type} {rel:Wd→List Addr→Hp→α→β→Prop} {K:PySem.W.Frag} {Z:Wd} {ρ:List Addr} {S:Sto} {e:Ev} {H:Hp} {σ:L2.St} {m:MG α} {R':β→Hp→Prop} (st:Sta K Z ρ S H) (ev:EvOk K (Wn Z ρ) ρ H e σ) {a:α} {S1:Sto} (h:(m e S).ne = .ok a S1)
    (next:∀ ρ1 H1 v,Sta K Z ρ1 S1 H1→Go ρ H ρ1 H1→EvOk K (Wn Z ρ1) ρ1 H1 e σ→rel (Wn Z ρ1) ρ1 H1 a v→R' v H1):RG rel K WX0 m σ H R':=by
  refine ⟨Z,ρ,e,S,st,ev,?_⟩
  cases q:m e S with
  | ok b S2 =>
    rw [q] at h
    cases h
    exact fun ρ1 H1 v s1 g r=>next ρ1 H1 v s1 g (ev.mv (g.mv st) g.pre) r
  | err _ _ _=>rw [q] at h; cases h
  | bad=>rw [q] at h; cases h
end
end Bv
namespace Bv
open PySem PySem.Spec L2
open PyProof.Rows hiding St
variable [HasW]
theorem Y6t {σ:L2.St} {v:Nat}:∀ {vs:List Nat},v ∈ vs→(wipe σ vs).set v none=wipe σ vs
  | w :: ws,h=>by
    unfold wipe
    by_cases e:v=w
    · rw [e,List.set_set]
    · have h2:v ∈ ws:=(List.mem_cons.mp h).resolve_left e
      rw [List.set_comm _ _ (fun z=>e z.symm),Y6t h2]
theorem X0b {σ:L2.St} {us:List Nat}:∀ {vs:List Nat},(∀ i ∈ vs,i ∈ us)→wipe (wipe σ us) vs=wipe σ us
  | [],_=>rfl
  | v :: vs,h=>by
    show (wipe (wipe σ us) vs).set v none=wipe σ us
    rw [X0b fun i hi=>h i (List.mem_cons_of_mem _ hi)]
    exact Y6t (h v List.mem_cons_self)
theorem Y32 {σ:L2.St} (vs:List Nat):wipe (wipe σ vs) vs=wipe σ vs:=X0b fun _ h=>h
abbrev MTs (X:Cx) (Wx:WX) (ifs:List Expr) (m:MG Bool):Prop:=PTs X ifs (RB X.K Wx m)
section
variable {X:Cx} {Wx:WX} {pos:Pos} {tg iter elt c:Expr} {ifs:List Expr} {mi:MIt} {mt:MG Bool} {me:M} {t:Tg} {vs:List Nat}
theorem Z07:MTs X Wx [] W8:=⟨fun pins s σ H Q I h=>pts_nil.run pins s σ H Q I (by
  obtain ⟨Z,ρ,e,S,st,ev,p⟩:=h
  exact W5.ret0 p st rfl)⟩
theorem Y2d (h:MT X Wx c mt):MTs X Wx [c] mt:=pts_one h
theorem X8l (hs:∀ i ∈ t.slots,i ∈ vs) {σ:L2.St} {H:Hp} {Q:VK} (h:RE X.K Wx (Z14 t mi mt me vs) σ H Q):tLc (RG (Srv X.K) X.K Wx mi) (TGt X.K t) (RB X.K WX0 mt) (RE X.K WX0 me) vs σ H Q:=by
  obtain ⟨Z,ρ,e,S,st,ev,p⟩:=h
  refine X6 (rel:=Srv X.K) st ev p fun ρ1 H1 J p0 S1 st1 g1 ev1 srv p1=>?_
  obtain ⟨ys,l⟩:=p0
  obtain ⟨G,Y,w,sv⟩:=srv
  intro D0 hD
  have p1:Z55 X.K Z ρ1 H1 Wx σ Q ((lcL t l mt me (Z0s e vs) ys S1).bind Y0k):=p1
  have sv:∀ (Z2:Wd) (ρ2:List Addr) (S2:Sto) (H2:Hp),Sta X.K Z2 ρ2 S2 H2→Mv (Wn Z ρ1) H1 (Wn Z2 ρ2) H2→ρ1 <+: ρ2→(∀ a ob u,H1 a=some (.frz ob u)→H2 a=some (.frz ob u))→l.ok S2=true→G H2 ∧
    ∀ i x H3,Y i H2 x H3→Same H2 H3∧∃ y,ys[i]?=some y∧AX X.K (Wn Z2 ρ2) ρ2 H3 y x:=sv
  have w:Walk J ys.length G Y:=w
  have evw:=ev1.wipe vs
  let Z':Wd:=fun a=>Z a ∨ a=D0
  let Pv:Nat→Hp→Prop:=fun i H=>∃ (ρ:List Addr) (S:Sto) (acc:List D) (xs:List V),Sta X.K Z' ρ S H∧ρ1 <+: ρ∧(∀ a o,a ∉ ρ1→H1 a=some o→a ∉ ρ∧H a=some o)∧(∀ a ob u,H1 a=some (.frz ob u)→H a=some (.frz ob u))∧H D0=some (.lst xs)∧AVs X.K (Wn Z' ρ) H acc xs ∧
    EvOk X.K (Wn Z' ρ) ρ H (Z0s e vs) (wipe σ vs)∧Z55 X.K Z ρ1 H1 Wx σ Q ((lcL t l mt me (Z0s e vs) (ys.drop i) S).bind fun ds S'=>Y0k (acc++ds) S')
  have mvOf:∀ {ρ:List Addr} {S:Sto} {H:Hp},Sta X.K Z' ρ S H→(∀ a o,a ∉ ρ1→H1 a=some o→a ∉ ρ∧H a=some o)→Mv (Wn Z ρ1) H1 (Wn Z' ρ) H:=fun {ρ S H} s k a o hn hq=>by
    have h1:a ∉ ρ1:=fun z=>hn (.inr z)
    obtain ⟨h2,h3⟩:=k a o h1 hq
    refine ⟨fun z=>?_,h3⟩
    rcases z with (z | z) | z
    · exact hn (.inl z)
    · rw [z,hD] at hq; cases hq
    · exact h2 z
  have okOf:∀ {xs:List Bv.X} {S:Sto} {acc:List D},Z55 X.K Z ρ1 H1 Wx σ Q ((lcL t l mt me (Z0s e vs) xs S).bind fun ds S'=>Y0k (acc++ds) S')→l.ok S=true:=fun {xs S acc} q=>by
    cases z:l.ok S with
    | true=>rfl
    | false=>cases xs <;> (simp only [lcL,z] at q; exact q.elim)
  refine lc_it w Pv ?_ ?_ ?_ ?_
  ·
    have k:=U9 (o := .lst []) hD
    have s0:=st1.grow k
    have hnw:¬ Wn Z ρ1 D0:=st1.fresh hD
    have m0:Mv (Wn Z ρ1) H1 (Wn Z' ρ1) (upd H1 D0 (.lst [])):=fun a o hn hq=>⟨fun z=>by
      rcases z with (z | z) | z
      · exact hn (.inl z)
      · rw [z,hD] at hq; cases hq
      · exact hn (.inr z),k a o hq⟩
    refine ⟨ρ1,S1,[],[],⟨st1.nd,fun a z=>?_,st1.len,fun n o a e1 e2=>AO.mv m0 (List.prefix_refl _) (fun u q=>k _ _ q) (st1.ob n o a e1 e2)⟩,List.prefix_refl _,fun a o hn hq=>⟨hn,k a o hq⟩,fun a _ _ q=>k a _ q,upd_same, .nil,evw.mv m0 (List.prefix_refl _),?_⟩
    · rcases z with z | z
      · exact ⟨(st1.z a z).1,let ⟨o,q⟩:=(st1.z a z).2; ⟨o,k a o q⟩⟩
      · exact ⟨fun z2=>hnw (.inr (by rw [← z]; exact z2)),⟨_,by rw [z]; exact upd_same⟩⟩
    · rw [List.drop_zero]
      exact p1
  · rintro i H2 _ ⟨ρ2,S2,acc,xs,st2,pr2,k2,f2,d2,a2,ev2,q2⟩
    exact (sv Z' ρ2 S2 H2 st2 (mvOf st2 k2) pr2 f2 (okOf q2)).1
  · rintro i x H2 H3 hi ⟨ρ2,S2,acc,xs,st2,pr2,k2,f2,d2,a2,ev2,q2⟩ hy
    have hk:=okOf q2
    obtain ⟨k,y,e3,a⟩:=(sv Z' ρ2 S2 H2 st2 (mvOf st2 k2) pr2 f2 hk).2 i x H3 hy
    have st3:=st2.grow k
    have m23:Mv (Wn Z' ρ2) H2 (Wn Z' ρ2) H3:=Z4k k
    have ev3:=ev2.mv m23 (List.prefix_refl _)
    rw [Y4d e3] at q2
    simp only [lcL,hk,if_true] at q2
    cases q4:t.asg S2 y (Z0s e vs) with
    | none=>rw [q4] at q2; exact q2.elim
    | some e4 =>
      rw [q4] at q2
      refine ⟨Z',ρ2,Z0s e vs,S2,y,e4,st3,ev3,a,q4,fun σ5 ev5 w5=>⟨?_,?_⟩⟩
      · rw [w5 vs hs,Y32]
      have q2:Z55 X.K Z ρ1 H1 Wx σ Q (((mt e4 S2).ne.bind fun b S1=>if b then (me e4 S1).ne.bind fun y S2=>(match y with
          | .d d=>(lcL t l mt me (Z0s e vs) (ys.drop (i + 1)) S2).bind fun ds S3 => .ok (d :: ds) S3
          | .r _ => .bad) else lcL t l mt me (Z0s e vs) (ys.drop (i + 1)) S1).bind fun ds S'=>Y0k (acc++ds) S'):=q2
      cases q5:(mt e4 S2).ne with
      | err _ _ _=>cases q6:mt e4 S2 <;> rw [q6] at q5 <;> cases q5
      | bad=>rw [q5] at q2; exact q2.elim
      | ok b S6 =>
        rw [q5] at q2
        refine Y2i (rel:=relB) st3 ev5 q5 fun ρ6 H6 v st6 g6 ev6 r6=>?_
        cases (show b=v from r6)
        have pr6:ρ1 <+: ρ6:=pr2.trans g6.pre
        have nD:D0 ∉ ρ2:=(st2.z D0 (.inr rfl)).1
        obtain ⟨nD6,d6⟩:=g6.keep D0 _ nD (k _ _ d2)
        have k6:∀ a o,a ∉ ρ1→H1 a=some o→a ∉ ρ6∧H6 a=some o:=fun a o h1 h2=>by
          obtain ⟨h3,h4⟩:=k2 a o h1 h2
          exact g6.keep a o h3 (k _ _ h4)
        have m36:=g6.mv st3
        have ev6':EvOk X.K (Wn Z' ρ6) ρ6 H6 (Z0s e vs) (wipe σ vs):=ev3.mv m36 g6.pre
        have a6:=(a2.mv m23).mv m36
        cases b with
        | false =>
          rw [if_neg Bool.false_ne_true]
          exact ⟨ρ6,S6,acc,xs,st6,pr6,k6,fun a ob u q=>g6.fz a ob u (k _ _ (f2 a ob u q)),d6,a6,ev6',q2⟩
        | true =>
          rw [if_pos rfl]
          have q2:Z55 X.K Z ρ1 H1 Wx σ Q (((me e4 S6).ne.bind fun y S2=>(match y with
            | .d d=>(lcL t l mt me (Z0s e vs) (ys.drop (i + 1)) S2).bind fun ds S3 => .ok (d :: ds) S3
            | .r _ => .bad)).bind fun ds S'=>Y0k (acc++ds) S'):=q2
          cases q7:(me e4 S6).ne with
          | err _ _ _=>cases q6:me e4 S6 <;> rw [q6] at q7 <;> cases q7
          | bad=>rw [q7] at q2; exact q2.elim
          | ok z S7 =>
            rw [q7] at q2
            refine Y2i (rel:=AX X.K) st6 ev6 q7 fun ρ7 H7 v st7 g7 ev7 r7=>?_
            cases z with
            | r _=>exact q2.elim
            | d d =>
              have q2:Z55 X.K Z ρ1 H1 Wx σ Q (((lcL t l mt me (Z0s e vs) (ys.drop (i + 1)) S7).bind fun ds S3 => .ok (d :: ds) S3).bind fun ds S'=>Y0k (acc++ds) S'):=q2
              rw [R.bind_assoc] at q2
              have nD6':D0 ∉ ρ6:=nD6
              obtain ⟨nD7,d7⟩:=g7.keep D0 _ nD6' d6
              have m67:=g7.mv st6
              have a7:=a6.mv m67
              have k7:∀ a o,a ∉ ρ1→H1 a=some o→a ∉ ρ7∧H7 a=some o:=fun a o h1 h2=>by
                obtain ⟨h3,h4⟩:=k6 a o h1 h2
                exact g7.keep a o h3 h4
              cases r7 with
              | d r7 =>
                have hlen:acc.length < sizeLine:=by
                  cases q8:lcL t l mt me (Z0s e vs) (ys.drop (i + 1)) S7 with
                  | bad=>rw [q8] at q2; exact q2.elim
                  | err C fs S8=>exact absurd q8 Y7j
                  | ok ds S8 =>
                    rw [q8] at q2
                    have q2:Z55 X.K Z ρ1 H1 Wx σ Q (if (acc++d :: ds).length ≤ sizeLine then .ok (.d (.lst (acc++d :: ds))) S8 else .bad):=q2
                    by_cases hl:(acc++d :: ds).length ≤ sizeLine
                    · rw [List.length_append,List.length_cons] at hl; omega
                    · rw [if_neg hl] at q2; exact q2.elim
                have wD:Wn Z' ρ7 D0 := .inl (.inr rfl)
                have m8:Mv (Wn Z' ρ7) H7 (Wn Z' ρ7) (upd H7 D0 (.lst (xs++[v]))):=fun a o hn hq=>⟨hn,by rw [upd_ne (fun z=>hn (by rw [z]; exact wD))]; exact hq⟩
                have neD:∀ b,b ∈ ρ7→b ≠ D0:=fun b hb z=>nD7 (by rw [← z]; exact hb)
                refine ⟨xs,d7,by rw [← a7.length]; exact hlen,ρ7,S7,acc++[d],xs++[v],⟨st7.nd,fun a z=>⟨(st7.z a z).1,?_⟩,st7.len,fun n o a e1 e2=>AO.mv m8 (List.prefix_refl _) (fun u q=>by rw [upd_ne (neD a (List.mem_of_getElem? e2))]; exact q) (st7.ob n o a e1 e2)⟩,pr6.trans g7.pre,fun a o h1 h2=>?_,fun a ob u q=>by rw [upd_ne (fun z=>by rw [z,hD] at q; cases q)]; exact g7.fz a ob u (g6.fz a ob u (k _ _ (f2 a ob u q))),upd_same,(a7.append (.cons r7 .nil)).mv m8,(ev6'.mv m67 g7.pre).mv m8 (List.prefix_refl _),?_⟩
                · by_cases hz:a=D0
                  · exact ⟨_,by rw [hz]; exact upd_same⟩
                  · obtain ⟨o,q⟩:=(st7.z a z).2
                    exact ⟨o,by rw [upd_ne hz]; exact q⟩
                · obtain ⟨h3,h4⟩:=k7 a o h1 h2
                  exact ⟨h3,by rw [upd_ne (fun z=>by rw [z,hD] at h2; cases h2)]; exact h4⟩
                · have e9:(fun (ds:List D) (S':Sto)=>Y0k (acc++[d]++ds) S')=fun ds S'=>Y0k (acc++(d :: ds)) S':=by
                    funext ds S'
                    rw [List.append_assoc]; rfl
                  show Z55 X.K Z ρ1 H1 Wx σ Q ((lcL t l mt me (Z0s e vs) (ys.drop (i + 1)) S7).bind fun ds S'=>Y0k (acc++[d]++ds) S')
                  rw [e9]
                  exact q2
  · rintro H2 ⟨ρ2,S2,acc,xs,st2,pr2,k2,f2,d2,a2,ev2,q2⟩
    have hk:=okOf q2
    rw [List.drop_length] at q2
    simp only [lcL,hk,if_true] at q2
    have q2:Z55 X.K Z ρ1 H1 Wx σ Q (Y0k (acc++[]) S2):=q2
    rw [List.append_nil] at q2
    have q2:Z55 X.K Z ρ1 H1 Wx σ Q (if acc.length ≤ sizeLine then .ok (.d (.lst acc)) S2 else .bad):=q2
    by_cases hl:acc.length ≤ sizeLine
    · rw [if_pos hl] at q2
      have m:Mv (Wn Z' ρ2) H2 (Wn Z ρ2) H2:=fun a o hn hq=>⟨fun z=>hn (z.elim (fun z => .inl (.inl z)) .inr),hq⟩
      refine q2 ρ2 H2 (.ref D0) ⟨st2.nd,fun a z=>st2.z a (.inl z),st2.len,fun n o a e1 e2=>AO.mv m (List.prefix_refl _) (fun u q=>q) (st2.ob n o a e1 e2)⟩ ⟨pr2,k2,f2⟩ (.d (.lst (fun z=>?_) d2 (a2.mv m)))
      rcases z with z | z
      · exact st1.fresh hD (.inl z)
      · exact (st2.z D0 (.inr rfl)).1 z
    · rw [if_neg hl] at q2; exact q2.elim
theorem Z7e {scope:Scope} {own:List (Str × Nat)} (hc:X.calm=true) (hN:X.N.Nodup) (hi:MI X Wx tg iter mi) (ok:BlkOk X.N X.env.scope scope own) (hsl:∀ i ∈ t.slots,i ∈ own.map (·.2))
    (hg:∀ (s:Shared) (H:Hp) (C:Addr) (cl:List (Str × Addr)) (fp:List Addr),PG (X.blk s H scope (compEnvC scope cl C X.env) fp) tg (TGt X.K t)) (ht:∀ (s:Shared) (H:Hp) (C:Addr) (cl:List (Str × Addr)) (fp:List Addr),MTs (X.blk s H scope (compEnvC scope cl C X.env) fp) WX0 ifs mt)
    (he:∀ (s:Shared) (H:Hp) (C:Addr) (cl:List (Str × Addr)) (fp:List Addr),ME (X.blk s H scope (compEnvC scope cl C X.env) fp) WX0 elt me) (hs:∀ x,foldedSetIterable iter X.env x=pure x:=by intro _; rfl) :
    ME X Wx (.ListComp elt [⟨tg,iter,ifs,0⟩] scope pos) (Z14 t mi mt me (own.map (·.2))):=PE.of (pe_lc hc hN hi ok hg ht he hs) fun _ _ _ h=>X8l hsl h
theorem Z4q {i:Nat} {y:Str} {py spos:Pos} {scope:Scope} {own:List (Str × Nat)} (hc:X.calm=true) (hN:X.N.Nodup) (hy:X.N[i]?=some y) (hyl:X.env.scope.names.lookup y=some .local)
    (hsw:swapsWith (.ListComp elt [⟨tg,iter,ifs,0⟩] scope pos) (some (.Name y py)) spos.line X.env=pure true) (hi:MI X Wx tg iter mi) (ok:BlkOk X.N X.env.scope scope own) (hsl:∀ i ∈ t.slots,i ∈ own.map (·.2))
    (hg:∀ (s:Shared) (H:Hp) (C:Addr) (cl:List (Str × Addr)) (fp:List Addr),PG (X.blk s H scope (compEnvC scope cl C X.env) fp) tg (TGt X.K t)) (ht:∀ (s:Shared) (H:Hp) (C:Addr) (cl:List (Str × Addr)) (fp:List Addr),MTs (X.blk s H scope (compEnvC scope cl C X.env) fp) WX0 ifs mt)
    (he:∀ (s:Shared) (H:Hp) (C:Addr) (cl:List (Str × Addr)) (fp:List Addr),ME (X.blk s H scope (compEnvC scope cl C X.env) fp) WX0 elt me) (hs:∀ x,foldedSetIterable iter X.env x=pure x:=by intro _; rfl) :
    MP X Wx (.Assign [.Name y py] (.ListComp elt [⟨tg,iter,ifs,0⟩] scope pos) spos) (X2 i (Z14 t mi mt me (own.map (·.2)))):=PS.of (ps_setLc hc hN hy hyl hsw hi ok hg ht he hs) fun D σ H ⟨Z,ρ,e,S,st,ev,p⟩=>by
  refine X8l (mt:=mt) (me:=me) (t:=t) hsl ?_
  exact Z1i (rel:=AX X.K) st ev p fun ρ1 H1 v x S1 st1 g1 ev1 a1 p1=>p1.next st1 (ev1.set a1)
end
end Bv
namespace Bv
open PySem PySem.Spec L2
open PyProof.Rows hiding St
variable [HasW]
def W9v (K:PySem.W.Frag) (t:TE):TI:=fun σ H R=>t σ H fun x H1 =>
  (∃ a,x = .ref a∧(((∃ xs,SqL K H1 a xs)∧R (Itl K a) H1) ∨ ((∃ xs,SqT K H1 a xs)∧R (Itt K a) H1))) ∨ ∃ z,x = .str z∧R (Its z) H1
theorem W5l {X:Cx} {tg e:Expr} {t:TE} (he:PE X e t):PI X tg e (W9v X.K t):=⟨fun pins s σ H R I h=>thn (he.run pins s σ H _ I h) fun v s1 ⟨x,H1,I1,r1,q1⟩=>by
  rcases q1 with ⟨a,rfl,⟨⟨xs,hq⟩,q⟩ | ⟨⟨xs,hq⟩,q⟩⟩ | ⟨z,rfl,q⟩
  · cases r1
    obtain ⟨its,_,p,_⟩:=I1.list hq
    exact wpAny_pyIter_list p.isList (pi_one (tk:=s1.toks) I1 _ (turn_list a _) ⟨_,Heap.get?_push_size _ rfl,rfl,rfl⟩ q)
  · cases r1
    obtain ⟨its,_,p,_⟩:=I1.tuple hq
    exact wpAny_pyIter_tuple (show s1.heap.IsTuple a its.toArray from p) (pi_one (tk:=s1.toks) I1 _ (turn_tuple a _) ⟨_,Heap.get?_push_size _ rfl,rfl,rfl⟩ q)
  · obtain ⟨t,rfl⟩:=r1
    cases hz:z.cps.all (· < 128) with
    | false=>exact wpAny_pyIter_wide hz (pi_one (tk:=s1.toks) I1 _ (turn_str _ z t "str_iterator" (.inr rfl)) ⟨_,Heap.get?_push_size _ rfl,rfl,rfl⟩ q)
    | true=>exact wpAny_pyIter_ascii hz (pi_one (tk:=s1.toks) I1 _ (turn_str _ z t "str_ascii_iterator" (.inl rfl)) ⟨_,Heap.get?_push_size _ rfl,rfl,rfl⟩ q)⟩
def Y0g (S:Sto):X→Option (List X × Lk)
  | .d (.lst ds)=>some (ds.map .d, .free)
  | .d (.tup ds)=>some (ds.map .d, .free)
  | .d (.scr ns)=>some (ns.map fun i => .d (.int i), .free)
  | .d (.str z)=>some (z.cps.toList.map fun c => .d (.str ⟨#[c]⟩), .free)
  | .d _=>none
  | .r n=>match S[n]? with
    | some (.lst xs)=>some (xs, .lst n xs)
    | _=>none
def V7 (m:M):MIt:=fun e S=>(m e S).bind fun x S1=>Z04 (Y0g S1 x) S1
theorem X1q {K:PySem.W.Frag} {a:Addr} (n:Nat):Walk (Itl K a) n (fun H=>∃ xs,xs.length=n∧SqL K H a xs) (fun i H x H'=>H'=H∧∀ xs,SqL K H a xs→xs[i]?=some x) :=
  ⟨fun i _ hi ⟨xs,e,q⟩=>⟨xs,xs[i]'(by omega),q,by simp [show i < xs.length by omega]⟩,fun _ ⟨xs,e,q⟩=>⟨xs,q,by omega⟩,fun _ _ _ _ _ _ y=>y⟩
theorem Same.rfl' {H:Hp}:Same H H:=fun _ _ q=>q
theorem Y4w {α β:Type} {F:α→β→Prop}:∀ {l:List α} {r:List β} {j:Nat} {b:β},Paired F l r→r[j]?=some b→∃ a,l[j]?=some a∧F a b
  | _,_,_,_, .nil,z=>by simp at z
  | _,_,0,_, .cons h _,z=>by simp at z; subst z; exact ⟨_,rfl,h⟩
  | _,_,j + 1,_, .cons _ t,z=>by
    obtain ⟨a,h1,h2⟩:=Y4w (j:=j) t (by simpa using z)
    exact ⟨a,by simpa using h1,h2⟩
theorem AVs.at_ {K:PySem.W.Frag} {W:Wd} {H:Hp} {ds:List D} {vs:List V} {i:Nat} {v:V} (h:AVs K W H ds vs) (e:vs[i]?=some v):∃ d,ds[i]?=some d∧AV K W H d v:=by
  have hl:=h.length
  obtain ⟨h1,h2⟩:=List.getElem?_eq_some_iff.mp e
  have hd:ds[i]?=some (ds[i]'(by omega)):=List.getElem?_eq_getElem _
  obtain ⟨u,h3,h4⟩:=h.get hd
  rw [e] at h3
  cases h3
  exact ⟨_,hd,h4⟩
theorem Y37 {K:PySem.W.Frag} {W:Wd} {H:Hp}:∀ ns:List Int,AVs K W H (ns.map D.int) (ns.map V.int)
  | [] => .nil
  | i :: r => .cons (.int i) (Y37 r)
section
variable {X:Cx} {Wx:WX} {pos p:Pos} {tg e a b:Expr} {es:List Expr} {m:M} {ms:MG (List Bv.X)}
theorem Y93 {K:PySem.W.Frag} {W:Wd} {ρ:List Addr} {H:Hp} {a:Addr} {xs:List V} {ds:List D} (r:Lp K W H a xs) (hs:AVs K W H ds xs):Srv K W ρ H (ds.map .d, .free) (Itl K a) :=
  ⟨fun H=>SqL K H a xs,YAt xs,by rw [show (ds.map Bv.X.d,Lk.free).1.length=xs.length by simpa using hs.length]; exact walk_list,fun Z2 ρ2 S2 H2 st m p fz k=>⟨(m.lp r).sl,fun i x H3 y=>by
    obtain ⟨rfl,y⟩:=y
    obtain ⟨d,h1,h2⟩:=(hs.mv m).at_ y
    exact ⟨Same.rfl', .d d,by simp [h1], .d h2⟩⟩⟩
theorem Z00 (h:ME X Wx e m):MI X Wx tg e (V7 m):=PI.of (W5l h) fun σ H R ⟨Z,ρ,e,S,st,ev,p⟩=>X6 st ev p fun ρ1 H1 v x S1 st1 g1 ev1 a1 p1=>by
  obtain ⟨w,hw,p2⟩:=p1.opt
  have fin:∀ J,Srv X.K (Wn Z ρ1) ρ1 H1 w J→R J H1:=fun J h=>W5.ret0 p2 st1 h
  cases a1 with
  | d a =>
    cases a with
    | lst w r hs=>cases hw; exact .inl ⟨_,rfl, .inl ⟨⟨_, .inl (.inl r)⟩,fin _ (Y93 (.inl ⟨w, .inl r⟩) hs)⟩⟩
    | scr r =>
      rename_i q ns
      cases hw
      refine .inl ⟨_,rfl, .inl ⟨⟨_,r.sl⟩,fin _ ?_⟩⟩
      have hs:AVs X.K (Wn Z ρ1) H1 (ns.map D.int) (ns.map V.int):=Y37 ns
      have e1:(ns.map D.int).map Bv.X.d=ns.map fun i=>Bv.X.d (.int i):=by simp
      rw [← e1]
      exact Y93 r hs
    | tup t hs =>
      rename_i q us ds
      cases hw
      refine .inl ⟨_,rfl, .inr ⟨⟨_,t.sq⟩,fin _ ⟨_,_,by rw [show (ds.map Bv.X.d,Lk.free).1.length=us.length by simpa using hs.length]; exact walk_tup,fun Z2 ρ2 S2 H2 st m p fz k=>⟨(m.tp t).sq,fun i x H3 y=>?_⟩⟩⟩⟩
      obtain ⟨rfl,y⟩:=y
      obtain ⟨d,h1,h2⟩:=(hs.mv m).at_ y
      exact ⟨Same.rfl', .d d,by simp [h1], .d h2⟩
    | str hz =>
      rename_i z
      cases hw
      refine .inr ⟨_,rfl,fin _ ⟨_,_,by rw [show (z.cps.toList.map fun c=>Bv.X.d (.str ⟨#[c]⟩),Lk.free).1.length=z.cps.size by simp]; exact walk_str,fun Z2 ρ2 S2 H2 st m p fz k=>⟨trivial,fun i x H3 y=>?_⟩⟩⟩
      obtain ⟨rfl,c,hc,rfl⟩:=y
      have hm:c ∈ z.cps.toList:=by
        have:=Array.mem_of_getElem? hc
        simpa using this
      have hc':=Y2w hz hm
      refine ⟨Same.rfl', .d (.str ⟨#[c]⟩),by simp [hc], .d (.str (Y1c fun c' m=>?_))⟩
      have:c'=c:=by simpa using m
      rw [this]; exact hc'
    | _=>cases hw
  | r h =>
    rename_i n a
    have hw:(match S1[n]? with
      | some (.lst xs)=>some (xs,Lk.lst n xs)
      | _=>none)=some w:=hw
    cases q:S1[n]? with
    | none=>rw [q] at hw; cases hw
    | some o =>
      rw [q] at hw
      cases o with
      | lst xs =>
        cases hw
        obtain ⟨vs,h1,h2⟩:=st1.ob n _ _ q h
        refine .inl ⟨_,rfl, .inl ⟨⟨_, .inl (.inl h1)⟩,fin _ ⟨_,_,X1q xs.length,fun Z2 ρ2 S2 H2 st m p fz k=>?_⟩⟩⟩
        have k:(match S2[n]? with
          | some (.lst zs)=>decide (zs=xs)
          | _=>false)=true:=k
        cases q2:S2[n]? with
        | none=>rw [q2] at k; cases k
        | some o2 =>
          rw [q2] at k
          cases o2 with
          | lst zs =>
            have k:zs=xs:=of_decide_eq_true k
            subst k
            have h':ρ2[n]?=some a:=by
              obtain ⟨t,rfl⟩:=p
              rw [List.getElem?_append_left (List.getElem?_eq_some_iff.mp h).1]; exact h
            obtain ⟨us,h3,h4⟩:=st.ob n _ _ q2 h'
            refine ⟨⟨us,(Paired.length h4).symm, .inl (.inl h3)⟩,fun i x H3 y=>?_⟩
            obtain ⟨rfl,y⟩:=y
            obtain ⟨b,h5,h6⟩:=Y4w h4 (y us (.inl (.inl h3)))
            exact ⟨Same.rfl',b,h5,h6⟩
          | _=>cases k
      | _=>cases hw
def Y0p (j:Int):Bool:=decide (-(2 ^ 62) ≤ j∧j < 2 ^ 62)
def upTo (lo:Int) (n:Nat):List Bv.X:=(List.range n).map fun (i:Nat)=>Bv.X.d (.int (lo + i))
def ints?:List Bv.X→Option (List Int)
  | []=>some []
  | x :: r=>match Z2v x,ints? r with
    | some i,some l=>some (i :: l)
    | _,_=>none
theorem Y4h {K:PySem.W.Frag} {W:Wd} {ρ:List Addr} {H:Hp}:∀ {xs:List Bv.X} {vs:List V} {l:List Int},AXs K W ρ H xs vs→ints? xs=some l→vs=l.map V.int
  | _,_,_, .nil,e=>by cases e; rfl
  | x :: r,_,l, .cons h t,e=>by
    unfold ints? at e
    cases q:Z2v x with
    | none=>rw [q] at e; cases e
    | some i =>
      cases q2:ints? r with
      | none=>rw [q,q2] at e; cases e
      | some l2 =>
        rw [q,q2] at e
        cases e
        rw [h.int q,Y4h t q2]; rfl
def X7i (xs:List Bv.X):Option (List Bv.X × Lk):=match ints? xs with
  | some [j]=>if Y0p j then some (upTo 0 j.toNat, .free) else none
  | _=>none
def Z5p (ms:MG (List Bv.X)):MIt:=fun e S=>(ms e S).bind fun xs S1=>Z04 (X7i xs) S1
theorem W2b {K:PySem.W.Frag} {W:Wd} {ρ:List Addr} {H:Hp} {lo:Int} {n:Nat}:Srv K W ρ H (upTo lo n, .free) (Itr lo n) :=
  ⟨fun H=>True,fun i H x H'=>i < n∧H'=H∧x = .int (lo + i),by rw [show (upTo lo n,Lk.free).1.length=n by simp [upTo]]; exact ⟨fun _ _ hi _=>hi,fun _ _=>Nat.le_refl _,fun i _ _ _ hi _ y=>⟨hi,y.1,y.2⟩⟩,fun Z2 ρ2 S2 H2 st m p fz k=>⟨trivial,fun i x H3 y=>by
    obtain ⟨hi,rfl,rfl⟩:=y
    exact ⟨Same.rfl', .d (.int (lo + i)),by simp [upTo,hi], .d (.int _)⟩⟩⟩
theorem Y3z {j:Int} (h:Y0p j=true):-(2 ^ 62) ≤ j∧j < 2 ^ 62:=of_decide_eq_true h
theorem Y2c (hg:Gl X "range") (hm:X.mg "range" = none) (ha:MA X Wx [a] ms) (hs:starEach [a] X.env=[(false,eval a X.env)]:=by rfl):MI X Wx tg (.Call (.Name "range" p) [a] [] pos) (Z5p ms):=PI.of (pi_range1 hg hm ha hs) fun σ H R ⟨Z,ρ,e,S,st,ev,p⟩=>X6 st ev p fun ρ1 H1 v xs S1 st1 g1 ev1 a1 p1=>by
  obtain ⟨w,hw,p2⟩:=p1.opt
  unfold X7i at hw
  cases q:ints? xs with
  | none=>rw [q] at hw; cases hw
  | some l =>
    rw [q] at hw
    have e1:=Y4h a1 q
    match l,hw,e1 with
    | [j],hw,e1 =>
      obtain ⟨h1,h2⟩:=Z06 hw
      cases h2
      exact ⟨j,e1,(Y3z h1).1,(Y3z h1).2,W5.ret0 p2 st1 W2b⟩
    | [],hw,_=>cases hw
    | _ :: _ :: _,hw,_=>cases hw
end
end Bv
namespace Xq
open PySem PySem.Spec PyProof.Rows L2
inductive Ch (B:Heap) (H:Hp):Value→Prop
  | nil:Ch B H .none
  | cons {b:Addr} {ob:Obj} {ws:Array Value} {v:Value} (at_:B.get? b=some ob) (da:ob.data = .fields ws) (fr:H b=none) (nx:ws[2]?=some v) (rest:Ch B H v):Ch B H (.ref b)
def Ctx (B:Heap) (H:Hp) (o:Obj):Prop:=∀ ws:Array Value,o.data = .fields ws→∃ v,ws[2]?=some v∧Ch B H v
abbrev Zq (B:Heap) (H:Hp) (cls:Value) (d:Option Addr) (o:Obj):Prop:=Zc cls d o∧Ctx B H o
theorem ctx_steady {B:Heap} {H:Hp}:PXN.Steady1 (Ctx B H):=fun o v h=>by
  obtain ⟨c,d,dt,sl⟩:=o
  cases dt with
  | fields u0 =>
    intro ws e
    cases e
    obtain ⟨v2,e2,q⟩:=h u0 rfl
    exact ⟨v2,HotX.set_other (by decide) e2,q⟩
  | _=>intro ws e; cases e
theorem zq_steady {B:Heap} {H:Hp} {cls:Value} {d:Option Addr}:PXN.Steady1 (Zq B H cls d):=PXN.steady_and (PXN.steady_and PXN.steady_cls PXN.steady_dict) ctx_steady
structure Up (X:Cx) (W:WX) (u:Value) (s':Shared) (a:Addr) (B:Heap) (sI:Shared) (pins:List (Addr × Obj)) (σ:L2.St) (H:Hp) (cls:Value) (d:Option Addr):Prop where
  isA:u = .ref a
  inv:Inv X pins σ H sI
  gr:∀ b o,sI.heap.get? b=some o→b ∉ frs X.stack→B.get? b=some o
  up:sI.heap.UpToSlots s'.heap
  sky:Sky B X.stack a (Zq B H cls d) X.env.locals s'.heap
  na:H a=none
  os:s'.os=sI.os
  ag:AllBare s'.gens
  wish:W cls d σ H
def QX (X:Cx) (W:WX) (u:Value) (s':Shared):Prop:=∃ a B sI pins σ H cls d,Up X W u s' a B sI pins σ H cls d
def Tk (X:Cx) (W:WX):Prop:=∀ u s',QX X W u s'→X.xe u s'
structure Out (P:Program) (w:World) (outer:List Env) (H:Hp) (s:Shared) (E:XK) (u:Value) (s':Shared) (a:Addr) (B:Heap) (H':Hp) (cls:Value) (d:Option Addr):Prop where
  isA:u = .ref a
  fl:HandSPX.FlyingZ B outer a (Zq B H' cls d) s'.heap
  hok:HOk P w H' B
  ub:UB (frs outer) H H' s.heap B s'.heap
  na:H' a=none
  os:s'.os=s.os
  ag:AllBare s'.gens
  wish:E cls d H'
def CQ (P:Program) (w:World):CXT:=fun outer H s E u s'=>∃ a B H' cls d,Out P w outer H s E u s' a B H' cls d
section
variable {X:Cx} {pins:List (Addr × Obj)} {σ:L2.St} {H:Hp} {sI s s':Shared} {B:Heap} {W:WX} {E:XK}
theorem of_call (I:Inv X pins σ H s) (hW:∀ cls d H',E cls d H'→W cls d σ H') {u:Value} (c:CQ X.prog X.w X.stack H s E u s'):QX X W u s':=by
  obtain ⟨a,B,H',cls,d,x⟩:=c
  let keep:Addr→Bool:=fun b=>(B.get? b).isSome || decide (b ∈ frs X.stack)
  obtain ⟨G,inG,outG⟩:=restrict s'.heap keep
  have toG:∀ b o,B.get? b=some o→G.get? b=some o:=fun b o e=>(inG b (by show ((B.get? b).isSome || _)=true; rw [e]; rfl)).trans (x.fl.1 b o e)
  have frG:∀ b,b ∈ frs X.stack→G.get? b=s'.heap.get? b:=fun b hb=>inG b (by show (_ || decide _)=true; rw [decide_eq_true hb,Bool.or_true])
  have un:Un (frs X.stack) [] H H' s.heap G:=by
    refine ⟨fun b o e n hb _=>toG b o (x.ub.keep b o e n hb),fun b o e n hb _=>?_,fun b o e n _=>x.ub.free b o e n,fun b o e _=>?_,x.ub.tups,x.ub.frzs,x.ub.tbls⟩
    · rw [frG b hb]; exact x.ub.slot b o e hb
    · by_cases hb:b ∈ frs X.stack
      · rw [frG b hb]; obtain ⟨sl,q⟩:=x.ub.slot b o e hb; exact ⟨_,q⟩
      · obtain ⟨o',q⟩:=x.ub.there b o e hb; exact ⟨o',toG b o' q⟩
  have fromG:∀ b o,G.get? b=some o→s'.heap.get? b=some o∧keep b=true:=fun b o e=>by
    cases q:keep b with
    | true=>exact ⟨(inG b q).symm.trans e,rfl⟩
    | false=>rw [outG b q] at e; cases e
  refine ⟨a,B,{ s with heap:=G,gens:=s'.gens,drawn:=s'.drawn,toks:=s'.toks },pins,σ,H',cls,d,x.isA,I.call (ch:=[]) un (x.hok.kept toG) x.ag (fun _ z=>nomatch z),fun b o e hb=>?_,Heap.UpToSlots.of_keeps fun b o e=>(fromG b o e).1, .inr (.inl x.fl),x.na,x.os,x.ag,hW _ _ _ x.wish⟩
  obtain ⟨e1,k1⟩:=fromG b o e
  rcases Bool.or_eq_true_iff.mp k1 with k2 | k2
  · obtain ⟨o2,q⟩:=Option.isSome_iff_exists.mp k2
    have z:=x.fl.1 b o2 q
    rw [e1] at z; cases z; exact q
  · exact absurd (of_decide_eq_true k2) hb
theorem QX.leave (hs:X.stack=X.env :: X.outer) (hf:X.env.frame=some X.env.locals) (hex:X.ex=[]) {E₁:Value→Shared→Prop} (hW:∀ cls d σ H,W cls d σ H→E cls d H) {u:Value} (x:QX X W u s') :
    wpAny (model X.prog X.w) X.A (leaving X.env u) (fun _ s''=>CQ X.prog X.w X.outer X.H_0 X.s_0 E u s'') E₁ s':=by
  obtain ⟨a,B,sI,pins,σ,H,cls,d,rfl,I,gr,up,sky,na,os,ag,w⟩:=x
  have frames:X.A.frames=some (X.env :: X.outer):=I.ok.frames.trans (congrArg some hs)
  have hex':∀ b,b ∉ X.ex:=fun b hb=>by rw [hex] at hb; cases hb
  have away:∀ b o,X.s_0.heap.get? b=some o→b ∉ X.fs→b ∉ frs X.stack:=fun b o e hb hm=>by
    cases List.mem_cons.mp (I.stkSub b hm) with
    | inl z =>
      have l1:=Heap.lt_size e
      have l2:=I.ok.above
      rw [z] at l1
      exact Nat.lt_irrefl _ (Nat.lt_of_lt_of_le l1 l2)
    | inr z=>exact hb z
  have ends:∀ h',HandSPX.FlyingZ B X.outer a (Zq B H cls d) h'→s'.heap.UpToSlots h'→CQ X.prog X.w X.outer X.H_0 X.s_0 E (.ref a) { s' with heap:=h' }:=fun h' fl up'=>by
    have ub:UB (frs X.outer) X.H_0 H X.s_0.heap B h':=by
      refine ⟨fun b o e n hb=>gr b o (I.base.keep b o e n hb (hex' b)) (away b o e hb),fun b o e hb=>?_,fun b o e n=>I.base.free b o e n (hex' b),fun b o e hb=>?_,I.base.tups,I.base.frzs,I.base.tbls⟩
      · obtain ⟨_,o0,e0,notF⟩:=I.ok.funs.mem hb
        obtain rfl:o0=o:=by rw [e] at e0; cases e0; rfl
        obtain ⟨l1,q1⟩:=I.base.slot b o0 e (I.ok.frf b hb) hb (hex' b)
        obtain ⟨l2,q2⟩:=up b _ q1 notF
        exact up' b _ q2 notF |>.elim fun l3 q3=>⟨l3,q3⟩
      · obtain ⟨o',q1⟩:=I.base.there b o e (hex' b)
        exact ⟨o',gr b o' q1 (away b o e hb)⟩
    exact ⟨a,B,H,cls,d,rfl,fl,I.inGround gr,ub,na,os.trans I.os,ag,hW _ _ _ _ w⟩
  rw [hs] at sky
  rcases sky with ⟨b1,b2,b3,oe,vs,b4,b5,b6,b7⟩ | fl | hd
  · exact PXN.leaving_firstZ zq_steady frames b3 hf b4 b1 b2 b6 b7 b5 ends
  · exact PXN.leaves_onZ zq_steady frames hf fl ends
  · exact HandSPX.leaves_heldZ hf hd ends
theorem tk_of (hs:X.stack=X.env :: X.outer) (hf:X.env.frame=some X.env.locals) (hex:X.ex=[]) {E₁:Value→Shared→Prop}
    (hx:X.xe=fun e s'=>wpAny (model X.prog X.w) X.A (leaving X.env e) (fun _ s''=>CQ X.prog X.w X.outer X.H_0 X.s_0 E e s'') E₁ s'):Tk X (fun cls d _ H=>E cls d H):=fun u s' x=>by
  rw [hx]
  exact QX.leave (W:=fun cls d _ H=>E cls d H) hs hf hex (fun _ _ _ _ h=>h) x
theorem passAt (tk:Tk X W) (σ:L2.St):PassesAt (CQ X.prog X.w) X σ (WE W σ):=fun _ _ _ e s' I c=>tk e s' (of_call I (fun _ _ _ h=>h) c)
theorem tk0 {X:Cx}:Tk X (fun _ _ _ _=>False):=fun _ _ ⟨_,_,_,_,_,_,_,_,x⟩=>x.wish.elim
end
end Xq
namespace Xq
open PySem PySem.Spec PyProof.Rows L2
inductive Hc (h:Heap) (a:Addr):Value→Prop
  | nil:Hc h a .none
  | cons {b:Addr} {ob:Obj} {ws:Array Value} {v:Value} (ne:b ≠ a) (at_:h.get? b=some ob) (da:ob.data = .fields ws) (nx:ws[2]?=some v) (rest:Hc h a v):Hc h a (.ref b)
inductive Pth (h:Heap):Nat→Addr→Addr→Prop
  | here (b:Addr):Pth h 0 b b
  | step {c b c2:Addr} {oc:Obj} {ws:Array Value} {m:Nat}:h.get? c=some oc→oc.data = .fields ws→ws[2]?=some (.ref c2)→Pth h m c2 b→Pth h (m + 1) c b
section
variable {prog:Program} {w:World} {A:Around} {E:Value→Shared→Prop} {s:Shared}
end
inductive Cp (pn:List (Addr × Obj)):Value→Prop
  | nil:Cp pn .none
  | cons {b:Addr} {ob:Obj} {ws:Array Value} {v:Value} (mem:(b,ob) ∈ pn) (da:ob.data = .fields ws) (nx:ws[2]?=some v) (rest:Cp pn v):Cp pn (.ref b)
section
variable {X:Cx} {pins:List (Addr × Obj)} {σ:L2.St} {H:Hp} {s:Shared}
end
end Xq
namespace Xq
open PySem PySem.Spec PyProof.Rows L2
structure Hot (X:Cx) (a:Addr) (cls:Value):Prop where
  hd:X.A.handled=some (.ref a)
  ch:Cp X.pn (.ref a)
  base:X.base.get? a=none
  obj:∃ (oe:Obj) (vs:Array Value),(a,oe) ∈ X.pn∧oe.cls=cls∧oe.data = .fields vs
section
variable {X:Cx} {W:WX} {a:Addr} {cls0:Value}
end
end Xq
namespace Xq
open PySem PySem.Spec PyProof.Rows L2
section
variable {X:Cx} {pins:List (Addr × Obj)} {σ:L2.St} {H:Hp} {sI s:Shared} {B:Heap} {a:Addr} {Z:Obj→Prop} {i:Nat} {n:Str} {pos:Pos}
end
end Xq
namespace Xq
open PySem PySem.Spec PyProof.Rows L2
section
variable {X:Cx} {x n:Str} {c:Value} {i:Nat} {body suite:List Stmt} {b₀:Stmt} {np pos pos':Pos} {tb:WX→TS} {ts:Addr→Value→Option Addr→TS} {Wout:WX}
end
end Xq
namespace Bv
open PySem PySem.Spec L2
open PyProof.Rows hiding St
variable [HasW]
structure FnG (P:Program) (w:World) (K:PySem.W.Frag) (mg:Str→Option Value) (base:Heap) (k:Nat) (f:Addr) (fd:FuncData) (ps:List Str) (sp:Sp):Prop where
  len:∀ vs H Q E,sp vs H Q E→vs.length=ps.length
  run:∀ (A:Around) (outer:List Env) (s:Shared) (H:Hp) (as:Args) (us:List Value) (vs:List V) (Q:VK) (E:XK),A.guards=some []→Room k A→Env0 P w K mg base A outer s H→BindsTo s fd as (ps.zip us)→Vals vs us→sp vs H Q E →
    codeAny (model P w) A (.call (.ref f) as) (CR (Xq.CQ P w) outer P w H s Q E) s
theorem W0i {A:Around} {C:Addr} {us:List Value} {kw:List (Str × Value)} (h:A.guards=some []):(A.under (.builtin "type.__call__" ⟨.ref C :: us,kw⟩)).guards=some []:=by
  have e:(Code.builtin "type.__call__" ⟨.ref C :: us,kw⟩).guards=[]:=by first | rfl | simp [Code.guards,Code.isGuard,guardIds]
  show pushGuards (Code.builtin "type.__call__" ⟨.ref C :: us,kw⟩).guards A.guards=some []
  rw [e]
  exact h
section
variable {P:Program} {w:World} {K:PySem.W.Frag} {mg:Str→Option Value} {base:Heap} {x qual:Str} {pa:Arguments} {bd:List Stmt} {sc:Scope} {dl:List V} {kw:List (Str × V)} {f:Addr} {fd:FuncData} {N ps:List Str} {k:Nat} {sp:Sp}
abbrev cxB (P:Program) (w:World) (K:PySem.W.Frag) (mg:Str→Option Value) (base:Heap) (N:List Str) (qual:Str) (sc:Scope) (f:Addr) (cdv:Value) (A:Around) (outer:List Env) (s:Shared) (H:Hp) (E:XK):Cx :=
  cxOf (Xq.CQ P w) P w K mg base N qual sc f cdv A outer s H E
theorem FnG.of (F:FunD K x qual pa bd sc dl kw f fd) (S:FnScope N ps sc) (len:∀ vs H Q E,sp vs H Q E→vs.length=ps.length)
    (body:∀ (cdv:Value) (A:Around) (outer:List Env) (s:Shared) (H:Hp) (vs:List V) (Q:VK) (E:XK),A.guards=some []→Room k (A.deeper (envOfC qual sc s.heap.objs.size f cdv))→sp vs H Q E →
      ∃ t,PSs (cxB P w K mg base N qual sc f cdv A outer s H E) bd t∧t { nx:=fun _ H'=>Q .non H',rt:=Q } (L2.start N vs) H):FnG P w K mg base (k + 1) f fd ps sp:=by
  obtain ⟨oc,od,dV,kV,doc,pm,an,cdv,ct,osl,rfl,look,code,_,_⟩:=F.ex
  refine ⟨len,fun A outer s H as us vs Q E gu room e0 binds rel hsp=>?_⟩
  have inK:K.In s.heap:=e0.mod.kin.keeps fun b o q=>(e0.bs b o q).1
  have nolim:s.heap.NoLimit:=e0.mod.nolimit.keeps fun b o q=>(e0.bs b o q).1
  refine codeAny_call_function room.depth (inK _ _ look) rfl S.co S.gen rfl (PySem.W.codeRec_of inK code) (binds _ _ _ _ ?_)
  refine wpAny_newFunctionEnv_cells S.kind (fun ⟨n,v⟩ m=>?_) fun env ee s1 z=>?_
  · rcases S.par n (List.of_mem_zip m).1 with q | q
    · exact .inl q
    · exact .inr ⟨q,PySem.W.cellsFrom_some _ _ _ (.inl q)⟩
  · subst ee
    refine ⟨nolim.keeps z.toInCall.keep,codeAny_func ?_⟩
    obtain ⟨t,run,q⟩:=body cdv A outer s H vs Q E gu (room.deeper _) hsp
    have I:Inv (cxB P w K mg base N qual sc f cdv A outer s H E) [] (L2.start N vs) H s1:=inv_start S room.hd e0 (len _ _ _ _ hsp) rel z
    refine wpAny_mono (run.run [] s1 (L2.start N vs) H _ I q) (fun fl s' y=>?_) fun _ _ y=>y
    cases fl with
    | ret u=>obtain ⟨v,σ',H',J,rv,q⟩:=y; exact ⟨v,H',J.os,J.bare,J.base,J.hok,rv,q⟩
    | next=>obtain ⟨σ',H',J,q⟩:=y; exact ⟨.non,H',J.os,J.bare,J.base,J.hok,rfl,q⟩
    | brk=>obtain ⟨_,_,_,q⟩:=y; exact (show False from q).elim
    | cont=>obtain ⟨_,_,_,q⟩:=y; exact (show False from q).elim
end
theorem Y8y {X:Cx} {k:Nat} {f:Addr} {fd:FuncData} {ps:List Str} {sp:Sp} {dvs:List V} {ds:List Value} {E:St→XK} {pins:List (Addr × Obj)} {σ:St} {H:Hp} {s:Shared} {Q:VK} {us:List Value} {vs:List V} (F:FnG X.prog X.w X.K X.mg X.base k f fd ps sp) (gu:X.A.guards=some []) (room:Room k X.A) (hb:Binds X.K fd ps ds) (hd:Vals dvs ds) (hx:PassesAt (Xq.CQ X.prog X.w) X σ (E σ))
    (I:Inv X pins σ H s) (r:Vals vs us) (h:sp (vs++dvs) H Q (E σ)):codeAny (model X.prog X.w) X.A (.call (.ref f) ⟨us,[]⟩) (wants (EP X pins σ Q) X.xe) s:=by
  have rel:=r.append hd
  have many:(us++ds).length=ps.length:=rel.length.symm.trans (F.len _ _ _ _ h)
  refine codeAny_mono (F.run X.A X.stack s H ⟨us,[]⟩ (us++ds) (vs++dvs) Q (E σ) gu room I.env0 (hb s us I.kIn many) rel h) fun y s' z=>?_
  cases y with
  | error e=>exact hx pins H s e s' I z
  | ok fl =>
    cases fl with
    | ret u=>exact I.after z
    | next=>exact z.elim
    | brk=>exact z.elim
    | cont=>exact z.elim
omit [HasW] in
theorem X25 {P:Program} {w:World} {K:PySem.W.Frag} {mg mb:Str→Option Value} {k:Nat} {fa a:Addr} {fd:FuncData} {x:Str} {sp:Sp} {s1:Shared} {vs:List Value} {ns:List Int} (KX:K.In s1.heap) (hm:s1.heap.Ns mainGlobals mg) (hb:s1.heap.Ns builtinsNs mb) (hbb:∀ x:Str,x ≠ "__name__" → mb x=bootBuiltins x)
    (lim:s1.heap.NoLimit) (hg:s1.gens=#[]) (ha:s1.heap.get? a=some { cls := .type "list",data := .seq vs.toArray }) (hi:IntsAre vs ns) (hl:ns.length ≤ sizeLine) (room:Room k callerA) (F:∀ base:Heap,K.In base→base.Ns mainGlobals mg→FnG P w K mg base k fa fd [x] sp)
    (bind:∀ (s:Shared) (u:Value),BindsTo s fd ⟨[u],[]⟩ [(x,u)]) (hsp:∀ H:Hp,Only H→SqL K H a (ns.map V.int)→sp [.ref a] H (fun v _=>v = .bl true) fun _ _ _=>False) :
    codeAny (model P w) callerA (.call (.ref fa) ⟨[.ref a],[]⟩) (fun r s'=>r = .ok (.ret (.bool true))∧OldK s1.heap s'.heap∧s'.os=s1.os∧AllBare s'.gens) s1:=by
  have main:∀ H:Hp,Only H→SqL K H a (ns.map V.int)→HOk P w H s1.heap→(∀ b,H b ≠ none→b=a)→(H a ≠ none→K.lookup a=none) →
      codeAny (model P w) callerA (.call (.ref fa) ⟨[.ref a],[]⟩) (fun r s'=>r = .ok (.ret (.bool true))∧OldK s1.heap s'.heap∧s'.os=s1.os∧AllBare s'.gens) s1:=fun H only seq hok own out=>by
    have isA:∀ {b:Addr},H b=none ∨ b=a:=fun {b}=>Classical.byCases .inl fun z => .inr (own b z)
    have keepN:∀ {b:Addr} {o:Obj},s1.heap.get? b=some o→H b=none→(hidT s1.heap H).get? b=some o:=fun q n=>hidT_get q n
    have dictN:∀ {b:Addr} {o:Obj} {es:Array DictEntry} {ep:Nat},s1.heap.get? b=some o→o.data = .dict es ep→H b=none:=fun {b o es ep} q d=>isA.resolve_right fun z=>by
      rw [z,ha] at q
      cases q
      exact nomatch (show Data.seq vs.toArray _=Data.dict es ep from d)
    have nsN:∀ {b:Addr} {m:Str→Option Value},s1.heap.Ns b m→(hidT s1.heap H).Ns b m:=fun {b m} ⟨o,es,ep,q,d,r⟩=>⟨o,es,ep,keepN q (dictN q d),d,r⟩
    have inB:K.In (hidT s1.heap H):=fun b o q=>keepN (KX b o q) (Classical.byContradiction fun z=>by
      rw [own b z,out (by rw [← own b z]; exact z)] at q
      cases q)
    have modB:Mod K mg (hidT s1.heap H):=⟨inB,nsN hm,⟨mb,nsN hb,hbb⟩,let ⟨mc,h1,h2⟩:=lim; ⟨mc,nsN h1,h2⟩⟩
    have e0:Env0 P w K mg (hidT s1.heap H) callerA [] s1 H:=⟨rfl,modB,fun b o q=>of_hidT q,Nat.le_of_eq (hidT_size _ _),trivial,fun b z=>absurd (show b ∈ ([]:List Addr) from z) (by simp),hok, .of_eq hg⟩
    refine codeAny_mono ((F _ inB (nsN hm)).run callerA [] s1 H ⟨[.ref a],[]⟩ [.ref a] [.ref a] _ _ rfl room e0 (bind s1 (.ref a)) (.cons rfl .nil) (hsp H only seq)) fun y s' z=>?_
    cases y with
    | error e =>
      obtain ⟨_,_,_,_,_,no⟩:=z
      exact no.wish.elim
    | ok fl =>
      cases fl with
      | next=>exact z.elim
      | brk=>exact z.elim
      | cont=>exact z.elim
      | ret u =>
        obtain ⟨v,H',os,bare,un,hok',rv,q⟩:=z
        cases (show v = .bl true from q)
        cases (show u=Value.bool true from rv)
        refine ⟨rfl,OldK.of_keep fun b o e=>?_,os,bare⟩
        rcases only b with n | ⟨ob,xs,n⟩
        · exact un.keep b o e n (fun z=>absurd (show b ∈ ([]:List Addr) from z) (by simp)) (by simp)
        · obtain ⟨e1,_⟩:=hok b _ n
          obtain ⟨e2,_⟩:=hok' b _ (un.frzs b ob _ n)
          rw [e] at e1
          cases e1
          exact e2
  have rv:=vals_ints hi
  cases own:K.lookup a with
  | some o =>
    have e:=KX a o own
    rw [ha] at e
    cases e
    exact main (fun _=>none) (fun _ => .inl rfl) (.inr ⟨_,vs.toArray,_,own,rfl,rfl,rfl,by rw [List.size_toArray,hi.length]; exact hl,by simpa using rv⟩) (fun b u z=>nomatch (show (none:Option HO)=some u from z)) (fun b z=>absurd rfl z) fun z=>absurd rfl z
  | none =>
    let H0:Hp:=fun b=>if b=a then some (.frz { cls := .type "list",data := .seq vs.toArray } (.lst (ns.map V.int))) else none
    have at0:H0 a=some (.frz { cls := .type "list",data := .seq vs.toArray } (.lst (ns.map V.int))):=if_pos rfl
    have off:∀ b,b ≠ a→H0 b=none:=fun b z=>if_neg z
    refine main H0 (fun b=>?_) (.inl (.inr ⟨_,at0⟩)) (fun b u z=>?_) (fun b z=>Classical.byContradiction fun y=>z (off b y)) fun _=>own
    · by_cases y:b=a
      · exact .inr ⟨_,_,by rw [y]; exact at0⟩
      · exact .inl (off b y)
    · by_cases y:b=a
      · rw [y,at0] at z
        cases z
        rw [y]
        exact ⟨ha,by rw [List.length_map]; exact hl,vs,_,rv,ha⟩
      · rw [off b y] at z; cases z
omit [HasW] in
theorem walk_ofG {l:PySem.W.OpenLaw} {n k:Nat} {q:Program} {loose:List Str} {XP:(Str→Option Value)→Heap→Prop} {YP:World→Heap→Prop} {d:DefRec} {x:Str} (hn:l.most=some n) (hn2:n ≤ sizeLine) (hdf:d.params.defaults=[]) (room:Room k callerA)
    (F:∀ (w:World) (mg:Str→Option Value) (fa:Addr) (h:Heap),YP w h→h.Ns mainGlobals mg→mg d.name=some (.ref fa) →
      ∃ (K:PySem.W.Frag) (fd:FuncData) (sp:Sp),K.In h∧(∀ (s:Shared) (u:Value),BindsTo s fd ⟨[u],[]⟩ [(x,u)])∧(∀ (H:Hp) (a:Addr) (ns:List Int),ns.length ≤ n→Only H→SqL K H a (ns.map V.int)→sp [.ref a] H (fun v _=>v = .bl true) fun _ _ _=>False) ∧
        ∀ base:Heap,K.In base→base.Ns mainGlobals mg→FnG l.prog w K mg base k fa fd [x] sp):PySem.W.WalkO q loose XP YP l.row.toRowW d [] (fun f vs=>PySem.call f vs):=by
  refine Att.attach_call hn hdf fun w s0 s1 mg mb fa o pm cd doc a vs ns G Y _ _ _ hmg hobj hints hlen hg=>?_
  obtain ⟨K,fd,sp,KX,bind,hsp,run⟩:=F w mg fa _ Y G.T.g hmg
  exact X25 KX G.T.g G.T.b G.T.builtins G.T.nolimit hg hobj hints (Nat.le_trans hlen hn2) room run bind fun H only seq=>hsp H a ns hlen only seq
end Bv
namespace Bv
open PySem PySem.Spec L2
open PyProof.Rows hiding St
variable [HasW]
def okX (k:Nat):X→Bool
  | .d _=>true
  | .r n=>decide (n < k)
def okO (k:Nat):O→Bool
  | .lst xs=>xs.all (okX k)
  | .dic kvs=>kvs.all fun p=>okX k p.2
  | .fdc kvs=>kvs.all fun p=>okX k p.2
  | .tdc kvs=>kvs.all fun p=>okX k p.2
  | .ndc kvs=>kvs.all fun p=>okX k p.2
  | .tfc kvs=>kvs.all fun p=>okX k p.2
  | .ins _ fs=>fs.all fun p=>okX k p.2
def cut (k:Nat) (S:Sto):Option Sto:=if (S.take k).all (okO k) then some (S.take k) else none
def Z0h (k:Nat) (S:Sto):X→Option X
  | .d v=>some (.d v)
  | .r n=>if decide (n < k) then some (.r n) else ((X.r n).get S).map .d
def trunc (k:Nat):R X→R X
  | .ok x S=>match Z0h k S x,cut k S with
    | some y,some T => .ok y T
    | _,_ => .ok x S
  | .err C fs S=>match cut k S with
    | some T => .err C fs T
    | none => .err C fs S
  | .bad => .bad
section
variable {K:PySem.W.Frag} {Z:Wd} {ρ ρ1:List Addr} {S S1 T:Sto} {H H1:Hp}
theorem Z9p {W W':Wd} {x:X} {v:V} (p:ρ <+: ρ1) (m:Mv W H W' H) (h:okX ρ.length x=true) (a:AX K W ρ1 H x v):AX K W' ρ H x v:=by
  cases a with
  | d a=>exact .d (a.mv m)
  | r e =>
    rename_i n a
    have h:n < ρ.length:=of_decide_eq_true h
    obtain ⟨t,rfl⟩:=p
    rw [List.getElem?_append_left h] at e
    exact .r e
theorem Z5s {α β:Type} {F G:α→β→Prop} {f:α→Bool} (hf:∀ a b,f a=true→F a b→G a b):∀ {l:List α} {r:List β},l.all f=true→Paired F l r→Paired G l r
  | _,_,_, .nil => .nil
  | a :: l,_,h, .cons x t=>by
    rw [List.all_cons,Bool.and_eq_true] at h
    exact .cons (hf _ _ h.1 x) (Z5s hf h.2 t)
theorem Y67 (s:Sta K Z ρ S H) (s1:Sta K Z ρ1 S1 H1) (g:Go ρ H ρ1 H1) (h:cut ρ.length S1=some T):Sta K Z ρ T H1∧Go ρ H ρ H1∧Mv (Wn Z ρ1) H1 (Wn Z ρ) H1:=by
  obtain ⟨h1,h2⟩:(S1.take ρ.length).all (okO ρ.length)=true∧T=S1.take ρ.length:=by
    unfold cut at h
    split at h
    · rename_i q; cases h; exact ⟨q,rfl⟩
    · cases h
  subst h2
  have m:Mv (Wn Z ρ1) H1 (Wn Z ρ) H1:=fun a o z q=>⟨fun w=>z (w.elim .inl fun w => .inr (g.pre.subset w)),q⟩
  have hl:ρ.length ≤ S1.length:=by rw [s1.len]; exact g.pre.length_le
  refine ⟨⟨s.nd,fun a z=>⟨(s.z a z).1,(s1.z a z).2⟩,by simp; omega,fun n o a e1 e2=>?_⟩,⟨List.prefix_refl _,fun a o z q=>⟨z,(g.keep a o z q).2⟩,g.fz⟩,m⟩
  have hn:n < ρ.length:=(List.getElem?_eq_some_iff.mp e2).1
  have e3:S1[n]?=some o:=by rw [List.getElem?_take_of_lt hn] at e1; exact e1
  have e4:ρ1[n]?=some a:=by
    obtain ⟨t,rfl⟩:=g.pre
    rw [List.getElem?_append_left hn]; exact e2
  have x:=s1.ob n o a e3 e4
  have ho:okO ρ.length o=true:=(List.all_eq_true.mp h1) o (List.mem_of_getElem? e1)
  cases o with
  | lst xs=>obtain ⟨vs,e,q⟩:=x; exact ⟨vs,e,Z5s (fun _ _=>Z9p g.pre m) ho q⟩
  | dic kvs=>obtain ⟨vs,e,q⟩:=x; exact ⟨vs,e,Z5s (f:=fun p=>okX ρ.length p.2) (fun _ _ h z=>⟨z.1,Z9p g.pre m h z.2⟩) (show (kvs.all fun p=>okX ρ.length p.2)=true from ho) q⟩
  | fdc kvs=>obtain ⟨ob,vs,e,q⟩:=x; exact ⟨ob,vs,e,Z5s (f:=fun p=>okX ρ.length p.2) (fun _ _ h z=>⟨z.1,Z9p g.pre m h z.2⟩) (show (kvs.all fun p=>okX ρ.length p.2)=true from ho) q⟩
  | tdc kvs=>obtain ⟨vs,e,q⟩:=x; exact ⟨vs,e,Z5s (f:=fun p=>okX ρ.length p.2) (fun _ _ h z=>⟨z.1,z.2.1.mv m,Z9p g.pre m h z.2.2⟩) (show (kvs.all fun p=>okX ρ.length p.2)=true from ho) q⟩
  | ndc kvs=>obtain ⟨vs,e,q⟩:=x; exact ⟨vs,e,Z5s (f:=fun p=>okX ρ.length p.2) (fun _ _ h z=>⟨z.1,z.2.1.mv m,Z9p g.pre m h z.2.2⟩) (show (kvs.all fun p=>okX ρ.length p.2)=true from ho) q⟩
  | tfc kvs=>obtain ⟨ob,vs,e,q⟩:=x; exact ⟨ob,vs,e,Z5s (f:=fun p=>okX ρ.length p.2) (fun _ _ h z=>⟨z.1,z.2.1.mv m,Z9p g.pre m h z.2.2⟩) (show (kvs.all fun p=>okX ρ.length p.2)=true from ho) q⟩
  | ins C fs=>obtain ⟨dx,vs,e,q⟩:=x; exact ⟨dx,vs,e,Z5s (f:=fun p=>okX ρ.length p.2) (fun _ _ h z=>⟨z.1,Z9p g.pre m h z.2⟩) (show (fs.all fun p=>okX ρ.length p.2)=true from ho) q⟩
theorem W0t {x y:X} {v:V} (s:Sta K Z ρ S H) (s1:Sta K Z ρ1 S1 H1) (g:Go ρ H ρ1 H1) (m:Mv (Wn Z ρ1) H1 (Wn Z ρ) H1) (h:Z0h ρ.length S1 x=some y) (a:AX K (Wn Z ρ1) ρ1 H1 x v):AX K (Wn Z ρ) ρ H1 y v:=by
  cases x with
  | d d=>cases h; exact Z9p g.pre m rfl a
  | r n =>
    have h:(if decide (n < ρ.length) then some (X.r n) else ((X.r n).get S1).map .d)=some y:=h
    by_cases hn:n < ρ.length
    · rw [if_pos (decide_eq_true hn)] at h
      cases h
      exact Z9p g.pre m (decide_eq_true hn) a
    · rw [if_neg (by simpa using hn)] at h
      obtain ⟨d,h1,h2⟩:=Option.map_eq_some_iff.mp h
      subst h2
      have w:=a.get s1 h1
      cases a with
      | r e =>
        rename_i b
        have hb:¬ Wn Z ρ b:=fun z=>by
          rcases z with z | z
          · exact (s1.z b z).1 (List.mem_of_getElem? e)
          · obtain ⟨j,hj,e5⟩:=List.getElem_of_mem z
            obtain ⟨t,rfl⟩:=g.pre
            have e6:(ρ++t)[j]?=some b:=by rw [List.getElem?_append_left hj,List.getElem?_eq_getElem hj,e5]
            have hn2:n < (ρ++t).length:=(List.getElem?_eq_some_iff.mp e).1
            have hj2:j < (ρ++t).length:=(List.getElem?_eq_some_iff.mp e6).1
            have:(ρ++t)[n]=(ρ++t)[j]:=by
              rw [List.getElem?_eq_getElem hn2] at e
              rw [List.getElem?_eq_getElem hj2] at e6
              exact Option.some.inj (e.trans e6.symm)
            have:=(List.getElem_inj s1.nd).mp this
            omega
        cases w with
        | av w=>exact .d (w.mv m)
        | lst h hs=>exact .d (.lst hb h (hs.mv m))
        | fdc h hs=>exact .d (.dic hb h (hs.mv m))
theorem Y3v {Wx:WX} {σ:St} {Q:VK} {r:R X} (s:Sta K Z ρ S H) (h:W5 (AX K) K Z ρ H Wx σ Q (trunc S.length r)):W5 (AX K) K Z ρ H Wx σ Q r:=by
  rw [s.len] at h
  cases r with
  | bad=>exact h
  | ok x T =>
    intro ρ1 H1 v s1 g a
    have h:W5 (AX K) K Z ρ H Wx σ Q (match Z0h ρ.length T x,cut ρ.length T with
      | some y,some T => .ok y T
      | _,_ => .ok x T):=h
    cases q1:Z0h ρ.length T x with
    | none=>rw [q1] at h; exact h ρ1 H1 v s1 g a
    | some y =>
      cases q2:cut ρ.length T with
      | none=>rw [q1,q2] at h; exact h ρ1 H1 v s1 g a
      | some T' =>
        rw [q1,q2] at h
        obtain ⟨s2,g2,m⟩:=Y67 s s1 g q2
        exact h ρ H1 v s2 g2 (W0t s s1 g m q1 a)
  | err C fs T =>
    have h:W5 (AX K) K Z ρ H Wx σ Q (match cut ρ.length T with
      | some T => .err C fs T
      | none => .err C fs T):=h
    cases q2:cut ρ.length T with
    | none=>rw [q2] at h; exact h
    | some T' =>
      rw [q2] at h
      intro ρ1 H1 d s1 g z
      obtain ⟨s2,g2,m⟩:=Y67 s s1 g q2
      refine h ρ H1 d s2 g2 ?_
      rcases z with z | ⟨dd,vs,z1,z2,z3,z4,z5⟩
      · exact .inl z
      · exact .inr ⟨dd,vs,z1,z2,fun w=>z3 (w.elim .inl fun w => .inr (g.pre.subset w)),z4,z5.mv m⟩
end
abbrev wxE (E:XK):WX:=fun c d _ H=>E c d H
def spE (K:PySem.W.Frag) (n:Nat) (g:List X→Sto→R X):Sp:=fun vs H Q E=>vs.length=n∧∃ (Z:Wd) (ρ:List Addr) (xs:List X) (S:Sto),Sta K Z ρ S H∧AXs K (Wn Z ρ) ρ H xs vs∧W5 (AX K) K Z ρ H (wxE E) [] Q (g xs S)
inductive PR where
  | ok (d:D) | err (C:Str) (fs:List (Str × D)) | bad
def W3i (K:PySem.W.Frag) (W:Wd) (H:Hp) (Q:VK) (E:XK):PR→Prop
  | .ok d=>∀ H' v,Same H H'→AV K W H' d v→Q v H'
  | .err C fs=>∀ H' d,Same H H'→W3f K W H H' fs d→E (.ref (He.ga K C)) d H'
  | .bad=>False
def spP (K:PySem.W.Frag) (n:Nat) (g:List D→PR):Sp:=fun vs H Q E=>vs.length=n∧∃ (W:Wd) (ds:List D),(∀ a,W a→∃ o,H a=some o)∧AVs K W H ds vs∧W3i K W H Q E (g ds)
def ev0 (N:Nat) (xs:List X):Ev:=xs.map some++List.replicate (N - xs.length) none
def Z3g:RO→R X
  | .go (.nx _) S => .ok (.d .non) S
  | .go (.rt x) S => .ok x S
  | .err C fs _ S => .err C fs S
  | _ => .bad
def X08 (N:Nat) (mb:MS) (xs:List X) (S:Sto):R X:=trunc S.length (Z3g (mb (ev0 N xs) S))
def W8l (N:Nat) (mb:MS) (xs:List X) (S:Sto):R X:=Z3g (mb (ev0 N xs) S)
def Z24:RO→PR
  | .go (.nx _) _ => .ok .non
  | .go (.rp d) _ => .ok d
  | .err C fs _ _ => .err C fs
  | _ => .bad
def Z6e (N:Nat) (mb:MS) (ds:List D):PR:=Z24 (mb (ev0 N (ds.map .d)) [])
theorem X2l {K:PySem.W.Frag} {W:Wd} {ρ:List Addr} {H:Hp} {N:List Str} {xs:List X} {vs:List V} (a:AXs K W ρ H xs vs):EvOk K W ρ H (ev0 N.length xs) (L2.start N vs):=by
  have hl:xs.length=vs.length:=Paired.length a
  refine ⟨by simp [ev0,L2.start,hl],fun i x q=>?_⟩
  unfold ev0 at q
  by_cases hi:i < xs.length
  · rw [List.getElem?_append_left (by simpa using hi),List.getElem?_map] at q
    obtain ⟨y,h1,h2⟩:=Option.map_eq_some_iff.mp q
    cases h2
    have go:∀ {l:List X} {r:List V} {j:Nat},AXs K W ρ H l r→l[j]?=some x→∃ b,r[j]?=some b∧AX K W ρ H x b:=fun {l r j} p=>by
      induction p generalizing j with
      | nil=>intro z; simp at z
      | cons x _ ih =>
        intro z
        cases j with
        | zero=>simp at z; subst z; exact ⟨_,rfl,x⟩
        | succ n=>simp at z; obtain ⟨b,h1,h2⟩:=ih z; exact ⟨b,by simpa using h1,h2⟩
    obtain ⟨v,h3,h4⟩:=go a h1
    refine ⟨v,?_,h4⟩
    unfold L2.start
    rw [List.getElem?_append_left (by rw [List.length_map,← hl]; exact hi),List.getElem?_map,h3]; rfl
  · rw [List.getElem?_append_right (by simpa using hi)] at q
    rw [List.getElem?_replicate] at q
    split at q <;> cases q
section
variable {P:Program} {w:World} {K:PySem.W.Frag} {mg:Str→Option Value} {base:Heap} {x qual:Str} {pa:Arguments} {bd:List Stmt} {sc:Scope} {dl:List V} {kw:List (Str × V)} {f:Addr} {fd:FuncData} {N ps:List Str} {k:Nat} {mb:MS}
theorem fnE (F:FunD K x qual pa bd sc dl kw f fd) (S:FnScope N ps sc)
    (h:∀ (cdv:Value) (A:Around) (outer:List Env) (s:Shared) (H:Hp) (E:XK),A.guards=some []→Room k (A.deeper (envOfC qual sc s.heap.objs.size f cdv))→MPs (cxB P w K mg base N qual sc f cdv A outer s H E) (wxE E) bd mb) :
    FnG P w K mg base (k + 1) f fd ps (spE K ps.length (X08 N.length mb)):=FnG.of F S (fun _ _ _ _ z=>z.1) fun cdv A outer s H vs Q E gu hr ⟨hl,Z,ρ,xs,T,st,a,p⟩=>by
  refine ⟨_,h cdv A outer s H E gu hr,Z,ρ,ev0 N.length xs,T,st,X2l a,?_⟩
  have p:=Y3v st (show W5 (AX K) K Z ρ H (wxE E) [] Q (trunc T.length (Z3g (mb (ev0 N.length xs) T))) from p)
  cases q:mb (ev0 N.length xs) T with
  | bad=>rw [q] at p; exact p
  | err C fs e S'=>rw [q] at p; exact fun ρ' H' σ' d s1 g ev z=>p ρ' H' d s1 g z
  | go o S' =>
    rw [q] at p
    cases o with
    | nx e=>exact fun ρ' H' σ' s1 g ev=>p ρ' H' .non s1 g (.d .non)
    | rt x=>exact p
    | bk e=>exact p.elim
    | ct e=>exact p.elim
    | rp d=>exact p.elim
    | rq d=>exact p.elim
theorem fnR (F:FunD K x qual pa bd sc dl kw f fd) (S:FnScope N ps sc)
    (h:∀ (cdv:Value) (A:Around) (outer:List Env) (s:Shared) (H:Hp) (E:XK),A.guards=some []→Room k (A.deeper (envOfC qual sc s.heap.objs.size f cdv))→MPs (cxB P w K mg base N qual sc f cdv A outer s H E) (wxE E) bd mb) :
    FnG P w K mg base (k + 1) f fd ps (spE K ps.length (W8l N.length mb)):=FnG.of F S (fun _ _ _ _ z=>z.1) fun cdv A outer s H vs Q E gu hr ⟨hl,Z,ρ,xs,T,st,a,p⟩=>by
  refine ⟨_,h cdv A outer s H E gu hr,Z,ρ,ev0 N.length xs,T,st,X2l a,?_⟩
  have p:W5 (AX K) K Z ρ H (wxE E) [] Q (Z3g (mb (ev0 N.length xs) T)):=p
  cases q:mb (ev0 N.length xs) T with
  | bad=>rw [q] at p; exact p
  | err C fs e S'=>rw [q] at p; exact fun ρ' H' σ' d s1 g ev z=>p ρ' H' d s1 g z
  | go o S' =>
    rw [q] at p
    cases o with
    | nx e=>exact fun ρ' H' σ' s1 g ev=>p ρ' H' .non s1 g (.d .non)
    | rt x=>exact p
    | bk e=>exact p.elim
    | ct e=>exact p.elim
    | rp d=>exact p.elim
    | rq d=>exact p.elim
theorem fnP (F:FunD K x qual pa bd sc dl kw f fd) (S:FnScope N ps sc)
    (h:∀ (cdv:Value) (A:Around) (outer:List Env) (s:Shared) (H:Hp) (E:XK),A.guards=some []→Room k (A.deeper (envOfC qual sc s.heap.objs.size f cdv))→MPs (cxB P w K mg base N qual sc f cdv A outer s H E) (wxE E) bd mb) :
    FnG P w K mg base (k + 1) f fd ps (spP K ps.length (Z6e N.length mb)):=FnG.of F S (fun _ _ _ _ z=>z.1) fun cdv A outer s H vs Q E gu hr ⟨hl,W,ds,hw,a,p⟩=>by
  have m0:∀ H,Mv W H (Wn W []) H:=fun H a o z q=>⟨fun y=>y.elim z (by simp),q⟩
  have m1:∀ ρ H,Mv (Wn W ρ) H W H:=fun ρ H a o z q=>⟨fun y=>z (.inl y),q⟩
  have st:Sta K W [] [] H:=⟨List.nodup_nil,fun a z=>⟨by simp,hw a z⟩,rfl,fun n o a e1 _=>by simp at e1⟩
  refine ⟨_,h cdv A outer s H E gu hr,W,[],ev0 N.length (ds.map .d),[],st,X2l (a.mv (m0 H)).axs,?_⟩
  have p:W3i K W H Q E (Z24 (mb (ev0 N.length (ds.map .d)) [])):=p
  cases q:mb (ev0 N.length (ds.map .d)) [] with
  | bad=>rw [q] at p; exact p
  | err C fs e S' =>
    rw [q] at p
    refine fun ρ' H' σ' d s1 g ev z=>p H' d (fun a o q=>(g.keep a o (by simp) q).2) ?_
    rcases z with z | ⟨dd,vs,z1,z2,z3,z4,z5⟩
    · exact .inl z
    · exact .inr ⟨dd,vs,z1,z2,fun w=>z3 (.inl w),z4,z5.mv (m1 _ _)⟩
  | go o S' =>
    rw [q] at p
    cases o with
    | nx e=>exact fun ρ' H' σ' s1 g ev=>p H' .non (fun a o q=>(g.keep a o (by simp) q).2) .non
    | rp d=>exact fun H' v k a=>p H' v (fun b o q=>k b o (by simp) q) a
    | bk e=>exact p.elim
    | ct e=>exact p.elim
    | rt d=>exact p.elim
    | rq d=>exact p.elim
end
end Bv
namespace Bv
open PySem PySem.Spec L2
open PyProof.Rows hiding St
variable [HasW]
mutual
def D.noL:D→Bool
  | .lst _=>false
  | .dic _=>false
  | .scr _=>false
  | .tup ds=>D.noLs ds
  | .obj _ fs=>D.noLf fs
  | _=>true
def D.noLs:List D→Bool
  | []=>true
  | d :: r=>d.noL && D.noLs r
def D.noLf:List (Str × D)→Bool
  | []=>true
  | (_,d) :: r=>d.noL && D.noLf r
end
def X5h (W W':Wd) (H:Hp):Prop:=∀ a,W a→¬ W' a→(∃ xs,H a=some (.lst xs)) ∨ ∃ ob ks,H a=some (.frz ob (.dK ks))
theorem W1o {ds:List D} (h:(D.tup ds).noL=true):D.noLs ds=true:=by simpa [D.noL] using h
theorem W1m {C:Str} {fs:List (Str × D)} (h:(D.obj C fs).noL=true):D.noLf fs=true:=by simpa [D.noL] using h
theorem Y5z {d:D} {r:List D} (h:D.noLs (d :: r)=true):d.noL=true∧D.noLs r=true:=by simpa [D.noLs] using h
theorem Y5y {f:Str} {d:D} {r:List (Str × D)} (h:D.noLf ((f,d) :: r)=true):d.noL=true∧D.noLf r=true:=by simpa [D.noLf] using h
theorem W1l {ds:List D}:¬ (D.lst ds).noL=true:=by simp [D.noL]
theorem W1k {ds:List (D × D)}:¬ (D.dic ds).noL=true:=by simp [D.noL]
theorem W1n {ds:List Int}:¬ (D.scr ds).noL=true:=by simp [D.noL]
section
variable {K:PySem.W.Frag} {W W':Wd} {H:Hp}
mutual
theorem AV.noL (hw:X5h W W' H):∀ {d:D} {v:V},d.noL=true→AV K W' H d v→AV K W H d v
  | _,_,_, .non => .non
  | _,_,_, .bl b => .bl b
  | _,_,_, .int i => .int i
  | _,_,_, .str x => .str x
  | _,_,_, .gl x => .gl x
  | _,_,n, .tup h hs => .tup (by
      rcases h with ⟨h1,h2⟩ | h
      · refine .inl ⟨fun z=>?_,h2⟩
        rcases hw _ z h1 with ⟨xs,q⟩ | ⟨_,ks,q⟩ <;> (rw [h2] at q; cases q)
      · exact .inr h) (AVs.noL hw (W1o n) hs)
  | _,_,n, .obj h1 h2 hs => .obj (fun z=>by
      rcases hw _ z h1 with ⟨xs,q⟩ | ⟨_,ks,q⟩ <;> (rw [h2] at q; cases q)) h2 (AVf.noL hw (W1m n) hs)
  | _,_,n, .lst _ _ _=>(W1l n).elim
  | _,_,n, .dic _ _ _=>(W1k n).elim
  | _,_,n, .scr _=>(W1n n).elim
theorem AVs.noL (hw:X5h W W' H):∀ {ds:List D} {vs:List V},D.noLs ds=true→AVs K W' H ds vs→AVs K W H ds vs
  | _,_,_, .nil => .nil
  | _,_,n, .cons h hs => .cons (AV.noL hw (Y5z n).1 h) (AVs.noL hw (Y5z n).2 hs)
theorem AVf.noL (hw:X5h W W' H):∀ {ds:List (Str × D)} {vs:List (Str × V)},D.noLf ds=true→AVf K W' H ds vs→AVf K W H ds vs
  | _,_,_, .nil => .nil
  | _,_,n, .cons h hs => .cons (AV.noL hw (Y5y n).1 h) (AVf.noL hw (Y5y n).2 hs)
end
end
def X.isD:X→Bool
  | .d _=>true
  | .r _=>false
def callP (g:List D→PR) (xs:List X) (S:Sto):R X:=match Z19 S xs with
  | some ds=>(match g ds with
    | .ok d=>if xs.all X.isD || d.noL then .ok (.d d) S else .bad
    | .err C fs=>if xs.all X.isD || D.noLf fs then .err C fs S else .bad
    | .bad => .bad)
  | none => .bad
section
variable {K:PySem.W.Frag} {Z:Wd} {ρ:List Addr} {S:Sto} {H:Hp}
def W3h (ρ:List Addr) (xs:List X):Wd:=fun a=>∃ n,X.r n ∈ xs∧ρ[n]?=some a
theorem lend (st:Sta K Z ρ S H) (W':Wd) (hs:∀ a,W' a→Wn Z ρ a):∀ {xs:List X} {vs:List V} {ds:List D},(∀ a,W3h ρ xs a→¬ W' a)→AXs K (Wn Z ρ) ρ H xs vs→Z19 S xs=some ds→AVs K W' H ds vs
  | _,_,_,_, .nil,e=>by cases e; exact .nil
  | x :: r,_,ds,hb, .cons h t,e=>by
    unfold Z19 at e
    cases q:x.get S with
    | none=>rw [q] at e; cases e
    | some d =>
      cases q2:Z19 S r with
      | none=>rw [q,q2] at e; cases e
      | some l =>
        rw [q,q2] at e
        cases e
        have m:Mv (Wn Z ρ) H W' H:=fun a o z y=>⟨fun w=>z (hs a w),y⟩
        refine .cons ?_ (lend st W' hs (fun a ⟨n,h1,h2⟩=>hb a ⟨n,List.mem_cons_of_mem _ h1,h2⟩) t q2)
        have w:=h.get st q
        cases h with
        | d h=>cases q; exact h.mv m
        | r h =>
          have nb:=hb _ ⟨_,List.mem_cons_self,h⟩
          cases w with
          | av w=>exact w.mv m
          | lst h hs=>exact .lst nb h (hs.mv m)
          | fdc h hs=>exact .dic nb h (hs.mv m)
theorem X8n (st:Sta K Z ρ S H):∀ {xs:List X} {ds:List D} {a:Addr},Z19 S xs=some ds→W3h ρ xs a→(∃ vs,H a=some (.lst vs)) ∨ ∃ ob ks,H a=some (.frz ob (.dK ks))
  | [],_,_,_,⟨n,h,_⟩=>by simp at h
  | x :: r,ds,a,e,⟨n,h,h2⟩=>by
    unfold Z19 at e
    cases q:x.get S with
    | none=>rw [q] at e; cases e
    | some d =>
      cases q2:Z19 S r with
      | none=>rw [q,q2] at e; cases e
      | some l =>
        rcases List.mem_cons.mp h with z | z
        · subst z
          have w:=(AX.r (K:=K) (W:=Wn Z ρ) (H:=H) h2).get st q
          have q':(match S[n]? with
            | some (.lst xs)=>(ds? xs).map .lst
            | some (.fdc kvs)=>(ks? kvs).map .dic
            | _=>none)=some d:=q
          cases y:S[n]? with
          | none=>rw [y] at q'; cases q'
          | some o =>
            rw [y] at q'
            have ob:=st.ob n o a y h2
            cases o with
            | lst xs=>obtain ⟨vs,h3,_⟩:=ob; exact .inl ⟨vs,h3⟩
            | fdc xs=>obtain ⟨o,vs,h3,_⟩:=ob; exact .inr ⟨o,vs,h3⟩
            | _=>cases q'
        · exact X8n st q2 ⟨n,z,h2⟩
theorem X6a {xs:List X} (h:xs.all X.isD=true) (a:Addr):¬ W3h ρ xs a:=fun ⟨n,h1,_⟩=>by
  have:=List.all_eq_true.mp h _ h1
  cases this
end
end Bv
namespace Bv
open PySem PySem.Spec L2
open PyProof.Rows hiding St
variable [HasW]
section
variable {K:PySem.W.Frag} {Z:Wd} {ρ:List Addr} {S:Sto} {H:Hp}
theorem W55 {g:List D→PR} {Wx:WX} {σ:St} {Q:VK} {xs:List X} {vs:List V} {n:Nat} (st:Sta K Z ρ S H) (a:AXs K (Wn Z ρ) ρ H xs vs) (hn:vs.length=n) (p:W5 (AX K) K Z ρ H Wx σ Q (callP g xs S)):spP K n g vs H Q (WE Wx σ):=by
  unfold callP at p
  cases q:Z19 S xs with
  | none=>rw [q] at p; exact p.elim
  | some ds =>
    rw [q] at p
    have p:W5 (AX K) K Z ρ H Wx σ Q (match g ds with
      | .ok d=>if xs.all X.isD || d.noL then .ok (.d d) S else .bad
      | .err C fs=>if xs.all X.isD || D.noLf fs then .err C fs S else .bad
      | .bad => .bad):=p
    let W':Wd:=fun a=>Wn Z ρ a∧¬ W3h ρ xs a
    have only:∀ {H':Hp},Same H H'→X5h (Wn Z ρ) W' H':=fun k a h1 h2=>by
      have:W3h ρ xs a:=Classical.byContradiction fun z=>h2 ⟨h1,z⟩
      rcases X8n st q this with ⟨vs,h⟩ | ⟨o,vs,h⟩
      · exact .inl ⟨vs,k _ _ h⟩
      · exact .inr ⟨o,vs,k _ _ h⟩
    have none':xs.all X.isD=true→∀ {H':Hp},Mv W' H' (Wn Z ρ) H':=fun hd H' a o z y=>⟨fun w=>z ⟨w,X6a hd a⟩,y⟩
    refine ⟨hn,W',ds,fun a h=>st.thereW h.1,lend st W' (fun a h=>h.1) (fun a h z=>z.2 h) a q,?_⟩
    cases q2:g ds with
    | bad=>rw [q2] at p; exact p.elim
    | ok d =>
      rw [q2] at p
      have p:W5 (AX K) K Z ρ H Wx σ Q (if xs.all X.isD || d.noL then .ok (.d d) S else .bad):=p
      split at p
      · rename_i hc
        refine fun H' v k a=>p ρ H' v (st.grow k) (Go.grow k) (.d ?_)
        rcases Bool.or_eq_true_iff.mp hc with hc | hc
        · exact a.mv (none' hc)
        · exact a.noL (only k) hc
      · exact p.elim
    | err C fs =>
      rw [q2] at p
      have p:W5 (AX K) K Z ρ H Wx σ Q (if xs.all X.isD || D.noLf fs then .err C fs S else .bad):=p
      split at p
      · rename_i hc
        refine fun H' d k z=>p ρ H' d (st.grow k) (Go.grow k) ?_
        rcases z with z | ⟨dd,vs,z1,z2,z3,z4,z5⟩
        · exact .inl z
        · refine .inr ⟨dd,vs,z1,z2,fun w=>?_,z4,?_⟩
          · obtain ⟨o,e⟩:=st.thereW w
            rw [z2] at e; cases e
          · rcases Bool.or_eq_true_iff.mp hc with hc | hc
            · exact z5.mv (none' hc)
            · exact z5.noL (only k) hc
      · exact p.elim
theorem X9d {g:List X→Sto→R X} {Wx:WX} {σ:St} {Q:VK} {xs:List X} {vs:List V} {n:Nat} (st:Sta K Z ρ S H) (a:AXs K (Wn Z ρ) ρ H xs vs) (hn:vs.length=n) (p:W5 (AX K) K Z ρ H Wx σ Q (g xs S)):spE K n g vs H Q (WE Wx σ):=by
  refine ⟨hn,Z,ρ,xs,S,st,a,?_⟩
  cases q:g xs S with
  | bad=>rw [q] at p; exact p
  | ok x T=>rw [q] at p; exact p
  | err C fs T=>rw [q] at p; exact p
end
end Bv
namespace Bv
open PySem PySem.Spec L2
open PyProof.Rows hiding St
variable [HasW]
def X5f (X:Cx) (Wx:WX) (fv:Value) (n:Nat) (g:List Bv.X→Sto→R Bv.X):Prop:=∀ (pins:List (Addr × Obj)) (s:Shared) (σ:St) (H:Hp) (Q:VK) (us:List Value) (vs:List V) (Z:Wd) (ρ:List Addr) (xs:List Bv.X) (S:Sto),
  Inv X pins σ H s→Vals vs us→Sta X.K Z ρ S H→AXs X.K (Wn Z ρ) ρ H xs vs→vs.length=n→W5 (AX X.K) X.K Z ρ H Wx σ Q (g xs S)→codeAny (model X.prog X.w) X.A (.call fv ⟨us,[]⟩) (wants (EP X pins σ Q) X.xe) s
structure Dft (K:PySem.W.Frag) (dxs:List D) (dvs:List V) (ds:List Value):Prop where
  av:∀ W H,AVs K W H dxs dvs
  va:Vals dvs ds
theorem Y68 {K:PySem.W.Frag}:Dft K [] [] []:=⟨fun _ _ => .nil, .nil⟩
def Y9 (dxs:List D) (g:List Bv.X→Sto→R Bv.X):List Bv.X→Sto→R Bv.X:=fun xs S=>g (xs++dxs.map .d) S
section
variable {X:Cx} {Wx:WX} {k n:Nat} {f:Addr} {fd:FuncData} {ps:List Str} {dxs:List D} {dvs:List V} {ds:List Value}
theorem W67 {g:List Bv.X→Sto→R Bv.X} (tk:Xq.Tk X Wx) (gu:X.A.guards=some []) (F:FnG X.prog X.w X.K X.mg X.base k f fd ps (spE X.K n g)) (hr:Room k X.A) (hb:Binds X.K fd ps ds) (hd:Dft X.K dxs dvs ds) (hn:n - dvs.length + dvs.length=n:=by rfl) :
    X5f X Wx (.ref f) (n - dvs.length) (Y9 dxs g):=fun pins s σ H Q us vs Z ρ xs S I r st a hl p =>
  Y8y F gu hr hb hd.va (Xq.passAt tk σ) I r (X9d st (Paired.append a (hd.av _ _).axs) (by rw [List.length_append,hl,hn]) p)
theorem W68 {g:List D→PR} (tk:Xq.Tk X Wx) (gu:X.A.guards=some []) (F:FnG X.prog X.w X.K X.mg X.base k f fd ps (spP X.K n g)) (hr:Room k X.A) (hb:Binds X.K fd ps ds) (hd:Dft X.K dxs dvs ds) (hn:n - dvs.length + dvs.length=n:=by rfl) :
    X5f X Wx (.ref f) (n - dvs.length) (Y9 dxs (callP g)):=fun pins s σ H Q us vs Z ρ xs S I r st a hl p =>
  Y8y F gu hr hb hd.va (Xq.passAt tk σ) I r (W55 st (Paired.append a (hd.av _ _).axs) (by rw [List.length_append,hl,hn]) p)
def fs?:List (Str × Bv.X)→Option (List (Str × D))
  | []=>some []
  | (f,x) :: r=>match x,fs? r with
    | .d v,some l=>some ((f,v) :: l)
    | _,_=>none
def frz (S:Sto) (k:Nat):Option D:=match S[k]? with
  | some (.ins C fs)=>(fs? fs).map (.obj C)
  | _=>none
def mkF (k:Nat):R Bv.X→R Bv.X
  | .ok (.d .non) S=>(match frz S k,cut k S with
    | some d,some T => .ok (.d d) T
    | _,_ => .bad)
  | .ok _ _ => .bad
  | .err C fs S=>trunc k (.err C fs S)
  | .bad => .bad
def made (C:Str) (mk:Nat→R Bv.X→R Bv.X) (g:List Bv.X→Sto→R Bv.X):List Bv.X→Sto→R Bv.X:=fun xs S=>mk S.length (g (.r S.length :: xs) (S++[.ins C []]))
def Mks (mk:Nat→R Bv.X→R Bv.X):Prop:=∀ {K:PySem.W.Frag} {Z:Wd} {ρ:List Addr} {S:Sto} {H H2:Hp} {Wx:WX} {σ:St} {Q:VK} {x:Addr} {r:R Bv.X},Sta K Z ρ S H→H x=none→(∀ a o,H a=some o→H2 a=some o)→Sta K Z (ρ++[x]) (S++[.ins (Str.empty) []]) H2 ∨ True→x ∉ ρ→Go ρ H (ρ++[x]) H2 →
  W5 (AX K) K Z ρ H Wx σ Q (mk S.length r)→W5 (AX K) K Z (ρ++[x]) H2 Wx σ (fun v H3=>v = .non∧Q (.ref x) H3) r
theorem X7v {K:PySem.W.Frag} {W:Wd} {ρ:List Addr} {H:Hp}:∀ {fs:List (Str × Bv.X)} {vs:List (Str × V)} {l:List (Str × D)},Paired (fun (p:Str × Bv.X) (q:Str × V)=>p.1=q.1∧AX K W ρ H p.2 q.2) fs vs→fs? fs=some l→AVf K W H l vs
  | _,_,_, .nil,e=>by cases e; exact .nil
  | (f,x) :: r,(f',v) :: _,l, .cons h t,e=>by
    cases x with
    | r n=>simp [fs?] at e
    | d d =>
      unfold fs? at e
      cases q:fs? r with
      | none=>rw [q] at e; cases e
      | some l2 =>
        rw [q] at e
        cases e
        obtain ⟨h1,h2⟩:=h
        obtain rfl:f=f':=h1
        cases h2 with
        | d h2=>exact .cons h2 (X7v t q)
theorem W08 {K:PySem.W.Frag} {Z:Wd} {ρ:List Addr} {S:Sto} {H H2:Hp} {Wx:WX} {σ:St} {Q Q':VK} {x:Addr} {C:Str} {fs:List (Str × D)} {T:Sto} (st:Sta K Z ρ S H) (k:∀ a o,H a=some o→H2 a=some o) (g:Go ρ H (ρ++[x]) H2)
    (p:W5 (AX K) K Z ρ H Wx σ Q (trunc S.length (.err C fs T))):W5 (AX K) K Z (ρ++[x]) H2 Wx σ Q' (.err C fs T) :=
  X9i.shift g (fun a o h=>⟨o,k a o h⟩) (show X9i K Z ρ H Wx σ C fs T from Y3v st p)
theorem X6p:Mks mkF:=fun {K Z ρ S H H2 Wx σ Q x r} st hx k _ hn g p=>by
  cases r with
  | bad=>exact p
  | err C fs T=>exact W08 st k g p
  | ok y T =>
    cases y with
    | r n=>exact p.elim
    | d d =>
      cases d with
      | non =>
        intro ρ1 H1 v s1 g1 a
        have p:W5 (AX K) K Z ρ H Wx σ Q (match frz T S.length,cut S.length T with
          | some d,some T => .ok (.d d) T
          | _,_ => .bad):=p
        cases a with
        | d a =>
          cases a with
          | non =>
            refine ⟨rfl,?_⟩
            cases q1:frz T S.length with
            | none=>rw [q1] at p; exact p.elim
            | some d =>
              cases q2:cut S.length T with
              | none=>rw [q1,q2] at p; exact p.elim
              | some T' =>
                rw [q1,q2] at p
                have gg:=g.trans g1
                have q2':=q2
                rw [st.len] at q2'
                obtain ⟨s2,g2,m⟩:=Y67 st s1 gg q2'
                refine p ρ H1 (.ref x) s2 g2 (.d ?_)
                have ex:ρ1[S.length]?=some x:=by
                  obtain ⟨t,rfl⟩:=g1.pre
                  rw [st.len,List.append_assoc,List.getElem?_append_right (Nat.le_refl _),Nat.sub_self]; rfl
                unfold frz at q1
                cases y:T[S.length]? with
                | none=>rw [y] at q1; cases q1
                | some o =>
                  rw [y] at q1
                  have ob:=s1.ob _ o x y ex
                  cases o with
                  | ins C fs =>
                    obtain ⟨l,h1,h2⟩:=Option.map_eq_some_iff.mp (show (fs? fs).map (D.obj C)=some d from q1)
                    subst h2
                    obtain ⟨dx,vs,h3,h4⟩:=ob
                    refine .obj (fun z=>?_) h3 ((X7v h4 h1).mv m)
                    rcases z with z | z
                    · exact (s1.z x z).1 (List.mem_of_getElem? ex)
                    · exact hn z
                  | _=>cases q1
      | _=>exact p.elim
theorem X5p {C:Str} {g:List Bv.X→Sto→R Bv.X} {mk:Nat→R Bv.X→R Bv.X} (hm:Mks mk) (tk:Xq.Tk X Wx) (gu:X.A.guards=some []) (M:Mk X.K (He.ga X.K C) f) (F:FnG X.prog X.w X.K X.mg X.base k f fd ps (spE X.K (n + 1) g)) (hr:Room (k + 1) X.A) (hb:Binds X.K fd ps ds) (hd:Dft X.K dxs dvs ds) (hn:n - dvs.length + dvs.length=n:=by rfl) :
    X5f X Wx (.ref (He.ga X.K C)) (n - dvs.length) (Y9 dxs (made C mk g)):=fun pins s σ H Q us vs Z ρ xs S I r st a hl p=>by
  have I2:=Inv.made (C:=He.ga X.K C) I
  have f1:H (s.heap.objs.size + 1)=none:=I.hok.fresh (Nat.le_succ _)
  have f2:H s.heap.objs.size=none:=I.hok.fresh (Nat.le_refl _)
  have fne:s.heap.objs.size ≠ s.heap.objs.size + 1:=Nat.ne_of_lt (Nat.lt_succ_self _)
  have kk:∀ a o,H a=some o→(upd (upd H s.heap.objs.size (.own (s.heap.objs.size + 1))) (s.heap.objs.size + 1) (.ins (He.ga X.K C) s.heap.objs.size [])) a=some o:=fun a o q=>by
    rw [upd_ne (ne_of_none q f1),upd_ne (ne_of_none q f2)]; exact q
  obtain ⟨st2,g2⟩:=st.push (o' := .ins C []) f1 kk ⟨_,[],upd_same, .nil⟩
  have hx:s.heap.objs.size + 1 ∉ ρ:=fun z=>by
    obtain ⟨m,o,e1,e2⟩:=st.mem z
    obtain ⟨u,q⟩:=(st.ob m o _ e1 e2).there
    rw [f1] at q; cases q
  have p2:=hm st f1 kk (.inr trivial) hx g2 (show W5 (AX X.K) X.K Z ρ H Wx σ Q (mk S.length (g (.r S.length :: (xs++dxs.map .d)) (S++[.ins C []]))) from p)
  have a2:AXs X.K (Wn Z (ρ++[s.heap.objs.size + 1])) (ρ++[s.heap.objs.size + 1]) _ (.r S.length :: (xs++dxs.map .d)) (V.ref (s.heap.objs.size + 1) :: (vs++dvs)) :=
    .cons (.r (by rw [st.len,List.getElem?_append_right (Nat.le_refl _),Nat.sub_self]; rfl)) (Paired.append (a.mv (g2.mv st) g2.pre) (hd.av _ _).axs)
  have hq:=X9d st2 a2 (n:=n + 1) (by simp only [List.length_cons,List.length_append,hl]; omega) p2
  have r2:Vals (V.ref (s.heap.objs.size + 1) :: (vs++dvs)) (Value.ref (s.heap.objs.size + 1) :: (us++ds)) := .cons rfl (r.append hd.va)
  have hl2:(Value.ref (s.heap.objs.size + 1) :: us++ds).length=ps.length:=by
    have e:=r2.length
    rw [F.len _ _ _ _ hq] at e
    exact e.symm
  refine (make_map (f:=f) I.kIn M.makes M.init (beq_iff_eq.mp M.fn) (codeAny_mono (F.run _ X.stack _ _ ⟨Value.ref (s.heap.objs.size + 1) :: us,[]⟩ (Value.ref (s.heap.objs.size + 1) :: (us++ds)) _ _ (WE Wx σ) (W0i gu) (hr.make _ us [])
    (I2.env0.make _ us []) (hb _ (Value.ref (s.heap.objs.size + 1) :: us) I2.kIn hl2) r2 hq) fun y s' hq'=>?_))
  cases y with
  | error e=>exact Xq.passAt tk σ pins _ _ e s' I2 hq'
  | ok fl =>
    cases fl with
    | ret u =>
      obtain ⟨v,H',I3,rv,ev,q3⟩:=I2.after hq'
      subst ev
      exact ⟨rv,V.ref (s.heap.objs.size + 1),H',I3,rfl,q3⟩
    | next=>exact False.elim hq'
    | brk=>exact False.elim hq'
    | cont=>exact False.elim hq'
end
end Bv
namespace Bv
open PySem PySem.Spec L2
open PyProof.Rows hiding St
variable [HasW]
def Z8 (g:List Bv.X→Sto→R Bv.X) (ms:MG (List Bv.X)):M:=fun e S=>(ms e S).bind g
def Y8 (n:Nat) (g:List Bv.X→Sto→R Bv.X):List Bv.X→Sto→R Bv.X:=fun xs S=>if decide (xs.length=n) then g xs S else .bad
section
variable {X:Cx} {Wx:WX} {n:Nat} {f:Addr} {x:Str} {p pos apos:Pos} {e o:Expr} {es:List Expr} {ms:MG (List Bv.X)} {mo:M} {g:List Bv.X→Sto→R Bv.X}
theorem ari {rel:R Bv.X→Prop} {xs:List Bv.X} {S:Sto} (hb:¬ rel .bad) (h:rel (Y8 n g xs S)):xs.length=n∧rel (g xs S):=by
  unfold Y8 at h
  by_cases hn:xs.length=n
  · rw [if_pos (decide_eq_true hn)] at h; exact ⟨hn,h⟩
  · rw [if_neg (by simpa using hn)] at h; exact (hb h).elim
theorem V6 (c:X5f X Wx (.ref f) n g) (hg:Gl X x) (hm:X.mg x=some (.ref f)) (hk:PySem.W.keepIn X.K (.ref f)=true) (ha:MA X Wx (e :: es) ms) (hdb:(x == ("__debug__" : Str))=false:=by decide)
    (he:starEach (e :: es) X.env=(false,eval e X.env) :: starEach es X.env:=by rfl) (hpl:(backTo pos (starEach es X.env)).any (·.1)=false:=by rfl):ME X Wx (.Call (.Name x p) (e :: es) [] pos) (Z8 (Y8 n g) ms):=⟨fun pins s σ H Q I ⟨Z,ρ,e,S,st,ev,q⟩=>by
  refine wpAny_Call_Name_kw (ld_glob I hg hm ?_ hdb)
  refine PySem.W.callWith_K (h₀:=X.base) I.ok.mod.kin hk (thn (ha.run pos pins s σ H _ I (X6 (R':=fun vs H1=>∃ (ρ1:List Addr) (xs:List Bv.X) (S1:Sto),Sta X.K Z ρ1 S1 H1∧AXs X.K (Wn Z ρ1) ρ1 H1 xs vs∧W5 (AX X.K) X.K Z ρ1 H1 Wx σ Q (Y8 n g xs S1)) st ev q fun ρ1 H1 v xs S1 s1 g1 ev1 a1 p1=>⟨ρ1,xs,S1,s1,a1,p1⟩))
    fun us s1 ⟨vs,H1,I1,r,ρ1,xs,S1,st1,a1,p1⟩=>⟨I1.kIn,?_⟩) he hpl
  obtain ⟨hl,p2⟩:=ari (rel:=W5 (AX X.K) X.K Z ρ1 H1 Wx σ Q) (fun z=>z) p1
  exact wpAny_call (c pins s1 σ H1 Q us vs Z ρ1 xs S1 I1 r st1 a1 (by rw [← Paired.length a1]; exact hl) p2)⟩
def isOf (C m:Str) (S:Sto):Bv.X→Bool
  | .d (.obj D fs)=>decide (D=C) && (fs.lookup m).isNone
  | .d _=>false
  | .r n=>match S[n]? with
    | some (.ins D fs)=>decide (D=C) && (fs.lookup m).isNone
    | _=>false
theorem X6b {K:PySem.W.Frag} {Z:Wd} {ρ:List Addr} {S:Sto} {H:Hp} {C m:Str} {y:Bv.X} {v:V} (st:Sta K Z ρ S H) (a:AX K (Wn Z ρ) ρ H y v) (h:isOf C m S y=true):∃ a dx fs,v = .ref a∧H a=some (.ins (He.ga K C) dx fs)∧fs.lookup m=none:=by
  cases a with
  | d a =>
    cases a with
    | obj w r hs =>
      obtain ⟨h1,h2⟩:=Bool.and_eq_true_iff.mp h
      obtain rfl:=of_decide_eq_true h1
      exact ⟨_,_,_,rfl,r,hs.none_of (Option.isNone_iff_eq_none.mp h2)⟩
    | _=>cases h
  | r e =>
    rename_i n q
    have h:(match S[n]? with
      | some (.ins D fs)=>decide (D=C) && (fs.lookup m).isNone
      | _=>false)=true:=h
    cases z:S[n]? with
    | none=>rw [z] at h; cases h
    | some ob =>
      rw [z] at h
      cases ob with
      | ins D fs =>
        obtain ⟨h1,h2⟩:=Bool.and_eq_true_iff.mp (show (decide (D=C) && (fs.lookup m).isNone)=true from h)
        obtain rfl:=of_decide_eq_true h1
        obtain ⟨dx,vs,h3,h4⟩:=st.ob n _ q z e
        exact ⟨_,_,_,rfl,h3,Y3t h4 (Option.isNone_iff_eq_none.mp h2)⟩
      | _=>cases h
def Z3l (C m:Str) (g:List Bv.X→Sto→R Bv.X) (mo:M) (ms:MG (List Bv.X)):M:=fun e S=>(mo e S).bind fun x S1=>if isOf C m S1 x then (ms e S1).bind fun xs S2=>g (x :: xs) S2 else .bad
theorem Y18 {C m:Str} {pl:Sem Bool} (cc:X5f X Wx (.ref f) n g) (c:Cls X.K (He.ga X.K C)) (hm:Meth X.K (He.ga X.K C) m f) (ho:ME X Wx o mo) (ha:MA X Wx (e :: es) ms)
    (hst:starEach (e :: es) X.env=(false,eval e X.env) :: starEach es X.env:=by rfl) (hpl:(backTo pos (starEach es X.env)).any (·.1)=false:=by rfl)
    (ht:eval (.Call (.Attribute o m apos) (e :: es) [] pos) X.env=(do
      let ov ← eval o X.env
      standAt apos.atName
      let (f,first) ← holding [ov] (getMethod ov m pl)
      callWith pos f first (backTo pos (starEach (e :: es) X.env)) (backToKw pos (keywordEach [] X.env))):=by rfl):ME X Wx (.Call (.Attribute o m apos) (e :: es) [] pos) (Z3l C m (Y8 n g) mo ms):=⟨fun pins s σ H Q I ⟨Z,ρ,e,S,st,ev,q⟩=>by
  refine PySem.W.methodCall_KW (pl:=pl) (thn (ho.run pins s σ H _ I (X6 (R':=fun v H1=>∃ (ρ1:List Addr) (y:Bv.X) (S1:Sto),Sta X.K Z ρ1 S1 H1∧AX X.K (Wn Z ρ1) ρ1 H1 y v∧EvOk X.K (Wn Z ρ1) ρ1 H1 e σ∧isOf C m S1 y=true∧W5 (AX X.K) X.K Z ρ1 H1 Wx σ Q ((ms e S1).bind fun xs S2=>Y8 n g (y :: xs) S2)) st ev q
    fun ρ1 H1 v y S1 s1 g1 ev1 a1 p1=>by
      have p1:W5 (AX X.K) X.K Z ρ1 H1 Wx σ Q (if isOf C m S1 y then (ms e S1).bind fun xs S2=>Y8 n g (y :: xs) S2 else .bad):=p1
      split at p1
      · rename_i hq; exact ⟨ρ1,y,S1,s1,a1,ev1,hq,p1⟩
      · exact p1.elim)) fun u s1 ⟨x,H1,I1,rx,ρ1,y,S1,st1,a1,ev1,hq,p1⟩=>?_) ht
  obtain ⟨a,dx,fs,rfl,ea,l⟩:=X6b st1 a1 hq
  obtain rfl:u=Value.ref a:=rx
  refine getmeth_ok I1 ea c hm l ?_
  refine PySem.W.callWith_K (first:=[.ref a]) (h₀:=X.base) I.ok.mod.kin hm.kp (thn (ha.run pos pins s1 σ H1 _ I1 (X6 (R':=fun vs H2=>∃ (ρ2:List Addr) (xs:List Bv.X) (S2:Sto),Sta X.K Z ρ2 S2 H2∧AX X.K (Wn Z ρ2) ρ2 H2 y (.ref a)∧AXs X.K (Wn Z ρ2) ρ2 H2 xs vs∧W5 (AX X.K) X.K Z ρ2 H2 Wx σ Q (Y8 n g (y :: xs) S2)) st1 ev1 p1
    fun ρ2 H2 v xs S2 s2 g2 ev2 a2 p2=>⟨ρ2,xs,S2,s2,a1.mv (g2.mv st1) g2.pre,a2,p2⟩)) fun us s2 ⟨vs,H2,I2,r,ρ2,xs,S2,st2,b2,a2,p2⟩=>⟨I2.kIn,?_⟩) hst hpl
  obtain ⟨hl,p3⟩:=ari (rel:=W5 (AX X.K) X.K Z ρ2 H2 Wx σ Q) (fun z=>z) p2
  have aa:AXs X.K (Wn Z ρ2) ρ2 H2 (y :: xs) (V.ref a :: vs) := .cons b2 a2
  exact wpAny_call (cc pins s2 σ H2 Q (.ref a :: us) (.ref a :: vs) Z ρ2 (y :: xs) S2 I2 (.cons rfl r) st2 aa (by rw [← Paired.length aa]; exact hl) p3)⟩
def Y6x (K:PySem.W.Frag) (r:List V→Hp→VK→Prop) (g:List Bv.X→Sto→R Bv.X):Prop:=∀ (Z:Wd) (ρ:List Addr) (S:Sto) (H:Hp) (Wx:WX) (σ:St) (xs:List Bv.X) (vs:List V) (Q:VK),Sta K Z ρ S H→AXs K (Wn Z ρ) ρ H xs vs→W5 (AX K) K Z ρ H Wx σ Q (g xs S)→r vs H Q
theorem CallR.or {fv:Value} {r r':List V→Hp→VK→Prop} (h:CallR X fv r) (h':CallR X fv r'):CallR X fv (fun xs H Q=>r xs H Q ∨ r' xs H Q):=fun pins s σ H xs us Q I v q=>q.elim (h pins s σ H xs us Q I v) (h' pins s σ H xs us Q I v)
theorem Z1u {id:String} {r:List V→Hp→VK→Prop} (hc:CallR X (.builtin id) r) (h:Y6x X.K r g) (hg:Gl X x) (hm:X.mg x=none) (ha:MA X Wx (e :: es) ms) (hv:bootBuiltins x=some (.builtin id):=by rfl) (hn:x ≠ "__name__" := by decide) (hdb:(x == ("__debug__" : Str))=false:=by decide)
    (he:starEach (e :: es) X.env=(false,eval e X.env) :: starEach es X.env:=by rfl) (hpl:(backTo pos (starEach es X.env)).any (·.1)=false:=by rfl):ME X Wx (.Call (.Name x p) (e :: es) [] pos) (Z8 g ms):=PE.of (pe_callB hc hg hm hv ha hn hdb he hpl) fun σ H Q ⟨Z,ρ,e,S,st,ev,q⟩ =>
  X6 st ev q fun ρ1 H1 v xs S1 s1 g1 ev1 a1 p1=>h Z ρ1 S1 H1 Wx σ xs v Q s1 a1 p1
theorem Z2w {T:String} {r:List V→Hp→VK→Prop} (hc:CallR X (.type T) r) (h:Y6x X.K r g) (hg:Gl X x) (hm:X.mg x=none) (ha:MA X Wx (e :: es) ms) (hv:bootBuiltins x=some (.type T):=by rfl) (hn:x ≠ "__name__" := by decide) (hdb:(x == ("__debug__" : Str))=false:=by decide)
    (he:starEach (e :: es) X.env=(false,eval e X.env) :: starEach es X.env:=by rfl) (hpl:(backTo pos (starEach es X.env)).any (·.1)=false:=by rfl):ME X Wx (.Call (.Name x p) (e :: es) [] pos) (Z8 g ms):=PE.of (pe_callTy hc hg hm hv ha hn hdb he hpl) fun σ H Q ⟨Z,ρ,e,S,st,ev,q⟩ =>
  X6 st ev q fun ρ1 H1 v xs S1 s1 g1 ev1 a1 p1=>h Z ρ1 S1 H1 Wx σ xs v Q s1 a1 p1
end
def Q7 (f:List Int→Option Int):List Bv.X→Sto→R Bv.X:=fun xs S=>match (ints? xs).bind f with
  | some i => .ok (.d (.int i)) S
  | none => .bad
theorem Y13 {K:PySem.W.Frag} {Z:Wd} {ρ:List Addr} {S:Sto} {H:Hp} {Wx:WX} {σ:St} {Q:VK} {f:List Int→Option Int} {xs:List Bv.X} {vs:List V} (st:Sta K Z ρ S H) (a:AXs K (Wn Z ρ) ρ H xs vs) (h:W5 (AX K) K Z ρ H Wx σ Q (Q7 f xs S)):∃ l i,vs=l.map V.int∧f l=some i∧Q (.int i) H:=by
  unfold Q7 at h
  cases q:(ints? xs).bind f with
  | none=>rw [q] at h; exact h.elim
  | some i =>
    rw [q] at h
    obtain ⟨l,h1,h2⟩:=Option.bind_eq_some_iff.mp q
    exact ⟨l,i,Y4h a h1,h2,W5.ret0 h st (.d (.int i))⟩
def Z3f:List Int→Option Int
  | [i]=>some (if i < 0 then -i else i)
  | _=>none
def Z3i:List Int→Option Int
  | [i,j]=>some (if j < i then j else i)
  | _=>none
def Z3h:List Int→Option Int
  | [i,j]=>some (if j > i then j else i)
  | _=>none
section
variable {K:PySem.W.Frag}
theorem W63:Y6x K (fun xs H Q=>∃ i,xs=[.int i]∧Q (.int (if i < 0 then -i else i)) H) (Q7 Z3f):=fun Z ρ S H Wx σ xs vs Q st a h=>by
  obtain ⟨l,i,e1,e2,q⟩:=Y13 st a h
  match l,e2 with
  | [j],e2=>cases e2; exact ⟨j,e1,q⟩
theorem W66:Y6x K (fun xs H Q=>∃ i j,xs=[.int i, .int j]∧Q (.int (if j < i then j else i)) H) (Q7 Z3i):=fun Z ρ S H Wx σ xs vs Q st a h=>by
  obtain ⟨l,i,e1,e2,q⟩:=Y13 st a h
  match l,e2 with
  | [j,k],e2=>cases e2; exact ⟨j,k,e1,q⟩
theorem W65:Y6x K (fun xs H Q=>∃ i j,xs=[.int i, .int j]∧Q (.int (if j > i then j else i)) H) (Q7 Z3h):=fun Z ρ S H Wx σ xs vs Q st a h=>by
  obtain ⟨l,i,e1,e2,q⟩:=Y13 st a h
  match l,e2 with
  | [j,k],e2=>cases e2; exact ⟨j,k,e1,q⟩
def Z2i:List Bv.X→Sto→R Bv.X
  | [.d (.int i)],S => .ok (.d (.int i)) S
  | [.d (.bl b)],S => .ok (.d (.int (if b then 1 else 0))) S
  | _,_ => .bad
theorem X37 {W:Wd} {ρ:List Addr} {H:Hp} {d:D} {vs:List V} (a:AXs K W ρ H [.d d] vs):∃ v,vs=[v]∧AV K W H d v:=by
  cases a with
  | cons h t =>
    cases t
    cases h with
    | d h=>exact ⟨_,rfl,h⟩
theorem Y64:Y6x K (fun xs H Q=>(∃ i,xs=[.int i]∧Q (.int i) H) ∨ ∃ k,xs=[.bl k]∧Q (.int (if k then 1 else 0)) H) Z2i:=fun Z ρ S H Wx σ xs vs Q st a h=>by
  unfold Z2i at h
  split at h
  · rename_i j
    obtain ⟨v,rfl,b⟩:=X37 a
    have e:v = .int j:=by cases b; rfl
    exact .inl ⟨_,by rw [e],W5.ret0 h st (.d (.int _))⟩
  · rename_i j
    obtain ⟨v,rfl,b⟩:=X37 a
    have e:v = .bl j:=by cases b; rfl
    exact .inr ⟨_,by rw [e],W5.ret0 h st (.d (.int _))⟩
  · exact h.elim
def Z3o:D→Option Int
  | .str z=>if decide (z.length ≤ sizeLine) then some z.length else none
  | .scr ns=>some ns.length
  | _=>none
def Z2r (S:Sto):Bv.X→Option Int
  | .d (.dic kvs)=>some kvs.length
  | .d d=>match items S (.d d) with
    | some ys=>some ys.length
    | none=>Z3o d
  | .r n=>match S[n]? with
    | some (.lst xs)=>some xs.length
    | some (.dic kvs)=>some kvs.length
    | some (.fdc kvs)=>some kvs.length
    | _=>none
def Z1d:List Bv.X→Sto→R Bv.X
  | [x],S=>(match Z2r S x with
    | some n => .ok (.d (.int n)) S
    | none => .bad)
  | _,_ => .bad
abbrev W5t (K:PySem.W.Frag):List V→Hp→VK→Prop:=fun xs H Q=>((∃ p ys,xs=[.ref p]∧(SqL K H p ys ∨ SqT K H p ys)∧Q (.int ys.length) H) ∨ (∃ z,xs=[.str z]∧z.length ≤ sizeLine∧Q (.int z.length) H)) ∨ ∃ a kvs,xs=[V.ref a]∧Rd H a (.dK kvs)∧Q (.int kvs.length) H
theorem X0e {X:Cx}:CallR X (.builtin "len") (fun xs H Q=>∃ a kvs,xs=[V.ref a]∧Rd H a (.dK kvs)∧Q (.int kvs.length) H):=fun pins s σ H xs us Q I r h=>by
  obtain ⟨a,kvs,rfl,hd,q⟩:=h
  cases r with
  | cons r t =>
    cases t
    cases (show _=Value.ref a from r)
    exact d_len I hd fun t s' I'=>⟨V.int kvs.length,H,I',⟨t,rfl⟩,q⟩
theorem Z78 {X:Cx}:CallR X (.builtin "len") (W5t X.K):=CallR.or (CallR.or call_len_seq call_len_str) X0e
theorem AVk.length {W:Wd} {H:Hp}:∀ {ds:List (D × D)} {vs:List (Key × V)},AVk K W H ds vs→ds.length=vs.length
  | _,_, .nil=>rfl
  | _,_, .cons _ _ t=>by simp [AVk.length t]
theorem Z77:Y6x K (W5t K) Z1d:=fun Z ρ S H Wx σ xs vs Q st a h=>by
  unfold Z1d at h
  split at h
  · rename_i x
    cases a with
    | cons ha t =>
      cases t
      cases q:Z2r S x with
      | none=>rw [q] at h; exact h.elim
      | some n =>
        rw [q] at h
        have hQ:Q (.int n) H:=W5.ret0 h st (.d (.int n))
        cases ha with
        | d ha =>
          cases ha with
          | dic w r hs=>cases q; exact .inr ⟨_,_,rfl, .inr ⟨_,r⟩,by rw [← hs.length]; exact hQ⟩
          | lst w r hs =>
            rw [show Z2r S (.d (.lst _))=some ((List.map Bv.X.d _).length:Int) from rfl,List.length_map] at q
            cases q; exact .inl (.inl ⟨_,_,rfl, .inl (.inl (.inl r)),by rw [← hs.length]; exact hQ⟩)
          | tup r hs =>
            rw [show Z2r S (.d (.tup _))=some ((List.map Bv.X.d _).length:Int) from rfl,List.length_map] at q
            cases q; exact .inl (.inl ⟨_,_,rfl, .inr r.sq,by rw [← hs.length]; exact hQ⟩)
          | scr r =>
            rename_i q' ns
            cases q
            exact .inl (.inl ⟨_,ns.map V.int,rfl, .inl r.sl,by rw [List.length_map]; exact hQ⟩)
          | str hz =>
            rename_i z
            have q:(if decide (z.length ≤ sizeLine) then some (z.length:Int) else none)=some n:=q
            obtain ⟨h1,h2⟩:=Z06 q
            cases h2
            exact .inl (.inr ⟨z,rfl,of_decide_eq_true h1,hQ⟩)
          | _=>cases q
        | r e =>
          rename_i m b
          have q:(match S[m]? with
            | some (.lst xs)=>some (xs.length:Int)
            | some (.dic kvs)=>some (kvs.length:Int)
            | some (.fdc kvs)=>some (kvs.length:Int)
            | _=>none)=some n:=q
          cases z:S[m]? with
          | none=>rw [z] at q; cases q
          | some o =>
            rw [z] at q
            have ob:=st.ob m o b z e
            cases o with
            | lst xs =>
              cases q
              obtain ⟨vs,h3,h4⟩:=ob
              exact .inl (.inl ⟨_,vs,rfl, .inl (.inl (.inl h3)),by rw [← Paired.length h4]; exact hQ⟩)
            | dic xs =>
              cases q
              obtain ⟨vs,h3,h4⟩:=ob
              exact .inr ⟨_,vs,rfl, .inl h3,by rw [← Paired.length h4]; exact hQ⟩
            | fdc xs =>
              cases q
              obtain ⟨o,vs,h3,h4⟩:=ob
              exact .inr ⟨_,vs,rfl, .inr ⟨o,h3⟩,by rw [← Paired.length h4]; exact hQ⟩
            | _=>cases q
  · exact h.elim
def X0l:List Bv.X→Sto→R Bv.X
  | [x],S=>(match (items S x).bind ds? with
    | some ds => .ok (.d (.lst ds)) S
    | none => .bad)
  | _,_ => .bad
abbrev W15 (K:PySem.W.Frag):List V→Hp→VK→Prop:=fun xs H Q=>∃ p ys,xs=[.ref p]∧(SqL K H p ys ∨ SqT K H p ys)∧∀ l,H l=none→Q (.ref l) (upd H l (.lst ys))
theorem X9t:Y6x K (W15 K) X0l:=fun Z ρ S H Wx σ xs vs Q st a h=>by
  unfold X0l at h
  split at h
  · rename_i x
    cases a with
    | cons ha t =>
      cases t
      cases q:(items S x).bind ds? with
      | none=>rw [q] at h; exact h.elim
      | some ds =>
        rw [q] at h
        obtain ⟨ys,h1,h2⟩:=Option.bind_eq_some_iff.mp q
        obtain ⟨b,us,rfl,hq,hp⟩:=ha.items st h1
        exact ⟨b,us,rfl,hq.symm,fun l hl=>W5.ret h st (U9 hl) (.d (Z81 (fun z hz=>st.thereW hz) hl (AXs.ds hp h2)))⟩
  · exact h.elim
def Z75:List Bv.X→Sto→R Bv.X
  | [x],S=>(match (items S x).bind ds? with
    | some ds => .ok (.d (.tup ds)) S
    | none => .bad)
  | _,_ => .bad
abbrev W5w (K:PySem.W.Frag):List V→Hp→VK→Prop:=fun xs H Q=>∃ p ys,xs=[.ref p]∧((SqL K H p ys∧∀ l,H l=none→Q (.ref l) (upd H l (.tup ys))) ∨ (SqT K H p ys∧Q (.ref p) H))
theorem Y0u:Y6x K (W5w K) Z75:=fun Z ρ S H Wx σ xs vs Q st a h=>by
  unfold Z75 at h
  split at h
  · rename_i x
    cases a with
    | cons ha t =>
      cases t
      cases q:(items S x).bind ds? with
      | none=>rw [q] at h; exact h.elim
      | some ds =>
        rw [q] at h
        obtain ⟨ys,h1,h2⟩:=Option.bind_eq_some_iff.mp q
        have fin:∀ {b us},SqL K H b us→AXs K (Wn Z ρ) ρ H ys us→∀ l,H l=none→Q (.ref l) (upd H l (.tup us)):=fun hq hp l hl=>W5.ret h st (U9 hl) (.d (Y2j (fun z hz=>st.thereW hz) hl (AXs.ds hp h2)))
        cases ha with
        | r e =>
          obtain ⟨b,us,e1,hq,hp⟩:=(AX.r e).items st h1
          cases e1
          rename_i m _
          have h1':(match S[m]? with
            | some (.lst xs)=>some xs
            | _=>none)=some ys:=h1
          cases z:S[m]? with
          | none=>rw [z] at h1'; cases h1'
          | some o =>
            rw [z] at h1'
            cases o with
            | lst xs =>
              cases h1'
              obtain ⟨vs,h3,h4⟩:=st.ob m _ _ z e
              exact ⟨_,vs,rfl, .inl ⟨.inl (.inl h3),fin (.inl (.inl h3)) h4⟩⟩
            | _=>cases h1'
        | d ha =>
          cases ha with
          | lst w r hs=>cases h1; exact ⟨_,_,rfl, .inl ⟨.inl (.inl r),fin (.inl (.inl r)) hs.axs⟩⟩
          | tup r hs =>
            cases h1
            rename_i ds2
            have e3:∀ (l:List D),ds? (l.map Bv.X.d)=some l:=fun l=>by
              induction l with
              | nil=>rfl
              | cons d r ih=>simp [ds?,ih]
            rw [e3] at h2
            cases h2
            exact ⟨_,_,rfl, .inr ⟨r.sq,W5.ret0 h st (.d (.tup r hs))⟩⟩
          | _=>cases h1
  · exact h.elim
def bls?:List Bv.X→Option (List Bool)
  | []=>some []
  | .d (.bl b) :: r=>(bls? r).map (b :: ·)
  | _ :: _=>none
theorem X13 {W:Wd} {ρ:List Addr} {H:Hp}:∀ {xs:List Bv.X} {vs:List V} {l:List Bool},AXs K W ρ H xs vs→bls? xs=some l→vs=l.map V.bl
  | _,_,_, .nil,e=>by cases e; rfl
  | x :: r,_,l, .cons h t,e=>by
    cases x with
    | r n=>simp [bls?] at e
    | d d =>
      cases d with
      | bl b =>
        obtain ⟨l2,h1,h2⟩:=Option.map_eq_some_iff.mp (show (bls? r).map (b :: ·)=some l from e)
        subst h2
        cases h with
        | d h=>cases h; rw [X13 t h1]; rfl
      | _=>simp [bls?] at e
def V8 (S:Sto):Bv.X→Bool
  | .d (.lst _)=>true
  | .r n=>match S[n]? with
    | some (.lst _)=>true
    | _=>false
  | _=>false
theorem AX.itemsL {Z:Wd} {ρ:List Addr} {S:Sto} {H:Hp} {x:Bv.X} {v:V} {ys:List Bv.X} (st:Sta K Z ρ S H) (h:AX K (Wn Z ρ) ρ H x v) (e:Bv.items S x=some ys) (hl:V8 S x=true):∃ q xs,v = .ref q∧H q=some (.lst xs)∧AXs K (Wn Z ρ) ρ H ys xs:=by
  cases h with
  | d h =>
    cases h with
    | lst w r hs=>cases e; exact ⟨_,_,rfl,r,hs.axs⟩
    | _=>cases hl
  | r h =>
    rename_i n q
    have e1:(match S[n]? with
      | some (.lst xs)=>some xs
      | _=>none)=some ys:=e
    cases z:S[n]? with
    | none=>rw [z] at e1; cases e1
    | some o =>
      rw [z] at e1
      cases o with
      | lst xs =>
        cases e1
        obtain ⟨vs,h1,h2⟩:=st.ob n _ q z h
        exact ⟨q,vs,rfl,h1,h2⟩
      | _=>cases e1
def Y3b (f:List Bool→Bool):List Bv.X→Sto→R Bv.X
  | [x],S=>if V8 S x then (match (items S x).bind bls? with
    | some l => .ok (.d (.bl (f l))) S
    | none => .bad) else .bad
  | _,_ => .bad
theorem Y8x {f:List Bool→Bool} {Z:Wd} {ρ:List Addr} {S:Sto} {H:Hp} {Wx:WX} {σ:St} {Q:VK} {xs:List Bv.X} {vs:List V} (st:Sta K Z ρ S H) (a:AXs K (Wn Z ρ) ρ H xs vs) (h:W5 (AX K) K Z ρ H Wx σ Q (Y3b f xs S)):∃ a bs,vs=[V.ref a]∧SqL K H a (bs.map V.bl)∧Q (.bl (f bs)) H:=by
  unfold Y3b at h
  split at h
  · rename_i x
    split at h
    · rename_i hl
      cases a with
      | cons ha t =>
        cases t
        cases q:(items S x).bind bls? with
        | none=>rw [q] at h; exact h.elim
        | some l =>
          rw [q] at h
          obtain ⟨ys,h1,h2⟩:=Option.bind_eq_some_iff.mp q
          obtain ⟨b,us,rfl,hq,hp⟩:=ha.itemsL st h1 hl
          rw [X13 hp h2] at hq
          exact ⟨b,l,rfl, .inl (.inl hq),W5.ret0 h st (.d (.bl _))⟩
    · exact h.elim
  · exact h.elim
theorem Y63:Y6x K (rAll K) (Y3b fun l=>l.all id):=fun Z ρ S H Wx σ xs vs Q st a h=>Y8x st a h
theorem W64:Y6x K (rAny K) (Y3b fun l=>l.any id):=fun Z ρ S H Wx σ xs vs Q st a h=>Y8x st a h
end
end Bv
namespace Bv
open PySem PySem.Spec L2
open PyProof.Rows hiding St
variable [HasW]
abbrev W8g:Wd→List Addr→Hp→Option Int→Option Int→Prop:=fun _ _ _ b c=>b=c
abbrev MO (X:Cx) (Wx:WX) (e:Option Expr) (m:MG (Option Int)):Prop:=PO X e (RG W8g X.K Wx m)
def Z1e:MG (Option Int):=fun _ S => .ok none S
def X4 (m:M):MG (Option Int):=fun e S=>(m e S).bind fun x S1=>Z04 ((Z2v x).map some) S1
def Z4w {α:Type} (xs:List α) (lo hi:Option Int):List α:=(xs.drop (HT.sIx xs.length 0 lo)).take (HT.sIx xs.length xs.length hi - HT.sIx xs.length 0 lo)
def slX (S:Sto) (x:X) (lo hi:Option Int):Option X:=match x with
  | .d (.lst ds)=>some (.d (.lst (Z4w ds lo hi)))
  | .d (.tup ds)=>some (.d (.tup (Z4w ds lo hi)))
  | .d (.scr ns)=>some (.d (.lst ((Z4w ns lo hi).map .int)))
  | .d (.str z)=>if decide (z.length ≤ sizeLine) then some (.d (.str ⟨(Z4w z.cps.toList lo hi).toArray⟩)) else none
  | .r n=>(match S[n]? with
    | some (.lst xs)=>(ds? (Z4w xs lo hi)).map fun ds => .d (.lst ds)
    | _=>none)
  | _=>none
def Y6 (m:M) (ml mh:MG (Option Int)):M:=fun e S=>(m e S).bind fun x S1=>(ml e S1).bind fun l S2=>(mh e S2).bind fun h S3=>Z04 (slX S3 x l h) S3
section
variable {X:Cx} {Wx:WX} {pos p p2 apos:Pos} {a b c o i e:Expr} {lo hi:Option Expr} {ma mb mc m mo mi:M} {ml mh:MG (Option Int)} {ms:MG (List Bv.X)}
theorem PO.of {e:Option Expr} {t t':TO} (h:PO X e t) (w:∀ σ H Q,t' σ H Q→t σ H Q):PO X e t':=⟨fun pins s σ H Q I q=>h.run pins s σ H Q I (w σ H Q q)⟩
theorem Z2o:MO X Wx none Z1e:=PO.of po_none fun σ H Q ⟨Z,ρ,e,S,st,ev,p⟩=>W5.ret0 p st rfl
theorem Z18 (h:ME X Wx a m):MO X Wx (some a) (X4 m):=PO.of (po_some h) fun σ H Q ⟨Z,ρ,e,S,st,ev,p⟩=>X6 st ev p fun ρ1 H1 v x S1 s1 g1 ev1 a1 p1=>by
  obtain ⟨o,ho,p2⟩:=p1.opt
  obtain ⟨j,h1,h2⟩:=Option.map_eq_some_iff.mp ho
  subst h2
  exact ⟨j,a1.int h1,W5.ret0 p2 s1 rfl⟩
theorem AVs.cutV {K:PySem.W.Frag} {W:Wd} {H:Hp} {ds:List D} {vs:List V} (h:AVs K W H ds vs) (lo hi:Option Int):AVs K W H (Z4w ds lo hi) (L2.cutV vs lo hi):=by
  unfold Z4w L2.cutV
  rw [h.length]
  exact (h.drop _).take _
theorem AXs.takeP {α β:Type} {F:α→β→Prop}:∀ {l:List α} {r:List β} (n:Nat),Paired F l r→Paired F (l.take n) (r.take n)
  | _,_,0,_ => .nil
  | _,_,_ + 1, .nil => .nil
  | _,_,n + 1, .cons x t => .cons x (AXs.takeP n t)
theorem AXs.dropP {α β:Type} {F:α→β→Prop}:∀ {l:List α} {r:List β} (n:Nat),Paired F l r→Paired F (l.drop n) (r.drop n)
  | _,_,0,t=>t
  | _,_,_ + 1, .nil => .nil
  | _,_,n + 1, .cons x t=>AXs.dropP n t
theorem X68 {F:Bv.X→V→Prop} {l:List Bv.X} {r:List V} (h:Paired F l r) (lo hi:Option Int):Paired F (Z4w l lo hi) (L2.cutV r lo hi):=by
  unfold Z4w L2.cutV
  rw [Paired.length h]
  exact AXs.takeP _ (AXs.dropP _ h)
theorem X9x {α β:Type} (f:α→β) (xs:List α) (lo hi:Option Int):Z4w (xs.map f) lo hi=(Z4w xs lo hi).map f:=by
  unfold Z4w
  rw [List.length_map,List.map_take,List.map_drop]
theorem X5r {α:Type} {xs:List α} {lo hi:Option Int} {a:α} (h:a ∈ Z4w xs lo hi):a ∈ xs:=List.mem_of_mem_drop (List.mem_of_mem_take h)
theorem Z1k (he:ME X Wx a m) (hl:MO X Wx lo ml) (hh:MO X Wx hi mh):ME X Wx (.Subscript a (.Slice lo hi none p2) pos) (Y6 m ml mh):=PE.of (pe_slice (SlR.or (SlR.or sl_list sl_tupA) sl_str) he hl hh) fun σ H Q ⟨Z,ρ,e,S,st,ev,p⟩=>by
  refine X6 st ev p fun ρ1 H1 v x S1 s1 g1 ev1 a1 p1=>?_
  refine X6 (rel:=W8g) s1 ev1 p1 fun ρ2 H2 l l' S2 s2 g2 ev2 e2 p2=>?_
  refine X6 (rel:=W8g) s2 ev2 p2 fun ρ3 H3 h h' S3 s3 g3 ev3 e3 p3=>?_
  cases (show l'=l from e2)
  cases (show h'=h from e3)
  have a3:=(a1.mv (g2.mv s1) g2.pre).mv (g3.mv s2) g3.pre
  obtain ⟨y,hy,p4⟩:=p3.opt
  clear p3 p2 p1 p a1
  have lst:∀ {q:Addr} {xs:List V} {ds:List D},SqL X.K H3 q xs→AVs X.K (Wn Z ρ3) H3 ds xs→y = .d (.lst (Z4w ds l h))→∃ a xs,V.ref q = .ref a∧SqL X.K H3 a xs∧∀ p,H3 p=none→Q (.ref p) (upd H3 p (.lst (L2.cutV xs l h))):=fun {q xs ds} hq hs ey=>by
    subst ey
    exact ⟨q,xs,rfl,hq,fun p hp=>W5.ret p4 s3 (U9 hp) (.d (Z81 (fun z hz=>s3.thereW hz) hp (hs.cutV l h)))⟩
  cases a3 with
  | d a =>
    cases a with
    | lst w r hs=>cases hy; exact .inl (.inl (lst (.inl (.inl r)) hs rfl))
    | scr r =>
      rename_i q ns
      cases hy
      exact .inl (.inl (lst r.sl (Y37 ns) (by rw [X9x])))
    | tup t hs =>
      rename_i q xs ds
      cases hy
      refine .inl (.inr ⟨_,xs,rfl,t.sq,fun hw=>?_,fun _ p hp=>W5.ret p4 s3 (U9 hp) (.d (Y2j (fun z hz=>s3.thereW hz) hp (hs.cutV l h)))⟩)
      have e0:Z4w ds l h=ds:=by
        unfold Z4w
        rw [hs.length,hw.1,hw.2,List.drop_zero,Nat.sub_zero,← hs.length,List.take_length]
      rw [e0] at p4
      exact W5.ret0 p4 s3 (.d (.tup t hs))
    | str hz =>
      rename_i z
      have hy:(if decide (z.length ≤ sizeLine) then some (Bv.X.d (.str ⟨(Z4w z.cps.toList l h).toArray⟩)) else none)=some y:=hy
      obtain ⟨h1,h2⟩:=Z06 hy
      cases h2
      refine .inr ⟨z,rfl,of_decide_eq_true h1,?_⟩
      have e0:cutS z l h=⟨(Z4w z.cps.toList l h).toArray⟩:=by
        unfold cutS Z4w
        rw [show z.cps.toList.length=z.length from by simp [Str.length]]
      rw [e0]
      exact W5.ret0 p4 s3 (.d (.str (Y1c fun c m=>Y2w hz (X5r (by simpa using m)))))
    | _=>cases hy
  | r hr =>
    rename_i n q
    have hy:(match S3[n]? with
      | some (.lst xs)=>(ds? (Z4w xs l h)).map fun ds=>Bv.X.d (.lst ds)
      | _=>none)=some y:=hy
    cases z:S3[n]? with
    | none=>rw [z] at hy; cases hy
    | some ob =>
      rw [z] at hy
      cases ob with
      | lst xs =>
        obtain ⟨ds,h1,h2⟩:=Option.map_eq_some_iff.mp (show (ds? (Z4w xs l h)).map (fun ds=>Bv.X.d (.lst ds))=some y from hy)
        subst h2
        obtain ⟨vs,h3,h4⟩:=s3.ob n _ q z hr
        exact .inl (.inl ⟨q,vs,rfl, .inl (.inl h3),fun p hp=>W5.ret p4 s3 (U9 hp) (.d (Z81 (fun z hz=>s3.thereW hz) hp (AXs.ds (X68 h4 l h) h1)))⟩)
      | _=>cases hy
def Z3t (S:Sto) (o i v:Bv.X):Option Sto:=match o,Z2v i with
  | .r n,some k=>(match S[n]? with
    | some (.lst xs)=>(ixN xs.length k).map fun j=>S.set n (.lst (xs.set j v))
    | _=>none)
  | _,_=>none
def Z0w (mo mi m:M):MS:=fun e S=>(m e S).so e fun v S1=>(mo e S1).so e fun o S2=>(mi e S2).so e fun i S3=>match Z3t S3 o i v with
  | some S4 => .go (.nx e) S4
  | none => .bad
theorem Sta.putL {K:PySem.W.Frag} {Z:Wd} {ρ:List Addr} {S:Sto} {H:Hp} {n:Nat} {q:Addr} {xs:List Bv.X} {vs us:List V} (s:Sta K Z ρ S H) (hn:ρ[n]?=some q) (hq:H q=some (.lst us)) (a:AXs K (Wn Z ρ) ρ H xs vs):Sta K Z ρ (S.set n (.lst xs)) (upd H q (.lst vs))∧Go ρ H ρ (upd H q (.lst vs)) :=
  s.put hn (fun _ _ z=>by rw [hq] at z; cases z) ⟨vs,upd_same,AXs.mv (fun b o h z=>⟨h,by rw [upd_ne (fun y=>h (.inr (by rw [y]; exact List.mem_of_getElem? hn)))]; exact z⟩) (List.prefix_refl _) a⟩
def Z1s (ty:Sto→Bv.X→Bool) (g:Bv.X→List Bv.X→Sto→R Bv.X) (mo:M) (ms:MG (List Bv.X)):M:=fun e S=>(mo e S).bind fun x S1=>if ty S1 x then (ms e S1).bind fun xs S2=>g x xs S2 else .bad
def MtX (K:PySem.W.Frag) (r:V→List V→Hp→VK→Prop) (g:Bv.X→List Bv.X→Sto→R Bv.X):Prop:=∀ (Z:Wd) (ρ:List Addr) (S:Sto) (H:Hp) (Wx:WX) (σ:L2.St) (x:Bv.X) (v:V) (xs:List Bv.X) (vs:List V) (Q:VK),Sta K Z ρ S H→AX K (Wn Z ρ) ρ H x v→AXs K (Wn Z ρ) ρ H xs vs→W5 (AX K) K Z ρ H Wx σ Q (g x xs S)→r v vs H Q
theorem Y9i {Z:Wd} {ρ:List Addr} {S:Sto} {H:Hp} {x:Bv.X} {v:V} (st:Sta X.K Z ρ S H) (a:AX X.K (Wn Z ρ) ρ H x v) (h:V8 S x=true):tyV X.K "list" v H:=by
  cases a with
  | d a =>
    cases a with
    | lst w r hs=>exact .inl ⟨rfl,_, .inl (.inl r)⟩
    | _=>cases h
  | r e =>
    rename_i n q
    have h:(match S[n]? with
      | some (.lst _)=>true
      | _=>false)=true:=h
    cases z:S[n]? with
    | none=>rw [z] at h; cases h
    | some ob =>
      rw [z] at h
      cases ob with
      | lst xs =>
        obtain ⟨vs,h3,_⟩:=st.ob n _ q z e
        exact .inl ⟨rfl,vs, .inl (.inl h3)⟩
      | _=>cases h
variable {es:List Expr} {id:String} {name:Str} {r:V→List V→Hp→VK→Prop} {g:Bv.X→List Bv.X→Sto→R Bv.X} {cpos:Pos}
theorem Y17 (slot:Slot "list" name id) (hty:typeOf (.builtin id)=pure (.type "method_descriptor")) (hm:MtR X id r) (h:MtX X.K r g) (ho:ME X Wx o mo) (ha:MA X Wx (e :: es) ms) (hbase:attributeBase o name X.env (eval o X.env)=eval o X.env:=by rfl)
    (hfew:((backTo cpos (starEach (e :: es) X.env)).all (fun x => !x.1) && (backToKw cpos (keywordEach [] X.env)).all (fun x=>x.1.isSome)
      && decide ((e :: es).length + ([]:List Keyword).length + (if ([]:List Keyword).isEmpty then 0 else 1) < 30))=true:=by rfl)
    (hline:(apos.endLine == cpos.line)=true:=by rfl) (hs:starEach (e :: es) X.env=(false,eval e X.env) :: starEach es X.env:=by rfl) (hplain:(backTo cpos (starEach es X.env)).any (·.1)=false:=by rfl) :
    ME X Wx (.Call (.Attribute o name apos) (e :: es) [] cpos) (Z1s V8 g mo ms):=PE.of (pe_bm PySem.F.plainAttrs_list slot hty hm ho ha hbase hfew hline hs hplain) fun σ H Q ⟨Z,ρ,e,S,st,ev,p⟩=>X6 st ev p fun ρ1 H1 v x S1 s1 g1 ev1 a1 p1=>by
  have p1:W5 (AX X.K) X.K Z ρ1 H1 Wx σ Q (if V8 S1 x then (ms e S1).bind fun xs S2=>g x xs S2 else .bad):=p1
  split at p1
  · rename_i hl
    exact ⟨Y9i s1 a1 hl,X6 s1 ev1 p1 fun ρ2 H2 vs xs S2 s2 g2 ev2 a2 p2=>h Z ρ2 S2 H2 Wx σ x v xs vs Q s2 (a1.mv (g2.mv s1) g2.pre) a2 p2⟩
  · exact p1.elim
theorem X8t (slot:Slot "list" name id) (hty:typeOf (.builtin id)=pure (.type "method_descriptor")) (hm:MtR X id r) (h:MtX X.K r g) (ho:ME X Wx o mo) (hbase:attributeBase o name X.env (eval o X.env)=eval o X.env:=by rfl) (hline:(apos.endLine == cpos.line)=true:=by rfl) :
    ME X Wx (.Call (.Attribute o name apos) [] [] cpos) (Z1s V8 g mo Z7):=PE.of (pe_bm0 PySem.F.plainAttrs_list slot hty hm ho hbase hline) fun σ H Q ⟨Z,ρ,e,S,st,ev,p⟩=>X6 st ev p fun ρ1 H1 v x S1 s1 g1 ev1 a1 p1=>by
  have p1:W5 (AX X.K) X.K Z ρ1 H1 Wx σ Q (if V8 S1 x then g x [] S1 else .bad):=p1
  split at p1
  · rename_i hl
    exact ⟨Y9i s1 a1 hl,h Z ρ1 S1 H1 Wx σ x v [] [] Q s1 a1 .nil p1⟩
  · exact p1.elim
def Z0l (S:Sto):Bv.X→Option (Nat × List Bv.X)
  | .r n=>(match S[n]? with
    | some (.lst xs)=>some (n,xs)
    | _=>none)
  | _=>none
theorem Y5s {K:PySem.W.Frag} {Z:Wd} {ρ:List Addr} {S:Sto} {H:Hp} {x:Bv.X} {v:V} {n:Nat} {xs:List Bv.X} (st:Sta K Z ρ S H) (a:AX K (Wn Z ρ) ρ H x v) (h:Z0l S x=some (n,xs)):∃ q vs,v = .ref q∧ρ[n]?=some q∧H q=some (.lst vs)∧AXs K (Wn Z ρ) ρ H xs vs:=by
  cases a with
  | d a=>cases h
  | r e =>
    rename_i k q
    have h:(match S[k]? with
      | some (.lst xs)=>some (k,xs)
      | _=>none)=some (n,xs):=h
    cases z:S[k]? with
    | none=>rw [z] at h; cases h
    | some ob =>
      rw [z] at h
      cases ob with
      | lst ys =>
        cases h
        obtain ⟨vs,h3,h4⟩:=st.ob _ _ q z e
        exact ⟨q,vs,rfl,e,h3,h4⟩
      | _=>cases h
def U4:Bv.X→List Bv.X→Sto→R Bv.X:=fun x ys S=>match Z0l S x,ys with
  | some (n,xs),[y]=>if decide (xs.length < sizeLine) then .ok (.d .non) (S.set n (.lst (xs++[y]))) else .bad
  | _,_ => .bad
theorem Z37 {K:PySem.W.Frag}:MtX K rAppend U4:=fun Z ρ S H Wx σ x v ys ws Q st a as p=>by
  unfold U4 at p
  split at p
  · rename_i n xs y hl
    split at p
    · rename_i hz
      obtain ⟨q,vs,rfl,e,h3,h4⟩:=Y5s st a hl
      cases as with
      | cons h t =>
        cases t
        have hz:=of_decide_eq_true hz
        obtain ⟨s5,g5⟩:=st.putL e h3 (Paired.append h4 (.cons h .nil))
        exact ⟨q,vs,_,rfl,rfl,h3,by rw [← Paired.length h4]; exact hz,p ρ _ .non s5 g5 (.d .non)⟩
    · exact p.elim
  · exact p.elim
def Y0l:Bv.X→List Bv.X→Sto→R Bv.X:=fun x ys S=>match Z0l S x,ys with
  | some (n,xs),[]=>(match xs[xs.length - 1]? with
    | some y => .ok y (S.set n (.lst xs.dropLast))
    | none => .bad)
  | _,_ => .bad
theorem Paired.dropL {α β:Type} {F:α→β→Prop} {l:List α} {r:List β} (h:Paired F l r):Paired F l.dropLast r.dropLast:=by
  rw [List.dropLast_eq_take,List.dropLast_eq_take,Paired.length h]
  exact AXs.takeP _ h
theorem Paired.get {α β:Type} {F:α→β→Prop} {l:List α} {r:List β} (p:Paired F l r) {j:Nat} {a:α} (e:l[j]?=some a):∃ b,r[j]?=some b∧F a b:=by
  induction p generalizing j with
  | nil=>simp at e
  | cons x _ ih =>
    cases j with
    | zero=>simp at e; subst e; exact ⟨_,rfl,x⟩
    | succ n=>simp at e; obtain ⟨b,h1,h2⟩:=ih e; exact ⟨b,by simpa using h1,h2⟩
theorem X7y {K:PySem.W.Frag}:MtX K rPop Y0l:=fun Z ρ S H Wx σ x v ys ws Q st a as p=>by
  unfold Y0l at p
  split at p
  · rename_i n xs hl
    obtain ⟨q,vs,rfl,e,h3,h4⟩:=Y5s st a hl
    cases as
    cases hx:xs[xs.length - 1]? with
    | none=>rw [hx] at p; exact p.elim
    | some y =>
      rw [hx] at p
      obtain ⟨w,h5,h6⟩:=Paired.get h4 hx
      obtain ⟨s5,g5⟩:=st.putL e h3 (Paired.dropL h4)
      exact ⟨q,vs,w,rfl,rfl,h3,by rw [← Paired.length h4]; exact h5,p ρ _ w s5 g5 (h6.mv (g5.mv st) g5.pre)⟩
  · exact p.elim
def strs?:List Bv.X→Option (List Str)
  | []=>some []
  | .d (.str z) :: r=>(strs? r).map (z :: ·)
  | _ :: _=>none
theorem Y43 {K:PySem.W.Frag} {W:Wd} {ρ:List Addr} {H:Hp}:∀ {xs:List Bv.X} {vs:List V} {l:List Str},AXs K W ρ H xs vs→strs? xs=some l→vs=l.map V.str∧∀ z ∈ l,PyData.strOk z=true
  | _,_,_, .nil,e=>by cases e; exact ⟨rfl,fun z h=>by simp at h⟩
  | x :: r,_,l, .cons h t,e=>by
    cases x with
    | r n=>simp [strs?] at e
    | d d =>
      cases d with
      | str b =>
        obtain ⟨l2,h1,h2⟩:=Option.map_eq_some_iff.mp (show (strs? r).map (b :: ·)=some l from e)
        subst h2
        cases h with
        | d h =>
          cases h with
          | str hz =>
            obtain ⟨h3,h4⟩:=Y43 t h1
            exact ⟨by rw [h3]; rfl,fun z m=>(List.mem_cons.mp m).elim (fun q=>by rw [q]; exact hz) (h4 z)⟩
      | _=>simp [strs?] at e
theorem Y0f {a:Str} (ha:PyData.strOk a=true):∀ {ys:List Str},(∀ z ∈ ys,PyData.strOk z=true)→PyData.strOk (Str.join a ys)=true
  | [],_=>Y1c fun c m=>by simp [Str.join,Str.empty] at m
  | [x],h=>h x (by simp)
  | x :: y :: r,h=>by
    show PyData.strOk (x++a++Str.join a (y :: r))=true
    exact Z7q (Z7q (h x (by simp)) ha) (Y0f ha fun z m=>h z (List.mem_cons_of_mem _ m))
def Z2q (a:Str) (y:Bv.X) (S:Sto):R Bv.X:=match (items S y).bind strs? with
  | some ys=>if decide ((ys.map (·.length)).sum + ys.length * a.length ≤ 16777216) then .ok (.d (.str (Str.join a ys))) S else .bad
  | none => .bad
def Z2s (g:Str→Bv.X→Sto→R Bv.X) (mo m:M):M:=fun e S=>(mo e S).bind fun x S1=>match x with
  | .d (.str a)=>(m e S1).bind fun y S2=>g a y S2
  | _ => .bad
theorem Z98 (ho:ME X Wx o mo) (he:ME X Wx e m) (hs:starEach [e] X.env=[(false,eval e X.env)]:=by rfl) (hbase:attributeBase o "join" X.env (eval o X.env)=eval o X.env:=by rfl) (hline:(apos.endLine == pos.line)=true:=by rfl) :
    ME X Wx (.Call (.Attribute o "join" apos) [e] [] pos) (Z2s Z2q mo m):=PE.of (pe_join ho he hs hbase hline) fun σ H Q ⟨Z,ρ,e,S,st,ev,p⟩=>X6 st ev p fun ρ1 H1 v x S1 s1 g1 ev1 a1 p1=>by
  cases a1 with
  | r _=>exact p1.elim
  | d a =>
    cases a with
    | str hz =>
      rename_i z
      refine ⟨⟨z,rfl⟩,X6 s1 ev1 (show W5 (AX X.K) X.K Z ρ1 H1 Wx σ Q ((m e S1).bind fun y S2=>Z2q z y S2) from p1) fun ρ2 H2 u y S2 s2 g2 ev2 a2 p2=>?_⟩
      unfold Z2q at p2
      cases q:(items S2 y).bind strs? with
      | none=>rw [q] at p2; exact p2.elim
      | some ys =>
        rw [q] at p2
        obtain ⟨zs,h1,h2⟩:=Option.bind_eq_some_iff.mp q
        obtain ⟨b,us,rfl,hq,hp⟩:=a2.items s2 h1
        obtain ⟨rfl,hk⟩:=Y43 hp h2
        have p2:W5 (AX X.K) X.K Z ρ2 H2 Wx σ Q (if decide ((ys.map (·.length)).sum + ys.length * z.length ≤ 16777216) then .ok (.d (.str (Str.join z ys))) S2 else .bad):=p2
        split at p2
        · rename_i hl
          refine ⟨z,b,ys,rfl,rfl,hq.symm,of_decide_eq_true hl,?_⟩
          rw [show Txt.join z ys=Str.join z ys from StrLaws.glued_eq_join ..]
          exact W5.ret0 p2 s2 (.d (.str (Y0f hz hk)))
        · exact p2.elim
    | _=>exact p1.elim
def Q9 (i j:Nat) (ms:MG (List Bv.X)):MS:=fun e S=>(ms e S).so e fun xs S1=>match xs with
  | [x,y] => .go (.nx ((e.set i (some x)).set j (some y))) S1
  | _ => .bad
theorem Y9s {i j:Nat} {x y:Str} {px py pt:Pos} {kt k2 pt2} (hc:X.calm=true) (hN:X.N.Nodup) (hi:X.N[i]?=some x) (hj:X.N[j]?=some y) (hij:i ≠ j) (hx:X.env.scope.names.lookup x=some .local) (hy:X.env.scope.names.lookup y=some .local) (ha:MA X Wx [a,b] ms)
    (hw:swappedStores [.Tuple [.Name x px, .Name y py] kt pt] (.Tuple [a,b] k2 pt2) X.env=pure (some [x,y]):=by rfl) (hs:swapsWithSole [.Tuple [.Name x px, .Name y py] kt pt] (.Tuple [a,b] k2 pt2) pos.line X.env=pure false:=by rfl) :
    MP X Wx (.Assign [.Tuple [.Name x px, .Name y py] kt pt] (.Tuple [a,b] k2 pt2) pos) (Q9 i j ms):=PS.of (ps_par hc hN hi hj hij hx hy ha hw hs) fun D σ H ⟨Z,ρ,e,S,st,ev,p⟩=>Z1i (rel:=AXs X.K) st ev p fun ρ1 H1 vs xs S1 s1 g1 ev1 a1 p1=>by
  match xs,vs,a1,p1 with
  | [x,y],_, .cons h1 (.cons h2 .nil),p1=>exact ⟨_,_,rfl,p1.next s1 ((ev1.set h1).set h2)⟩
  | [],_,_,p1=>exact p1.elim
  | [_],_,_,p1=>exact p1.elim
  | _ :: _ :: _ :: _,_,_,p1=>exact p1.elim
end
end Bv
namespace Bv
open PySem PySem.Spec L2
open PyProof.Rows hiding St
variable [HasW]
structure OwnIs (K:PySem.W.Frag) (C:Str):Prop where
  cl:Cls K (He.ga K C)
  ha:PySem.W.findIn K (.ref (He.ga K C)) "__class__" = some (some (.builtin "object.__class__"))
  hn:PySem.W.specialIn K (.builtin "object.__class__") "__get__" = some (some (.builtin "getset_descriptor.__get__"))
  htk:PySem.W.takesIn K (.builtin "object.__class__")=some true
  hm:PySem.W.mroIn K (He.ga K C) (.type "object")=some true
structure IsT (K:PySem.W.Frag) (u:Value) (tab:List (String × Bool)) (own:List (Str × Bool)):Prop where
  bt:∀ k b,tab.lookup k=some b→PySem.W.kitOne K (.type k) u=some b
  ow:∀ C b,own.lookup C=some b→OwnIs K C∧PySem.W.kitOne K (.ref (He.ga K C)) u=some b
def W7s:D→Option String
  | .non=>some "NoneType"
  | .bl _=>some "bool"
  | .int _=>some "int"
  | .str _=>some "str"
  | .tup _=>some "tuple"
  | .lst _=>some "list"
  | .scr _=>some "list"
  | .dic _=>some "dict"
  | _=>none
def isX (tab:List (String × Bool)) (own:List (Str × Bool)) (S:Sto):X→Option Bool
  | .d (.obj C _)=>own.lookup C
  | .d d=>(W7s d).bind fun k=>tab.lookup k
  | .r n=>match S[n]? with
    | some (.lst _)=>tab.lookup "list"
    | some (.dic _)=>tab.lookup "dict"
    | some (.fdc _)=>tab.lookup "dict"
    | some (.ins C _)=>own.lookup C
    | _=>none
def Z6b (tab:List (String × Bool)) (own:List (Str × Bool)) (m:M):M:=fun e S=>(m e S).bind fun x S1=>Z04 ((isX tab own S1 x).map fun b => .d (.bl b)) S1
section
variable {X:Cx} {Wx:WX} {pos p p2 apos:Pos} {a b c o i e:Expr} {ma mb mc m mo mi:M} {ms:MG (List Bv.X)}
theorem Tp.tyX {K:PySem.W.Frag} {W:Wd} {H:Hp} {a:Addr} {xs:List V} (t:Tp K W H a xs):TyX K H (.ref a) (.type "tuple"):=by
  rcases t with ⟨_,h⟩ | ⟨o,its,n,h1,h2,_⟩
  · exact .base (.tup h)
  · exact .kTuple h1 h2
theorem W4a {K:PySem.W.Frag} {u:Value} {tab:List (String × Bool)} {own:List (Str × Bool)} (T:IsT K u tab own) {Z:Wd} {ρ:List Addr} {S:Sto} {H:Hp} {x:Bv.X} {v:V} {k:Bool} (st:Sta K Z ρ S H) (a:AX K (Wn Z ρ) ρ H x v) (h:isX tab own S x=some k) :
    ∃ t,TyX K H v t∧PySem.W.kitOne K t u=some k:=by
  cases a with
  | d a =>
    cases a with
    | obj w r hs =>
      obtain ⟨O,q⟩:=T.ow _ _ h
      exact ⟨_, .base (.ins r O.cl O.ha O.hn O.htk O.hm),q⟩
    | non=>exact ⟨_, .base .non,T.bt _ _ h⟩
    | bl k=>exact ⟨_, .base (.bl k),T.bt _ _ h⟩
    | int k=>exact ⟨_, .base (.int k),T.bt _ _ h⟩
    | str k=>exact ⟨_, .base (.str _),T.bt _ _ h⟩
    | tup t hs=>exact ⟨_,t.tyX,T.bt _ _ h⟩
    | lst w r hs=>exact ⟨_, .base (.lst r),T.bt _ _ h⟩
    | scr r =>
      rcases r with ⟨_,r | ⟨ob,r⟩⟩ | ⟨o,its,n,r1,r2,_⟩
      · exact ⟨_, .base (.lst r),T.bt _ _ h⟩
      · exact ⟨_, .base (.frz r),T.bt _ _ h⟩
      · exact ⟨_, .kList r1 r2,T.bt _ _ h⟩
    | dic w r hs=>exact ⟨_, .fDict r,T.bt _ _ h⟩
    | gl x=>cases h
  | r e =>
    rename_i n q
    have h:(match S[n]? with
      | some (.lst _)=>tab.lookup "list"
      | some (.dic _)=>tab.lookup "dict"
      | some (.fdc _)=>tab.lookup "dict"
      | some (.ins C _)=>own.lookup C
      | _=>none)=some k:=h
    cases z:S[n]? with
    | none=>rw [z] at h; cases h
    | some ob =>
      rw [z] at h
      have y:=st.ob n _ q z e
      cases ob with
      | lst xs=>obtain ⟨vs,h1,_⟩:=y; exact ⟨_, .base (.lst h1),T.bt _ _ h⟩
      | dic xs=>obtain ⟨vs,h1,_⟩:=y; exact ⟨_, .base (.dK h1),T.bt _ _ h⟩
      | fdc xs=>obtain ⟨o,vs,h1,_⟩:=y; exact ⟨_, .fDict h1,T.bt _ _ h⟩
      | tdc xs=>cases h
      | ndc xs=>cases h
      | tfc xs=>cases h
      | ins C fs =>
        obtain ⟨dx,vs,h1,_⟩:=y
        obtain ⟨O,q⟩:=T.ow _ _ h
        exact ⟨_, .base (.ins h1 O.cl O.ha O.hn O.htk O.hm),q⟩
theorem Y3n {tab:List (String × Bool)} {own:List (Str × Bool)} {u:Value} {cv:V} (hg:Gl X "isinstance") (hm:X.mg "isinstance" = none) (he:ME X Wx a m) (hc:PE X c (tC cv)) (T:IsT X.K u tab own) (k:ClsV cv u)
    (hs:starEach [a,c] X.env=(false,eval a X.env) :: starEach [c] X.env:=by rfl) (hs2:starEach [c] X.env=(false,eval c X.env) :: starEach [] X.env:=by rfl) (hpl:(backTo pos (starEach [c] X.env)).any (·.1)=false:=by rfl) :
    ME X Wx (.Call (.Name "isinstance" p) [a,c] [] pos) (Z6b tab own m):=PE.of (pe_callB call_isi hg hm (by rfl) (pa_cons he (pa_cons hc pa_nil hs2) hs) (by decide) (by decide) hs hpl) fun σ H Q ⟨Z,ρ,e,S,st,ev,q⟩=>X6 st ev q fun ρ1 H1 v x S1 s1 g1 ev1 a1 p1=>by
  obtain ⟨w,hw,p2⟩:=p1.opt
  obtain ⟨b,h1,h2⟩:=Option.map_eq_some_iff.mp hw
  subst h2
  obtain ⟨t,ty,kt⟩:=W4a T s1 a1 h1
  exact ⟨v,cv,t,u,b,rfl,k,ty,kt,W5.ret0 p2 s1 (.d (.bl b))⟩
omit [HasW] in
theorem X27 {β:Type} {k:String} {b:β}:∀ {l:List (String × β)},l.lookup k=some b→(k,b) ∈ l
  | [],h=>by cases h
  | (k',b') :: r,h=>by
    rw [List.lookup_cons] at h
    cases q:k == k' with
    | true =>
      rw [q] at h
      cases h
      rw [beq_iff_eq.mp q]
      exact List.mem_cons_self
    | false=>rw [q] at h; exact List.mem_cons_of_mem _ (X27 h)
def Y02 (T:String):List (String × Bool):=["NoneType", "bool", "int", "str", "tuple", "list", "dict"].filterMap fun k=>(kitB k T).map fun b=>(k,b)
def Y41 (d:D):Option Str:=match d.py with
  | some p=>if p.showable && !p.hasDict && dOk p && decide (p.shown.length ≤ sizeLine) && PyData.strOk p.shown then some p.shown else none
  | none=>none
abbrev X88 (K:PySem.W.Frag):List V→Hp→VK→Prop:=fun xs H Q=>∃ (a:Addr) (p:PyData),xs=[.ref a]∧Dp K H (.ref a) p∧p.showable=true∧p.hasDict=false∧p.depth ≤ 64∧p.shown.length ≤ sizeLine∧Q (.str p.shown) H
theorem W3r (gu:X.A.guards=some []) (room:Room 0 X.A):CallR X (.builtin "repr") (X88 X.K):=fun pins s σ H xs us Q I r h=>by
  obtain ⟨a,p,rfl,dp,h1,h2,h3,h4,q⟩:=h
  cases r with
  | cons r t =>
    cases t
    cases r
    obtain ⟨as,rd⟩:=Dp.reads I p _ _ dp rfl
    refine repr_of_reads' rd h1 (fun z=>absurd z (by rw [h2]; simp)) gu (by have:=room.un; omega) (fun b o e=>e) (fun h' u tk k=>?_) h4
    exact ⟨.str p.shown,H,I.kept k,⟨u,rfl⟩,q⟩
def X22:D→Bool
  | .lst _ | .tup _ | .dic _ | .scr _=>true
  | _=>false
theorem AW.is_ref {K:PySem.W.Frag} {W:Wd} {H:Hp} {d:D} {v:V} (h:AW K W H d v) (hr:X22 d=true):∃ a,v = .ref a:=by
  cases h with
  | av h=>cases h <;> first | exact ⟨_,rfl⟩ | cases hr
  | lst _ _=>exact ⟨_,rfl⟩
  | fdc _ _=>exact ⟨_,rfl⟩
end
end Bv
namespace Bv
open PySem PySem.Spec L2
open PyProof.Rows hiding St
variable [HasW]
abbrev EN:XK:=fun _ _ _=>False
section
variable {X:Cx} {Wx:WX} {pos p p2 apos:Pos} {a b c o i e:Expr} {ma mb mc m mo mi:M} {ms:MG (List Bv.X)} {k n:Nat} {f:Addr} {fd:FuncData} {ps:List Str} {g:List D→PR} {C:Str}
theorem X9b {pins:List (Addr × Obj)} {σ:St} {H:Hp} {s:Shared} {Q:VK} {us:List Value} {vs:List V} {sp:Sp} {A:Around} {E:Value→Shared→Prop} (F:FnG X.prog X.w X.K X.mg X.base k f fd ps sp) (gu:A.guards=some []) (room:Room k A) (hb:Binds X.K fd ps []) (I:Inv X pins σ H s)
    (e0:Env0 X.prog X.w X.K X.mg X.base A X.stack s H) (r:Vals vs us) (h:sp vs H Q EN):wpAny (model X.prog X.w) A (call (.ref f) us) (EP X pins σ Q) E s:=by
  have many:us.length=ps.length:=r.length.symm.trans (F.len _ _ _ _ h)
  have bd:=hb s us I.kIn (by rw [List.append_nil]; exact many)
  rw [List.append_nil] at bd
  refine wpAny_call (codeAny_mono (F.run A X.stack s H ⟨us,[]⟩ us vs Q EN gu room e0 bd r h) fun y s' z=>?_)
  cases y with
  | error e =>
    obtain ⟨_,_,_,_,_,_,_,_,_,_,_,_,no⟩:=z
    exact no.elim
  | ok fl =>
    cases fl with
    | ret u=>exact I.after z
    | next=>exact z.elim
    | brk=>exact z.elim
    | cont=>exact z.elim
theorem X21 {pins:List (Addr × Obj)} {σ:St} {H:Hp} {s:Shared} {a Ca dx:Addr} {fs:List (Str × V)} (I:Inv X pins σ H s) (h:H a=some (.ins Ca dx fs)):∃ ox od,PySem.W.InstAt s.heap a ox Ca od:=by
  obtain ⟨mA,J,_⟩:=ins_get I.hok h
  obtain ⟨od,J2,_⟩:=J.look
  exact ⟨_,_,J2⟩
structure OwnStr (K:PySem.W.Frag) (C:Str) (f:Addr):Prop where
  at_:PySem.W.findIn K (.ref (He.ga K C)) "__str__" = some (some (.ref f))
  fn:PySem.W.isFn K (.ref f)=true
abbrev W5v (K:PySem.W.Frag) (C:Str) (g:List D→PR):List V→Hp→VK→Prop:=fun xs H Q=>∃ a dx fs,xs=[.ref a]∧H a=some (.ins (He.ga K C) dx fs)∧spP K 1 g [.ref a] H (fun v H'=>∃ z,v = .str z∧Q (.str z) H') EN
theorem W3s (gu:X.A.guards=some []) (F:FnG X.prog X.w X.K X.mg X.base k f fd ps (spP X.K 1 g)) (O:OwnStr X.K C f) (room:Room (k + 2) X.A) (hb:Binds X.K fd ps []):CallR X (.type "str") (W5v X.K C g):=fun pins s σ H xs us Q I r h=>by
  obtain ⟨a,dx,fs,rfl,ha,q⟩:=h
  cases r with
  | cons r t =>
    cases t
    cases r
    obtain ⟨ox,od,J⟩:=X21 I ha
    refine PySem.W.kso_call (by have:=room.un; show X.A.units + 1 + 1 < _; omega) I.kIn J O.at_ O.fn (wpAny_mono (X9b F (by exact gu) room.in1.in1 hb I I.env0.in1.in1 (.cons (show RelV (V.ref a) (Value.ref a) from rfl) .nil) q) (fun u s' z=>?_) fun _ _ z=>z)
    obtain ⟨v,H',I',rv,z,rfl,q'⟩:=z
    obtain ⟨t,rfl⟩:=rv
    exact ⟨.str z,H',I',⟨t,rfl⟩,q'⟩
def Z5c (C:Str) (g:List D→PR):List Bv.X→Sto→R Bv.X
  | [.d (.obj D fs)],S=>if decide (D=C) then (match g [.obj D fs] with
    | .ok (.str z) => .ok (.d (.str z)) S
    | _ => .bad) else .bad
  | _,_ => .bad
theorem W3p {K:PySem.W.Frag}:Y6x K (W5v K C g) (Z5c C g):=fun Z ρ S H Wx σ xs vs Q st a h=>by
  unfold Z5c at h
  split at h
  · rename_i D fs
    split at h
    · rename_i hc
      obtain rfl:=of_decide_eq_true hc
      obtain ⟨v,rfl,b⟩:=X37 a
      cases b with
      | obj w r hs =>
        refine ⟨_,_,_,rfl,r,rfl,Wn Z ρ,[.obj D fs],fun a h=>st.thereW h, .cons (.obj w r hs) .nil,?_⟩
        cases q:g [.obj D fs] with
        | ok d =>
          rw [q] at h
          cases d with
          | str z =>
            intro H' v k a
            cases a with
            | str hz=>exact ⟨z,rfl,W5.ret h st k (.d (.str hz))⟩
          | _=>exact h.elim
        | err _ _=>rw [q] at h; exact h.elim
        | bad=>rw [q] at h; exact h.elim
    · exact h.elim
  · exact h.elim
structure OwnEq (K:PySem.W.Frag) (C:Str) (f:Addr):Prop where
  at_:PySem.W.findIn K (.ref (He.ga K C)) "__eq__" = some (some (.ref f))
  fn:PySem.W.isFn K (.ref f)=true
  ne:PySem.W.findIn K (.ref (He.ga K C)) "__ne__" = some (some (.builtin "object.__ne__"))
  mo:PySem.W.mroIn K (He.ga K C) (.type "object")=some true
abbrev W9h (K:PySem.W.Frag) (C:Str) (g:List D→PR) (neg:Bool):R2:=fun x y H Q=>∃ a dx fs b dy gs,x = .ref a∧y = .ref b∧H a=some (.ins (He.ga K C) dx fs)∧H b=some (.ins (He.ga K C) dy gs)∧spP K 2 g [x,y] H (fun v H'=>∃ r,v = .bl r∧Q (.bl (r ^^ neg)) H') EN
open Builtin in
theorem W5h (gu:X.A.guards=some []) (F:FnG X.prog X.w X.K X.mg X.base k f fd ps (spP X.K 2 g)) (O:OwnEq X.K C f) (room:Room (k + 1) X.A) (hb:Binds X.K fd ps []):OpR X (compareOp .NotEq) (W9h X.K C g true):=fun pins s σ H x y v u Q I rx ry h=>by
  obtain ⟨a,dx,fs,b,dy,gs,rfl,rfl,ha,hb',q⟩:=h
  cases rx
  cases ry
  obtain ⟨ox,od,J⟩:=X21 I ha
  obtain ⟨oy,oe,J'⟩:=X21 I hb'
  have hu:=room.un
  show wpAny (model X.prog X.w) X.A (richCompare .NotEq (.ref a) (.ref b)) (EP X pins σ Q) X.xe s
  have core:wpAny (model X.prog X.w) X.A (call (.builtin "object.__ne__") [.ref a, .ref b]) (fun v s'=>∃ r:Bool,v = .bool r∧EP X pins σ Q (.bool r) s') X.xe s:=by
    refine wpAny_call (codeAny_call_builtin (by decide +kernel) PySem.F.cmpEntry_ne (PySem.W.check_slot (i := "object.__ne__") (owner := "object") (n := "__ne__") (by decide +kernel) (by decide +kernel) (J.type.andThen (PySem.W.looks_mroIn I.kIn O.mo)) (PySem.F.cmpArgs_ne _ _) ?_))
    unfold Builtin.«object.__ne__»
    refine wpAny_bind (m:=slotArgs "__ne__" 1 _) (wpAny_pure ?_)
    refine wpAny_bind (m:=cRoomFor _ _) (wpAny_cRoomFor (by show X.A.units + 1 < _; omega) ?_)
    refine wpAny_bind (m:=callSpecialIfBound? (.ref a) (Str.ofString "__eq__") _) (PySem.W.ifBound_K I.kIn J O.at_ O.fn (wpAny_mono (X9b F (by exact gu) room.in1 hb I I.env0.in1 (.cons (show RelV (V.ref a) (Value.ref a) from rfl) (.cons (show RelV (V.ref b) (Value.ref b) from rfl) .nil)) q) (fun w s' z=>?_) fun _ _ z=>z))
    obtain ⟨v,H',I',rv,r,rfl,q'⟩:=z
    cases rv
    refine wpAny_bind (m:=truthy (.bool r)) (wpAny_truthy_bool (wpAny_pure ?_))
    exact ⟨!r,rfl, .bl (!r),H',I',rfl,by simpa using q'⟩
  have one:wpAny (model X.prog X.w) X.A (tryCompare (.ref a) "__ne__" (.ref b)) (fun r s'=>∃ v,r=some v∧EP X pins σ Q v s') X.xe s:=by
    unfold tryCompare
    refine wpAny_bind (NtL.csib (J.type.andThen (PySem.W.looks_findIn I.kIn O.ne)) (by rfl) (wpAny_mono core (fun v s' z=>?_) fun _ _ z=>z))
    obtain ⟨r,rfl,q'⟩:=z
    exact wpAny_pure ⟨_,rfl,q'⟩
  unfold richCompare
  simp only [oneThing_ref]
  refine wpAny_holding (wpAny_bind (wpAny_cRoomFor (by omega) ?_))
  refine wpAny_bind (J.type.here (wpAny_bind (J'.type.here ?_)))
  rw [if_neg (by simp)]
  refine wpAny_bind (wpAny_pure ?_)
  simp only [Bool.false_eq_true,if_false]
  refine wpAny_bind (wpAny_mono one (fun r s' z=>?_) fun _ _ e=>e)
  obtain ⟨v,rfl,hq⟩:=z
  exact wpAny_pure hq
def eqO (C:Str) (g:List D→PR) (neg:Bool) (a b:D):Option D:=match a,b with
  | .obj C1 f1, .obj C2 f2=>if decide (C1=C) && decide (C2=C) then (match g [.obj C1 f1, .obj C2 f2] with
    | .ok (.bl r)=>some (.bl (r ^^ neg))
    | _=>none) else none
  | _,_=>none
theorem W8c {K:PySem.W.Frag} {neg:Bool}:Op2 K (W9h K C g neg) (eqO C g neg):=fun W H d1 d2 v1 v2 d Q hw a1 a2 e k=>by
  unfold eqO at e
  split at e
  · rename_i C1 f1 C2 f2
    obtain ⟨h1,h2⟩:=Z06 e
    obtain ⟨h3,h4⟩:=Bool.and_eq_true_iff.mp h1
    obtain rfl:=of_decide_eq_true h3
    obtain rfl:=of_decide_eq_true h4
    obtain ⟨a,dx,vs,rfl,w,r,hs⟩:=a1.ob
    obtain ⟨b,dy,us,rfl,w',r',hs'⟩:=a2.ob
    refine ⟨a,dx,vs,b,dy,us,rfl,rfl,r,r',rfl,W,_,hw, .cons (.obj w r hs) (.cons (.obj w' r' hs') .nil),?_⟩
    cases q:g [.obj C2 f1, .obj C2 f2] with
    | ok d' =>
      rw [q] at h2
      cases d' with
      | bl r =>
        cases h2
        intro H' v ex a
        cases a with
        | bl _=>exact ⟨r,rfl,k H' _ ex (.bl _)⟩
      | _=>cases h2
    | err _ _=>rw [q] at h2; cases h2
    | bad=>rw [q] at h2; cases h2
  · cases e
structure IsTs (K:PySem.W.Frag) (us:List Value) (tab:List (String × Bool)) (own:List (Str × Bool)):Prop where
  bt:∀ k b,tab.lookup k=some b→PySem.W.kitAny K (.type k) us=some b
  ow:∀ C b,own.lookup C=some b→OwnIs K C∧PySem.W.kitAny K (.ref (He.ga K C)) us=some b
theorem W0m {K:PySem.W.Frag} {us:List Value} {tab:List (String × Bool)} {own:List (Str × Bool)} (T:IsTs K us tab own) {Z:Wd} {ρ:List Addr} {S:Sto} {H:Hp} {x:Bv.X} {v:V} {k:Bool} (st:Sta K Z ρ S H) (a:AX K (Wn Z ρ) ρ H x v) (h:isX tab own S x=some k) :
    ∃ t,TyX K H v t∧PySem.W.kitAny K t us=some k:=by
  cases a with
  | d a =>
    cases a with
    | obj w r hs =>
      obtain ⟨O,q⟩:=T.ow _ _ h
      exact ⟨_, .base (.ins r O.cl O.ha O.hn O.htk O.hm),q⟩
    | non=>exact ⟨_, .base .non,T.bt _ _ h⟩
    | bl k=>exact ⟨_, .base (.bl k),T.bt _ _ h⟩
    | int k=>exact ⟨_, .base (.int k),T.bt _ _ h⟩
    | str k=>exact ⟨_, .base (.str _),T.bt _ _ h⟩
    | tup t hs=>exact ⟨_,t.tyX,T.bt _ _ h⟩
    | lst w r hs=>exact ⟨_, .base (.lst r),T.bt _ _ h⟩
    | scr r =>
      rcases r with ⟨_,r | ⟨ob,r⟩⟩ | ⟨o,its,n,r1,r2,_⟩
      · exact ⟨_, .base (.lst r),T.bt _ _ h⟩
      · exact ⟨_, .base (.frz r),T.bt _ _ h⟩
      · exact ⟨_, .kList r1 r2,T.bt _ _ h⟩
    | dic w r hs=>exact ⟨_, .fDict r,T.bt _ _ h⟩
    | gl x=>cases h
  | r e =>
    rename_i n q
    have h:(match S[n]? with
      | some (.lst _)=>tab.lookup "list"
      | some (.dic _)=>tab.lookup "dict"
      | some (.fdc _)=>tab.lookup "dict"
      | some (.ins C _)=>own.lookup C
      | _=>none)=some k:=h
    cases z:S[n]? with
    | none=>rw [z] at h; cases h
    | some ob =>
      rw [z] at h
      have y:=st.ob n _ q z e
      cases ob with
      | lst xs=>obtain ⟨vs,h1,_⟩:=y; exact ⟨_, .base (.lst h1),T.bt _ _ h⟩
      | dic xs=>obtain ⟨vs,h1,_⟩:=y; exact ⟨_, .base (.dK h1),T.bt _ _ h⟩
      | fdc xs=>obtain ⟨o,vs,h1,_⟩:=y; exact ⟨_, .fDict h1,T.bt _ _ h⟩
      | tdc xs=>cases h
      | ndc xs=>cases h
      | tfc xs=>cases h
      | ins C fs =>
        obtain ⟨dx,vs,h1,_⟩:=y
        obtain ⟨O,q⟩:=T.ow _ _ h
        exact ⟨_, .base (.ins h1 O.cl O.ha O.hn O.htk O.hm),q⟩
end
end Bv
namespace Bv
open PySem PySem.Spec L2
open PyProof.Rows hiding St
structure DefB where
  ad:PySem.W.Frag→Addr
  name:Str
  qual:Str
  params:Arguments
  body:List Stmt
  scope:Scope
  dfl:List He.Dv:=[]
def X5q (C m:Str) (K:PySem.W.Frag):Addr:=match PySem.W.recIn K (He.ma K (He.ga K C) m) "classmethod" with
  | some (.ref g :: _)=>g
  | _=>0
def seen (K:PySem.W.Frag) (a:Addr):He.FnW:=match K.lookup a with
  | some ⟨_,_, .func fd,_⟩=>some (fd.name,fd.qualname,fd.params,fd.body,fd.scope,fd.globals,fd.closure,fd.builtins)
  | _=>none
def DefB.val (d:DefB):He.FnW:=some (d.name,d.qual,d.params, .stmts d.body,d.scope,mainGlobals,[],builtinsNs)
def DefB.dvs (K:PySem.W.Frag) (d:DefB):List V:=d.dfl.map (He.Dv.v K)
def DefB.ok (K:PySem.W.Frag) (d:DefB):Bool:=PySem.W.keepIn K (.ref (d.ad K)) && (match K.lookup (d.ad K) with
  | some ⟨_,_, .func fd,_⟩=>PySem.W.codeIn K fd.code d.qual && He.dflB K fd.defaults (d.dvs K)
  | _=>false)
theorem DefB.fun {K:PySem.W.Frag} {d:DefB} (e:seen K (d.ad K)=d.val) (c:d.ok K=true):∃ fd,FunD K d.name d.qual d.params d.body d.scope (d.dvs K) [] (d.ad K) fd:=by
  obtain ⟨kp,c2⟩:=He.ba c
  unfold seen at e
  cases q:K.lookup (d.ad K) with
  | none=>rw [q] at c2; cases c2
  | some o =>
    obtain ⟨oc,od,dt,osl⟩:=o
    rw [q] at c2 e
    cases dt with
    | func fd =>
      obtain ⟨m1,m2,m3,m4,m5,m6,m7,m8,m9,m10,m11,m12,m13,m14,m15⟩:=fd
      have e2:(some (m1,m2,m3,m4,m5,m6,m7,m15):He.FnW)=some (d.name,d.qual,d.params, .stmts d.body,d.scope,mainGlobals,[],builtinsNs):=e
      simp only [Option.some.injEq,Prod.mk.injEq] at e2
      obtain ⟨rfl,rfl,rfl,rfl,rfl,rfl,rfl,rfl⟩:=e2
      obtain ⟨k1,k2⟩:=He.ba (show (PySem.W.codeIn K m13 d.qual && He.dflB K m8 (d.dvs K))=true from c2)
      exact ⟨_,⟨oc,od,m8,m9,m10,m11,m12,m13,m14,osl,rfl,q,k1,He.dflB_ok k2, .inl rfl⟩,kp⟩
    | _=>cases c2
abbrev AlB:Type:=Bool × List He.FnW
def W9f (ts:List (PySem.W.Frag→Bool)) (ds:List DefB) (K:PySem.W.Frag):AlB:=((ts.all fun t=>t K) && ds.all fun d=>d.ok K,ds.map fun d=>seen K (d.ad K))
def W9m (ds:List DefB):AlB:=(true,ds.map DefB.val)
def Y33 (ts:List (PySem.W.Frag→Bool)) (ds:List DefB) (K:PySem.W.Frag):Prop:=W9f ts ds K=W9m ds
section
variable {ts:List (PySem.W.Frag→Bool)} {ds:List DefB} {K:PySem.W.Frag}
theorem Y33.both (c:Y33 ts ds K):(ts.all fun t=>t K)=true∧(ds.all fun d=>d.ok K)=true:=He.ba (show ((ts.all fun t=>t K) && ds.all fun d=>d.ok K)=true from congrArg (fun z:AlB=>z.1) c)
theorem Y33.test (c:Y33 ts ds K) (i:Nat) {t:PySem.W.Frag→Bool} (h:ts[i]?=some t:=by rfl):t K=true:=List.all_eq_true.mp c.both.1 t (List.mem_of_getElem? h)
theorem Y33.fun (c:Y33 ts ds K) (i:Nat) {d:DefB} (h:ds[i]?=some d:=by rfl):∃ fd,FunD K d.name d.qual d.params d.body d.scope (d.dvs K) [] (d.ad K) fd:=by
  have e:ds.map (fun d=>seen K (d.ad K))=ds.map DefB.val:=congrArg (fun z:AlB=>z.2) c
  have e2:=congrArg (fun l=>l[i]?) e
  simp only [List.getElem?_map,h,Option.map_some,Option.some.injEq] at e2
  exact DefB.fun e2 (List.all_eq_true.mp c.both.2 d (List.mem_of_getElem? h))
end
def Z3e (x:Str) (K:PySem.W.Frag):Bool:=(He.Fa.glo x).ok K
def Z4c (x:Str) (K:PySem.W.Frag):Bool:=(He.Fa.free x).ok K
def W2w (C:Str) (K:PySem.W.Frag):Bool:=(He.Fa.cls C).ok K
def W6g (C f:Str) (K:PySem.W.Frag):Bool:=(He.Fa.noat C f).ok K
def X41 (C m:Str) (K:PySem.W.Frag):Bool:=(He.Fa.meth C m).ok K
def W2x (C:Str) (K:PySem.W.Frag):Bool:=(He.Fa.mkr C).ok K
def W2z (C:Str) (K:PySem.W.Frag):Bool:=(He.Fa.cls C).ok K && (He.eqO (PySem.W.findIn K (.ref (He.ga K C)) "__class__") (some (some (.builtin "object.__class__"))) && (He.eqO (PySem.W.specialIn K (.builtin "object.__class__") "__get__") (some (some (.builtin "getset_descriptor.__get__"))) &&
  (decide (PySem.W.takesIn K (.builtin "object.__class__")=some true) && decide (PySem.W.mroIn K (He.ga K C) (.type "object")=some true))))
theorem X82 {C:Str} {K:PySem.W.Frag} (h:W2z C K=true):OwnIs K C:=by
  obtain ⟨c1,h⟩:=He.ba h
  obtain ⟨c2,h⟩:=He.ba h
  obtain ⟨c3,h⟩:=He.ba h
  obtain ⟨c4,c5⟩:=He.ba h
  exact ⟨He.cls_ok c1,He.eqO_ok c2,He.eqO_ok c3,of_decide_eq_true c4,of_decide_eq_true c5⟩
def W20 (C:Str) (K:PySem.W.Frag):Bool:=He.eqO (PySem.W.findIn K (.ref (He.ga K C)) "__str__") (some (some (.ref (He.ma K (He.ga K C) "__str__")))) && PySem.W.isFn K (.ref (He.ma K (He.ga K C) "__str__"))
theorem str_ok {C:Str} {K:PySem.W.Frag} (h:W20 C K=true):OwnStr K C (He.ma K (He.ga K C) "__str__"):=⟨He.eqO_ok (He.ba h).1,(He.ba h).2⟩
def W9k (C:Str) (K:PySem.W.Frag):Bool:=He.eqO (PySem.W.findIn K (.ref (He.ga K C)) "__eq__") (some (some (.ref (He.ma K (He.ga K C) "__eq__")))) && (PySem.W.isFn K (.ref (He.ma K (He.ga K C) "__eq__")) &&
  (He.eqO (PySem.W.findIn K (.ref (He.ga K C)) "__ne__") (some (some (.builtin "object.__ne__"))) && decide (PySem.W.mroIn K (He.ga K C) (.type "object")=some true)))
theorem W7f {C:Str} {K:PySem.W.Frag} (h:W9k C K=true):OwnEq K C (He.ma K (He.ga K C) "__eq__"):=by
  obtain ⟨c1,h⟩:=He.ba h
  obtain ⟨c2,h⟩:=He.ba h
  obtain ⟨c3,c4⟩:=He.ba h
  exact ⟨He.eqO_ok c1,c2,He.eqO_ok c3,of_decide_eq_true c4⟩
def Y27 (x:Str) (vs:List Str) (K:PySem.W.Frag):Bool:=He.tupB K x (vs.map He.Dv.str)
theorem Y8u {K:PySem.W.Frag} {W:Wd} {H:Hp}:∀ {vs:List Str},(vs.all fun z=>PyData.strOk z)=true→AVs K W H (vs.map D.str) ((vs.map He.Dv.str).map (He.Dv.v K))
  | [],_ => .nil
  | z :: r,h=>by
    rw [List.all_cons,Bool.and_eq_true] at h
    exact .cons (.str h.1) (Y8u h.2)
theorem W0s {K:PySem.W.Frag} {x:Str} {vs:List He.Dv} (h:He.tupB K x vs=true):W8w K (He.ga K x) (vs.map (He.Dv.v K)):=by
  unfold He.tupB at h
  cases q:K.lookup (He.ga K x) with
  | none=>rw [q] at h; cases h
  | some o =>
    obtain ⟨oc,od,dt,osl⟩:=o
    rw [q] at h
    cases oc with
    | type c =>
      cases dt with
      | seq its n =>
        obtain ⟨h1,h2⟩:=He.ba (show (decide (c = "tuple") && (decide (its.size ≤ sizeLine) && He.relAll (vs.map (He.Dv.v K)) its.toList))=true from h)
        obtain ⟨h3,h4⟩:=He.ba h2
        exact ⟨_,its,n,q,congrArg Value.type (of_decide_eq_true h1),rfl,of_decide_eq_true h3,He.relAll_ok h4⟩
      | _=>cases h
    | _=>cases dt <;> cases h
theorem W3n {K:PySem.W.Frag} {x:Str} {vs:List Str} (h:Y27 x vs K=true) (hv:(vs.all fun z=>PyData.strOk z)=true:=by decide +kernel):∃ v,(∀ W H,AV K W H (.tup (vs.map D.str)) v)∧RelV v (.ref (He.ga K x)) :=
  ⟨.ref (He.ga K x),fun W H => .tup (.inr (W0s h)) (Y8u hv),rfl⟩
def W6h (x z:Str) (K:PySem.W.Frag):Bool:=(He.Fa.str x z).ok K
def W6f (x:Str) (i:Int) (K:PySem.W.Frag):Bool:=(He.Fa.int x i).ok K
section
variable {K:PySem.W.Frag} {h:Heap} {mg:Str→Option Value}
def W6e (f:Str × Option Str) (i:Nat) (K:PySem.W.Frag):Bool:=match K.lookup (He.dflAt f i K) with
  | some ⟨.type c,_, .seq its _,_⟩=>decide (c = "tuple") && decide (its.size=0)
  | _=>false
end
structure Kept (P:Program) (w:World) (K:PySem.W.Frag) (mg:Str→Option Value) (base:Heap) (k:Nat) (f:Addr) (sp:Sp):Prop where
  ex:∃ fd ps,FnG P w K mg base k f fd ps sp∧Binds K fd ps []
  kp:PySem.W.keepIn K (.ref f)=true
structure KeptD (P:Program) (w:World) (K:PySem.W.Frag) (mg:Str→Option Value) (base:Heap) (k:Nat) (f:Addr) (sp:Sp) (dxs:List D):Prop where
  ex:∃ fd ps dvs ds,FnG P w K mg base k f fd ps sp∧Binds K fd ps ds∧Dft K dxs dvs ds
  kp:PySem.W.keepIn K (.ref f)=true
structure Here (X:Cx) (Wx:WX) (k:Nat):Prop where
  tk:Xq.Tk X Wx
  gu:X.A.guards=some []
  room:Room k X.A
section
variable [HasW] {X:Cx} {Wx:WX} {k j n:Nat} {f:Addr} {dxs:List D}
theorem Here.callE {g:List Bv.X→Sto→R Bv.X} (h:Here X Wx k) (c:Kept X.prog X.w X.K X.mg X.base j f (spE X.K n g)) (hj:j ≤ k:=by decide):X5f X Wx (.ref f) n (Y9 [] g):=by
  obtain ⟨fd,ps,F,b⟩:=c.ex
  exact W67 h.tk h.gu F (h.room.mono hj) b Y68
theorem Here.callP {g:List D→PR} (h:Here X Wx k) (c:Kept X.prog X.w X.K X.mg X.base j f (spP X.K n g)) (hj:j ≤ k:=by decide):X5f X Wx (.ref f) n (Y9 [] (Bv.callP g)):=by
  obtain ⟨fd,ps,F,b⟩:=c.ex
  exact W68 h.tk h.gu F (h.room.mono hj) b Y68
theorem Here.make {C:Str} {mk:Nat→R Bv.X→R Bv.X} {g:List Bv.X→Sto→R Bv.X} (hm:Mks mk) (h:Here X Wx k) (M:Mk X.K (He.ga X.K C) f) (c:Kept X.prog X.w X.K X.mg X.base j f (spE X.K (n + 1) g)) (hj:j + 1 ≤ k:=by decide):X5f X Wx (.ref (He.ga X.K C)) n (Y9 [] (made C mk g)):=by
  obtain ⟨fd,ps,F,b⟩:=c.ex
  exact X5p hm h.tk h.gu M F (h.room.mono hj) b Y68
end
end Bv
namespace Bv
open PySem PySem.Spec L2
open PyProof.Rows hiding St
variable [HasW]
theorem Z0b {P:Program} {w:World} {K:PySem.W.Frag} {mg:Str→Option Value} {base:Heap} {N:List Str} {qual:Str} {sc:Scope} {f:Addr} {cdv:Value} {A:Around} {outer:List Env} {s:Shared} {H:Hp} {E:XK} {k:Nat}
    (gu:A.guards=some []) (room:Room k (A.deeper (envOfC qual sc s.heap.objs.size f cdv))):Here (cxB P w K mg base N qual sc f cdv A outer s H E) (wxE E) k :=
  ⟨Xq.tk_of (E:=E) rfl rfl rfl rfl,gu,room⟩
theorem Z2z {P:Program} {w:World} {K:PySem.W.Frag} {mg:Str→Option Value} {base:Heap} {N:List Str} {qual:Str} {sc:Scope} {f:Addr} {cdv:Value} {A:Around} {outer:List Env} {s:Shared} {H:Hp} {E:XK} :
    PassesOwn (model (cxB P w K mg base N qual sc f cdv A outer s H E).prog (cxB P w K mg base N qual sc f cdv A outer s H E).w) (cxB P w K mg base N qual sc f cdv A outer s H E).A (cxB P w K mg base N qual sc f cdv A outer s H E).env (cxB P w K mg base N qual sc f cdv A outer s H E).xe :=
  passes_of (X:=cxB P w K mg base N qual sc f cdv A outer s H E) rfl
section
variable {X:Cx} {Wx:WX} {k:Nat} {pos:Pos} {a b c:Expr} {ma mb mc m:M}
theorem Here.blk (h:Here X Wx k) (s:Shared) (H:Hp) (sc:Scope) (ce:Env) (fp:List Addr):Here (X.blk s H sc ce fp) WX0 k:=⟨Xq.tk0,h.gu,h.room⟩
theorem Here.u1 (h:Here X Wx k):X.A.units + 1 < cLine:=by have:=h.room.un; omega
theorem Here.u64 (h:Here X Wx k):X.A.units + 64 < cLine:=by have:=h.room.un; omega
theorem Here.u65 (h:Here X Wx k):X.A.units + 65 < cLine:=by have:=h.room.un; omega
theorem Here.r0 (h:Here X Wx k):Room 0 X.A:=h.room.mono (Nat.zero_le _)
structure Opr (X:Cx) (s:Value→Value→Sem Value) (f:D→D→Option D):Prop where
  ex:∃ r:R2,OpR X s r∧Op2 X.K r f
theorem Here.eq (h:Here X Wx k):Opr X (compareOp .Eq) eqD:=⟨_,op_eqD h.u64,W94⟩
theorem Here.ne (h:Here X Wx k):Opr X (compareOp .NotEq) neD:=⟨_,op_neD h.u64,W97⟩
theorem Here.in_ (h:Here X Wx k):Opr X (compareOp .In) inD:=⟨_,W5g h.u65,W95⟩
theorem Here.nin (h:Here X Wx k):Opr X (compareOp .NotIn) X32:=⟨_,W1s h.u65,W8d⟩
theorem Here.lt (h:Here X Wx k):Opr X (compareOp .Lt) ltD:=⟨_,op_lt,Y9v⟩
theorem Here.le (h:Here X Wx k):Opr X (compareOp .LtE) leD:=⟨_,op_le,Y9v⟩
theorem Here.gt (h:Here X Wx k):Opr X (compareOp .Gt) gtD:=⟨_,op_gt,Y9v⟩
theorem Here.ge (h:Here X Wx k):Opr X (compareOp .GtE) geD:=⟨_,op_ge,Y9v⟩
theorem Here.is_ (h:Here X Wx k):Opr X (compareOp .Is) isD:=⟨_,op_isN,W96⟩
theorem Here.add (h:Here X Wx k):Opr X (binaryOp .Add) Z4e:=⟨_,W1r,W8b⟩
theorem Here.sub (h:Here X Wx k):Opr X (binaryOp .Sub) W6x:=⟨_,op_sub,W5e⟩
theorem Here.mul (h:Here X Wx k):Opr X (binaryOp .Mult) X3n:=⟨_,op_mul,Y9w⟩
theorem Here.fdiv (h:Here X Wx k):Opr X (binaryOp .FloorDiv) Y7c:=⟨_,op_fdiv,Y9w⟩
theorem Here.mod (h:Here X Wx k):Opr X (binaryOp .Mod) Y7p:=⟨_,op_mod,Y9w⟩
theorem Here.pow (h:Here X Wx k):Opr X (binaryOp .Pow) W3d:=⟨_,op_pow,Y9w⟩
theorem Here.neO {j:Nat} {C:Str} {g:List D→PR} (h:Here X Wx k) (c:Kept X.prog X.w X.K X.mg X.base j (He.ma X.K (He.ga X.K C) "__eq__") (spP X.K 2 g)) (O:OwnEq X.K C (He.ma X.K (He.ga X.K C) "__eq__")) (hj:j + 1 ≤ k:=by decide):Opr X (compareOp .NotEq) (Bv.eqO C g true):=by
  obtain ⟨fd,ps,F,b⟩:=c.ex
  exact ⟨_,W5h h.gu F O (h.room.mono hj) b,W8c⟩
theorem Z79 {op:Operator} {f:D→D→Option D} (o:Opr X (binaryOp op) f) (ha:ME X Wx a ma) (hb:ME X Wx b mb):ME X Wx (.BinOp a op b pos) (Y2 f ma mb):=by
  obtain ⟨r,h1,h2⟩:=o.ex
  exact W73 h1 h2 ha hb
theorem Z4s {op:CmpOp} {f:D→D→Option D} (o:Opr X (compareOp op) f) (ha:ME X Wx a ma) (hb:ME X Wx b mb) (hm:behindInMarks op b=false:=by first | exact nomark _ | (with_unfolding_all rfl)):ME X Wx (.Compare a [op] [b] pos) (Y2 f ma mb):=by
  obtain ⟨r,h1,h2⟩:=o.ex
  exact W4r h1 h2 ha hb hm
theorem Z0y {op:CmpOp} {f:D→D→Option D} (o:Opr X (compareOp op) f) (ha:ME X Wx a ma) (hb:ME X Wx b mb) (hm:behindInMarks op b=false:=by first | exact nomark _ | (with_unfolding_all rfl)):MT X Wx (.Compare a [op] [b] pos) (U3 (Y2 f ma mb)):=by
  obtain ⟨r,h1,h2⟩:=o.ex
  exact W40 h1 h2 ha hb hm
theorem W2v {op op':CmpOp} {f g:D→D→Option D} (o:Opr X (compareOp op) f) (o':Opr X (compareOp op') g) (ha:ME X Wx a ma) (hb:ME X Wx b mb) (hc:ME X Wx c mc) (hm:lastMarks [op,op'] [b,c]=false:=by with_unfolding_all rfl) :
    MT X Wx (.Compare a [op,op'] [b,c] pos) (U3 (W3 f g ma mb mc)):=by
  obtain ⟨r,h1,h2⟩:=o.ex
  obtain ⟨r',h1',h2'⟩:=o'.ex
  exact X6q h1 h1' h2 h2' ha hb hc hm
theorem W30 {x z:Str} (hg:Gl X x) (h:∃ t,X.mg x=some (.str z t)) (hz:PyData.strOk z=true:=by decide +kernel) (hd:(x == ("__debug__" : Str))=false:=by decide):ME X Wx (.Name x pos) (m_c (.str z)):=by
  obtain ⟨t,e⟩:=h
  exact Y4p hg e ⟨.str z,fun _ _ => .str hz,⟨t,rfl⟩⟩ hd
theorem W3z {x:Str} {i:Int} (hg:Gl X x) (h:∃ t,X.mg x=some (.int i t)) (hd:(x == ("__debug__" : Str))=false:=by decide):ME X Wx (.Name x pos) (m_c (.int i)):=by
  obtain ⟨t,e⟩:=h
  exact Y4p hg e ⟨.int i,fun _ _ => .int i,⟨t,rfl⟩⟩ hd
theorem Z9d {x:Str} {vs:List Str} (hg:Gl X x) (h:X.mg x=some (.ref (He.ga X.K x))) (hv:Y27 x vs X.K=true) (hz:(vs.all fun z=>PyData.strOk z)=true:=by decide +kernel) (hd:(x == ("__debug__" : Str))=false:=by decide):ME X Wx (.Name x pos) (m_c (.tup (vs.map D.str))) :=
  Y4p hg h (W3n hv hz) hd
theorem X71 {x:Str} (hg:Gl X x) (h:X.mg x=some (.ref (He.ga X.K x))) (hd:(x == ("__debug__" : Str))=false:=by decide):ME X Wx (.Name x pos) (m_c (.gl x)) :=
  Y4p hg h ⟨.ref (He.ga X.K x),fun _ _ => .gl x,rfl⟩ hd
theorem W3c {x:Str} {T:String} (hg:Gl X x) (hm:X.mg x=none) (hv:bootBuiltins x=some (.type T):=by rfl) (hn:x ≠ "__name__" := by decide) (hd:(x == ("__debug__" : Str))=false:=by decide):PE X (.Name x pos) (tC (.ty T)):=pe_bltn hg hm hv rfl hn hd
theorem W5i {x:Str} (hg:Gl X x) (h:X.mg x=some (.ref (He.ga X.K x))) (hd:(x == ("__debug__" : Str))=false:=by decide):PE X (.Name x pos) (tC (.ref (He.ga X.K x))):=pe_glob hg h rfl hd
end
end Bv
namespace Bv
open PySem PySem.Spec L2
open PyProof.Rows hiding St
variable [HasW]
def Z5k:List (String × Bool):=[("NoneType",false),("bool",false),("int",false),("str",false),("tuple",false),("list",false),("dict",false)]
section
variable {X:Cx} {Wx:WX} {k j n:Nat} {pos p:Pos} {e:Expr} {es:List Expr} {ms:MG (List Bv.X)} {C:Str} {g:List D→PR}
theorem Kept.strO (c:Kept X.prog X.w X.K X.mg X.base j (He.ma X.K (He.ga X.K C) "__str__") (spP X.K 1 g)) (O:OwnStr X.K C (He.ma X.K (He.ga X.K C) "__str__")) (h:Here X Wx k) (hj:j + 2 ≤ k) (hg:Gl X "str") (hm:X.mg "str" = none) (ha:MA X Wx (e :: es) ms)
    (he:starEach (e :: es) X.env=(false,eval e X.env) :: starEach es X.env:=by rfl) (hpl:(backTo pos (starEach es X.env)).any (·.1)=false:=by rfl):ME X Wx (.Call (.Name "str" p) (e :: es) [] pos) (Z8 (Z5c C g) ms):=by
  obtain ⟨fd,ps,F,b⟩:=c.ex
  exact Z2w (W3s h.gu F O (h.room.mono hj) b) W3p hg hm ha (by rfl) (by decide) (by decide) he hpl
end
end Bv
namespace Bv
open PySem PySem.Spec L2
open PyProof.Rows hiding St
def X40 (u:PySem.W.Frag→Value) (tab:List (String × Bool)) (own:List (Str × Bool)) (K:PySem.W.Frag):Bool:=(tab.all fun p=>decide (PySem.W.kitOne K (.type p.1) (u K)=some p.2)) && own.all fun p=>W2z p.1 K && decide (PySem.W.kitOne K (.ref (He.ga K p.1)) (u K)=some p.2)
def X9f (us:List Value) (tab:List (String × Bool)) (own:List (Str × Bool)) (K:PySem.W.Frag):Bool:=(tab.all fun p=>decide (PySem.W.kitAny K (.type p.1) us=some p.2)) && own.all fun p=>W2z p.1 K && decide (PySem.W.kitAny K (.ref (He.ga K p.1)) us=some p.2)
def X43 (Ts:List String):List (String × Bool):=["NoneType", "bool", "int", "str", "tuple", "list", "dict"].map fun k=>(k,Ts.any fun T=>kitB k T == some true)
section
variable {K:PySem.W.Frag} {h:Heap} {mg:Str→Option Value}
theorem Y9j {u:PySem.W.Frag→Value} {tab:List (String × Bool)} {own:List (Str × Bool)} (c:X40 u tab own K=true):IsT K (u K) tab own:=by
  obtain ⟨c1,c2⟩:=He.ba c
  refine ⟨fun k b q=>of_decide_eq_true (List.all_eq_true.mp c1 (k,b) (X27 q)),fun C b q=>?_⟩
  obtain ⟨c3,c4⟩:=He.ba (List.all_eq_true.mp c2 (C,b) (PySem.mem_of_lookup q))
  exact ⟨X82 c3,of_decide_eq_true c4⟩
theorem W0l {us:List Value} {tab:List (String × Bool)} {own:List (Str × Bool)} (c:X9f us tab own K=true):IsTs K us tab own:=by
  obtain ⟨c1,c2⟩:=He.ba c
  refine ⟨fun k b q=>of_decide_eq_true (List.all_eq_true.mp c1 (k,b) (X27 q)),fun C b q=>?_⟩
  obtain ⟨c3,c4⟩:=He.ba (List.all_eq_true.mp c2 (C,b) (PySem.mem_of_lookup q))
  exact ⟨X82 c3,of_decide_eq_true c4⟩
def Z8o (Cs:List Str) (f:Str) (K:PySem.W.Frag):Bool:=Cs.all fun C=>W2w C K && W6g C f K
theorem Z6m {Cs:List Str} {f:Str} (c:Z8o Cs f K=true):Z6w K Cs f:=fun C m=>by
  obtain ⟨c1,c2⟩:=He.ba (List.all_eq_true.mp c C m)
  exact ⟨He.cls_ok c1,He.noat_ok c2⟩
theorem Z0k (X:K.In h) (G:h.Ns mainGlobals mg) {x:Str} (c:Z3e x K=true):mg x=some (.ref (He.ga K x)):=He.glo_ok X G c
theorem Z1r (X:K.In h) (G:h.Ns mainGlobals mg) {x:Str} (c:Z4c x K=true):mg x=none:=He.free_ok X G c
theorem W27 (X:K.In h) (G:h.Ns mainGlobals mg) {x z:Str} (c:W6h x z K=true):∃ t,mg x=some (.str z t):=He.str_ok X G c
theorem W0k (X:K.In h) (G:h.Ns mainGlobals mg) {x:Str} {i:Int} (c:W6f x i K=true):∃ t,mg x=some (.int i t):=He.int_ok X G c
theorem X3j {C:Str} (c:W2x C K=true):Mk K (He.ga K C) (He.ma K (He.ga K C) "__init__"):=He.mkr_ok c
end
section
variable {P:Program} {w:World} {K:PySem.W.Frag} {mg:Str→Option Value} {base:Heap} {k:Nat} {f:Addr} {fd:FuncData} {ps:List Str} {sp:Sp} {x qual:Str} {pa:Arguments} {bd:List Stmt} {sc:Scope} {dl:List V}
theorem Z3c (F:FunD K x qual pa bd sc [] [] f fd) (ok:FnG P w K mg base k f fd ps sp)
    (h:∀ (kV doc pm:Value) (an:Option Addr) (cdv ct:Value) (us:List Value),us.length=ps.length→bindArgs (PySem.W.fnOf x qual pa bd sc .none kV doc pm an cdv ct) ⟨us,[]⟩=pure (ps.zip us)):Kept P w K mg base k f sp:=⟨⟨fd,ps,ok,F.bindsN h⟩,F.kp⟩
theorem W4e (F:FunD K x qual pa bd sc dl [] f fd) (ok:FnG P w K mg base k f fd ps sp) (hd:dl ≠ [])
    (h:∀ (T:Addr) (kV doc pm:Value) (an:Option Addr) (cdv ct:Value) (us its:List Value),us.length=ps.length→its.length=dl.length →
      ∃ k,bindArgs (PySem.W.fnOf x qual pa bd sc (.ref T) kV doc pm an cdv ct) ⟨us,[]⟩=seqItems? (.ref T) >>= k∧k (some its.toArray)=pure (ps.zip (us++its.drop dl.length))):Kept P w K mg base k f sp:=by
  obtain ⟨ds,r,b⟩:=F.binds1 ps.length dl.length hd (by omega) h
  rw [List.drop_length] at r
  cases r
  exact ⟨⟨fd,ps,ok,b⟩,F.kp⟩
end
theorem law_sp {K:PySem.W.Frag} {g:List D→PR} (hg:∀ ns:List Int,ns.length ≤ 63→g [.scr ns] = .ok (.bl true)) (H:Hp) (a:Addr) (ns:List Int) (hl:ns.length ≤ 63) (only:Only H) (hS:SqL K H a (ns.map V.int)):spP K 1 g [.ref a] H (fun v _=>v = .bl true) fun _ _ _=>False:=by
  refine ⟨rfl,fun _=>False,[.scr ns],fun _ z=>z.elim, .cons (.scr ?_) .nil,?_⟩
  · rcases hS with h | h
    · exact .inl ⟨fun z=>z,h⟩
    · exact .inr h
  · rw [hg ns hl]
    intro H' v k a
    cases a
    rfl
end Bv
namespace Bv
open PySem PySem.Spec L2
open PyProof.Rows hiding St
variable [HasW]
def Z5j (acc:List Str) (x:Str):List Str:=if acc.contains x then acc else acc++[x]
def Z7p (xs:List Str):List Str:=xs.foldl Z5j []
theorem Y6f {xs:List Str} {i:Nat} (h:i < xs.length):Z7p (xs.take (i + 1))=Z5j (Z7p (xs.take i)) (xs.getD i Str.empty):=by
  unfold Z7p
  rw [List.take_add_one,List.getElem?_eq_getElem h,Option.toList_some,List.foldl_append]
  simp [List.getD_eq_getElem?_getD,h]
theorem Y6d (acc:List Str) (x k:Str):(Z5j acc x).contains k=(acc.contains k || decide (k=x)):=by
  unfold Z5j
  by_cases h:acc.contains x=true
  · rw [if_pos h]
    by_cases e:k=x
    · rw [e,h]; rfl
    · simp [e]
  · rw [if_neg h]
    simp [List.contains_append,Bool.or_comm,eq_comm]
theorem Y3y (acc:List Str) (x:Str):(Z5j acc x).length=if acc.contains x then acc.length else acc.length + 1:=by
  unfold Z5j
  split <;> simp
theorem Y79:∀ (xs acc:List Str),(xs.foldl Z5j acc).length ≤ acc.length + xs.length
  | [],acc=>by simp
  | x :: r,acc=>by
    have h:=Y79 r (Z5j acc x)
    have h2:=Y3y acc x
    simp only [List.foldl_cons,List.length_cons]
    split at h2 <;> omega
section
variable {prog:Program} {w:World} {A:Around} {R:Result→Shared→Prop} {it:Addr} {fp wr:List Addr} {G:Array GenState→Array GenState→Prop} {n:Nat} {P:Nat→Value→Prop} {St:Nat→Shared→Prop}
theorem fill (W:WalksS prog w A.in1 it fp wr G n P St) (S:Addr) (apart:S ∉ fp) (xs:List Str) (many:xs.length=n) (few:xs.length + 1 < scanBound) (says:∀ i v,P i v→∃ t,v = .str (xs.getD i Str.empty) t) :
    ∀ (k i:Nat) (s:Shared),n - i=k→i ≤ n→St i s→s.heap.SetOf (PySem.strKind prog w) S (fun k=>(Z7p (xs.take i)).contains k) (Z7p (xs.take i)).length →
      (∀ s',Moved (S :: wr) G s s'→s'.heap.SetOf (PySem.strKind prog w) S (fun k=>(Z7p (xs.take n)).contains k) (Z7p (xs.take n)).length→R (.ok (.ret .none)) s') →
      codeAny (model prog w) A (.builtin "set.update.loop" ⟨[.ref S, .ref it],[]⟩) R s:=by
  have out:S ∉ wr:=fun z=>apart (W.sub _ z)
  have more:∀ b ∈ wr,b ∈ S :: wr:=fun b z=>List.mem_cons_of_mem _ z
  have stay:∀ {i:Nat} {s s':Shared},Moved wr G s s'→s.heap.SetOf (PySem.strKind prog w) S (fun k=>(Z7p (xs.take i)).contains k) (Z7p (xs.take i)).length→s'.heap.SetOf (PySem.strKind prog w) S (fun k=>(Z7p (xs.take i)).contains k) (Z7p (xs.take i)).length :=
    fun mv ⟨o,es,ep,t,q,rest⟩=>⟨o,es,ep,t,mv.heap S _ out q,rest⟩
  intro k
  induction k with
  | zero =>
    intro i s e1 e2 st set fin
    obtain rfl:i=n:=by omega
    refine (codeAny_builtin PyProof.Rows.F.entry_set_update_loop ?_)
    rw [(Around.under_plainId PyProof.Rows.F.plain_set_update_loop _)]
    show wpAny _ A.in1 (pyNext (.ref it) >>= _) _ _ s
    refine wpAny_bind (W.done s _ _ st fun s' mv=>?_)
    exact wpAny_pure (fin s' (mv.mono more) (stay mv set))
  | succ k ih =>
    intro i s e1 e2 st set fin
    have lt:i < n:=by omega
    refine (codeAny_builtin PyProof.Rows.F.entry_set_update_loop ?_)
    rw [(Around.under_plainId PyProof.Rows.F.plain_set_update_loop _)]
    show wpAny _ A.in1 (pyNext (.ref it) >>= _) _ _ s
    refine wpAny_bind (W.item i s _ _ lt st fun v s' p st' mv=>?_)
    obtain ⟨t,rfl⟩:=says i v p
    have set':=stay mv set
    have room:(Z7p (xs.take i)).length + 1 < scanBound:=by
      have h:=Y79 (xs.take i) []
      have h2:=List.length_take_le i xs
      unfold Z7p at *
      simp only [List.length_nil,Nat.zero_add] at h
      omega
    show wpAny _ A.in1 (holding [Value.str (xs.getD i Str.empty) t] (setAdd S (.str (xs.getD i Str.empty) t)) >>= _) _ _ s'
    refine (wpAny_bind (wpAny_holding ?_))
    unfold setAdd
    refine (wpAny_holding (wpAny_bind ((PySem.strKind prog w).pyHash (k:=xs.getD i Str.empty) (strKind_is _ _ _ _) ?_)))
    refine wpAny_setAddHashed_of (knd:=PySem.strKind prog w) (s:={ s' with toks:=s'.toks + 1 }) (strKind_is _ _ _ _) rfl set' room fun h' but set2=>?_
    have set3:h'.SetOf (PySem.strKind prog w) S (fun k=>(Z7p (xs.take (i + 1))).contains k) (Z7p (xs.take (i + 1))).length:=SetOf_congr set2 (fun k=>by rw [Y6f (by omega),Y6d]) (by rw [Y6f (by omega),Y3y])
    refine wpAny_pure ⟨plainId_quiet PyProof.Rows.F.plain_set_update_loop _,ih (i + 1) _ (by omega) lt (W.frame _ s' _ _ st' (Nat.le_succ _) fun b z o q=>?_) set3 fun s2 mv2 q2=>?_⟩
    · rw [but.2 b fun y=>apart (by rw [← y]; exact z)]; exact q
    · refine fin s2 (Moved.trans W.gtrans ((mv.mono more).then_heap (Nat.le_succ _) fun b o z q=>?_) mv2) q2
      rw [but.2 b fun y=>z (by rw [y]; exact List.mem_cons_self)]; exact q
end
section
variable {prog:Program} {w:World} {A:Around} {E:Value→Shared→Prop} {s:Shared}
set_option maxHeartbeats 3200000 in
theorem X7m {l:Addr} {items:Array Value} {xs:List Str} {Q:Value→Shared→Prop} (calm:A.handled=none) (at_:s.heap.IsList l items) (are:StrsAre items.toList xs) (few:xs.length + 1 < scanBound)
    (fin:∀ (h':Heap) (tk:Nat),h'.SetOf (PySem.strKind prog w) s.heap.objs.size (fun k=>(Z7p xs).contains k) (Z7p xs).length→(∀ b o,b < s.heap.objs.size→s.heap.get? b=some o→h'.get? b=some o)→Q (.ref s.heap.objs.size) { s with heap:=h',toks:=tk }) :
    wpAny (model prog w) A (call (.type "set") [.ref l]) Q E s:=by
  obtain ⟨c,tl,known⟩:=PySem.F.called_set.mro
  have mk:=PySem.F.called_set.made
  have below:=PySem.F.called_set.sub
  have no1:=PySem.F.called_set.notType
  have may:=PySem.F.called_set.canCreate
  have chk:=PySem.F.typeCall_set_1 (.ref l)
  have slen:xs.length=items.size:=by rw [← StrsAre.len_eq are,Array.length_toList]
  refine wpAny_call (codeAny_of_tree ?_)
  show wpAny _ _ (callAny (.type "set") _) _ E s
  refine (wpAny_pure ⟨Code.quiet_builtin _ (by decide +kernel),(codeAny_builtin PySem.F.entry_type_call ?_)⟩)
  rw [(Around.under_plain (weight_type_call_type "set" [.ref l] []) rfl)]
  (repeat (any_goals (first | assumption | wp_step)))
  let new (led:Bool):Heap:=s.heap.push { cls := .type "set",dict:=none,data := .set #[] 0 (.fresh 0 0 led) }
  refine codeAny_mono (code_set_new_1 (.ref l) (E:=E) (Q₁:=fun obj s1=>∃ led:Bool,obj = .ref s.heap.objs.size∧s1={ s with heap:=new led }) fun led=>⟨led,rfl,rfl⟩) fun y s1 z=>?_
  match y,z with
  | .error e,z=>exact z
  | .ok (.ret obj),z =>
    obtain ⟨led,rfl,rfl⟩:=z
    have there:(new led).get? s.heap.objs.size=some { cls := .type "set",dict:=none,data := .set #[] 0 (.fresh 0 0 led) }:=Heap.get?_push_size _ rfl
    have isSet:Shared.TypeIs { s with heap:=new led } (.ref s.heap.objs.size) "set" := ⟨_,there,rfl⟩
    have look:=PySem.F.called_set.init.lookup
    have bound:=PySem.F.called_set.init.bind (.ref s.heap.objs.size)
    (repeat (any_goals (first | assumption | wp_step)))
    refine codeAny_mono (codeAny_call_builtin (R:=wants (fun r s2=>r = .none∧∃ h' tk,s2={ s with heap:=h',toks:=tk }∧h'.SetOf (PySem.strKind prog w) s.heap.objs.size (fun k=>(Z7p xs).contains k) (Z7p xs).length∧(∀ b o,b < s.heap.objs.size→s.heap.get? b=some o→h'.get? b=some o)) E)
      PySem.F.called_set.init.plain PySem.F.entry_set_init (check_set_init_1 isSet ?_)) fun y2 s2 z2=>?_
    · obtain ⟨ob,hob,cl,n,dt⟩:=at_
      obtain ⟨obc,obd,obt,obs⟩:=ob
      simp only at cl dt
      subst cl dt
      have ob2:(new led).get? l=some { cls := .type "list",dict:=obd,data := .seq items n,slots:=obs }:=Heap.get?_push_of_some _ hob
      have no2:=PySem.F.sub_list_set
      have no3:=PySem.F.sub_list_frozenset
      have no4:(Value.type "list" == Value.type "dict")=false:=by decide
      have isL:(new led).IsList l items:=⟨_,ob2,rfl,n,rfl⟩
      unfold Builtin.«set.__init__» noKeywords Builtin.Frozenset.updateFrom
      generalize hp:pyIter=it
      wp_walk
      subst hp
      refine wpAny_pyIter_list isL ?_
      refine (wpAny_bind (wpAny_runValue ?_))
      have lt:l < s.heap.objs.size:=Heap.lt_size hob
      have sz:(new led).objs.size=s.heap.objs.size + 1:=Heap.size_push ..
      have off1:l ≠ (new led).objs.size:=by rw [sz]; exact Nat.ne_of_lt (Nat.lt_succ_of_lt lt)
      have off2:s.heap.objs.size ∉ [(new led).objs.size,l]:=by
        simp only [List.mem_cons,List.not_mem_nil,or_false,not_or]
        exact ⟨by rw [sz]; exact Nat.ne_of_lt (Nat.lt_succ_self _),Nat.ne_of_gt lt⟩
      refine fill ((Walks.list (show A.in1.in1.in1.handled=none by simp [calm]) _ l off1 items).toS) s.heap.objs.size off2 xs slen few (fun i v q=>SS.strs_at are i v (by rw [Array.getElem?_toList]; exact q)) (items.size - 0) 0 _ (by omega) (Nat.zero_le _) ⟨⟨_,Heap.get?_push_size _ rfl,rfl,rfl⟩,isL.push _⟩ ?_ ?_
      · have there2:((new led).push { cls := .type "list_iterator",data := .fields #[.ref l, .int 0 0] }).get? s.heap.objs.size=some { cls := .type "set",dict:=none,data := .set #[] 0 (.fresh 0 0 led) }:=Heap.get?_push_of_some _ there
        exact SetOf_congr ((setObjOf_fresh (knd:=PySem.strKind prog w) led).setOf there2 (by unfold scanBound; omega)) (fun _=>rfl) rfl
      · intro s3 mv set3
        obtain ⟨h3,g3,d3,t3,o3⟩:=s3
        obtain rfl:g3=s.gens:=mv.gens
        obtain rfl:d3=s.drawn:=mv.drawn
        obtain rfl:o3=s.os:=mv.os
        show (wpAny _ _ _ _ _ _)
        refine (wpAny_pure ?_)
        show (wpAny _ _ (ret Value.none) _ _ _)
        refine wpAny_pure ⟨rfl,h3,t3,rfl,by rw [← slen,List.take_length] at set3; exact set3,fun b o hb q=>?_⟩
        exact mv.heap b o (by simp only [List.mem_cons,List.not_mem_nil,or_false,not_or]; exact ⟨Nat.ne_of_lt hb,by rw [sz]; exact Nat.ne_of_lt (Nat.lt_succ_of_lt hb)⟩) (Heap.get?_push_of_some _ (Heap.get?_push_of_some _ q))
    · match y2,z2 with
      | .error e,z2=>exact z2
      | .ok (.ret r),z2 =>
        obtain ⟨rfl,h3,t3,rfl,set3,keep3⟩:=z2
        (repeat (any_goals (first | assumption | wp_step)))
        exact fin _ _ set3 keep3
      | .ok .next,z2=>exact z2.elim
      | .ok .brk,z2=>exact z2.elim
      | .ok .cont,z2=>exact z2.elim
  | .ok .next,z=>exact z.elim
  | .ok .brk,z=>exact z.elim
  | .ok .cont,z=>exact z.elim
end
end Bv
namespace Bv
open PySem PySem.Spec L2
open PyProof.Rows hiding St
variable [HasW]
section
variable {prog:Program} {w:World} {A:Around} {E:Value→Shared→Prop} {s:Shared}
set_option maxHeartbeats 3200000 in
theorem X4n {l:Addr} {items:Array Value} {xs:List Str} {Q:Value→Shared→Prop} (calm:A.handled=none) (at_:s.heap.IsTuple l items) (are:StrsAre items.toList xs) (few:xs.length + 1 < scanBound)
    (fin:∀ (h':Heap) (tk:Nat),h'.SetOf (PySem.strKind prog w) s.heap.objs.size (fun k=>(Z7p xs).contains k) (Z7p xs).length→(∀ b o,b < s.heap.objs.size→s.heap.get? b=some o→h'.get? b=some o)→Q (.ref s.heap.objs.size) { s with heap:=h',toks:=tk }) :
    wpAny (model prog w) A (call (.type "set") [.ref l]) Q E s:=by
  obtain ⟨c,tl,known⟩:=PySem.F.called_set.mro
  have mk:=PySem.F.called_set.made
  have below:=PySem.F.called_set.sub
  have no1:=PySem.F.called_set.notType
  have may:=PySem.F.called_set.canCreate
  have chk:=PySem.F.typeCall_set_1 (.ref l)
  have slen:xs.length=items.size:=by rw [← StrsAre.len_eq are,Array.length_toList]
  refine wpAny_call (codeAny_of_tree ?_)
  show wpAny _ _ (callAny (.type "set") _) _ E s
  refine (wpAny_pure ⟨Code.quiet_builtin _ (by decide +kernel),(codeAny_builtin PySem.F.entry_type_call ?_)⟩)
  rw [(Around.under_plain (weight_type_call_type "set" [.ref l] []) rfl)]
  (repeat (any_goals (first | assumption | wp_step)))
  let new (led:Bool):Heap:=s.heap.push { cls := .type "set",dict:=none,data := .set #[] 0 (.fresh 0 0 led) }
  refine codeAny_mono (code_set_new_1 (.ref l) (E:=E) (Q₁:=fun obj s1=>∃ led:Bool,obj = .ref s.heap.objs.size∧s1={ s with heap:=new led }) fun led=>⟨led,rfl,rfl⟩) fun y s1 z=>?_
  match y,z with
  | .error e,z=>exact z
  | .ok (.ret obj),z =>
    obtain ⟨led,rfl,rfl⟩:=z
    have there:(new led).get? s.heap.objs.size=some { cls := .type "set",dict:=none,data := .set #[] 0 (.fresh 0 0 led) }:=Heap.get?_push_size _ rfl
    have isSet:Shared.TypeIs { s with heap:=new led } (.ref s.heap.objs.size) "set" := ⟨_,there,rfl⟩
    have look:=PySem.F.called_set.init.lookup
    have bound:=PySem.F.called_set.init.bind (.ref s.heap.objs.size)
    (repeat (any_goals (first | assumption | wp_step)))
    refine codeAny_mono (codeAny_call_builtin (R:=wants (fun r s2=>r = .none∧∃ h' tk,s2={ s with heap:=h',toks:=tk }∧h'.SetOf (PySem.strKind prog w) s.heap.objs.size (fun k=>(Z7p xs).contains k) (Z7p xs).length∧(∀ b o,b < s.heap.objs.size→s.heap.get? b=some o→h'.get? b=some o)) E)
      PySem.F.called_set.init.plain PySem.F.entry_set_init (check_set_init_1 isSet ?_)) fun y2 s2 z2=>?_
    · obtain ⟨ob,hob,cl,n,dt⟩:=at_
      obtain ⟨obc,obd,obt,obs⟩:=ob
      simp only at cl dt
      subst cl dt
      have ob2:(new led).get? l=some { cls := .type "tuple",dict:=obd,data := .seq items n,slots:=obs }:=Heap.get?_push_of_some _ hob
      have no2:=PySem.F.sub_tuple_set
      have no3:=PySem.F.sub_tuple_frozenset
      have no4:(Value.type "tuple" == Value.type "dict")=false:=by decide
      have isL:(new led).IsTuple l items:=⟨_,ob2,rfl,n,rfl⟩
      unfold Builtin.«set.__init__» noKeywords Builtin.Frozenset.updateFrom
      generalize hp:pyIter=it
      wp_walk
      subst hp
      refine wpAny_pyIter_tuple isL ?_
      refine (wpAny_bind (wpAny_runValue ?_))
      have lt:l < s.heap.objs.size:=Heap.lt_size hob
      have sz:(new led).objs.size=s.heap.objs.size + 1:=Heap.size_push ..
      have off1:l ≠ (new led).objs.size:=by rw [sz]; exact Nat.ne_of_lt (Nat.lt_succ_of_lt lt)
      have off2:s.heap.objs.size ∉ [(new led).objs.size,l]:=by
        simp only [List.mem_cons,List.not_mem_nil,or_false,not_or]
        exact ⟨by rw [sz]; exact Nat.ne_of_lt (Nat.lt_succ_self _),Nat.ne_of_gt lt⟩
      refine fill ((Walks.tuple (show A.in1.in1.in1.handled=none by simp [calm]) _ l off1 items).toS) s.heap.objs.size off2 xs slen few (fun i v q=>SS.strs_at are i v (by rw [Array.getElem?_toList]; exact q)) (items.size - 0) 0 _ (by omega) (Nat.zero_le _) ⟨⟨_,Heap.get?_push_size _ rfl,rfl,rfl⟩,isL.push _⟩ ?_ ?_
      · have there2:((new led).push { cls := .type "tuple_iterator",data := .fields #[.ref l, .int 0 0] }).get? s.heap.objs.size=some { cls := .type "set",dict:=none,data := .set #[] 0 (.fresh 0 0 led) }:=Heap.get?_push_of_some _ there
        exact SetOf_congr ((setObjOf_fresh (knd:=PySem.strKind prog w) led).setOf there2 (by unfold scanBound; omega)) (fun _=>rfl) rfl
      · intro s3 mv set3
        obtain ⟨h3,g3,d3,t3,o3⟩:=s3
        obtain rfl:g3=s.gens:=mv.gens
        obtain rfl:d3=s.drawn:=mv.drawn
        obtain rfl:o3=s.os:=mv.os
        show (wpAny _ _ _ _ _ _)
        refine (wpAny_pure ?_)
        show (wpAny _ _ (ret Value.none) _ _ _)
        refine wpAny_pure ⟨rfl,h3,t3,rfl,by rw [← slen,List.take_length] at set3; exact set3,fun b o hb q=>?_⟩
        exact mv.heap b o (by simp only [List.mem_cons,List.not_mem_nil,or_false,not_or]; exact ⟨Nat.ne_of_lt hb,by rw [sz]; exact Nat.ne_of_lt (Nat.lt_succ_of_lt hb)⟩) (Heap.get?_push_of_some _ (Heap.get?_push_of_some _ q))
    · match y2,z2 with
      | .error e,z2=>exact z2
      | .ok (.ret r),z2 =>
        obtain ⟨rfl,h3,t3,rfl,set3,keep3⟩:=z2
        (repeat (any_goals (first | assumption | wp_step)))
        exact fin _ _ set3 keep3
      | .ok .next,z2=>exact z2.elim
      | .ok .brk,z2=>exact z2.elim
      | .ok .cont,z2=>exact z2.elim
  | .ok .next,z=>exact z.elim
  | .ok .brk,z=>exact z.elim
  | .ok .cont,z=>exact z.elim
end
def Y9g:List Bv.X→Sto→R Bv.X
  | [x],S=>(match (items S x).bind strs? with
    | some xs=>if decide (xs.length + 1 < scanBound) then .ok (.d (.int (Z7p xs).length)) S else .bad
    | none => .bad)
  | _,_ => .bad
def Y4o (m:M):M:=fun e S=>(m e S).bind fun x S1=>Y9g [x] S1
section
variable {X:Cx} {Wx:WX} {p p2 q pos:Pos} {a:Expr} {m:M}
theorem X3d (hc:X.calm=true) (hg:Gl X "len") (hm:X.mg "len" = none) (hg2:Gl X "set") (hm2:X.mg "set" = none) (ha:ME X Wx a m) (na:starEach [a] X.env=(false,eval a X.env) :: starEach [] X.env:=by rfl) :
    ME X Wx (.Call (.Name "len" p) [.Call (.Name "set" p2) [a] [] q] [] pos) (Y4o m):=⟨fun pins s σ H Q I ⟨Z,ρ,e,S,st,ev,w⟩=>by
  refine Call_ (ld_blt I hg hm boot_len (callWith_builtin1 (args_cons (Call_ (ld_blt I hg2 hm2 boot_set (callWith_type1 (args_cons (thn (ha.run pins s σ H _ I (X6 (R':=fun v H1=>∃ (b:Addr) (xs:List Str),v = .ref b∧(SqT X.K H1 b (xs.map V.str) ∨ SqL X.K H1 b (xs.map V.str))∧xs.length + 1 < scanBound∧Q (.int (Z7p xs).length) H1) st ev w
    fun ρ1 H1 v x S1 s1 g1 ev1 a1 p1=>?_)) fun v s1 ⟨x,H1,I1,r1,b,xs,ex,hq,few,q1⟩=>args_nil ?_) na) na rfl))) rfl) rfl rfl))
  · have p1:W5 (AX X.K) X.K Z ρ1 H1 Wx σ Q (match (items S1 x).bind strs? with
      | some xs=>if decide (xs.length + 1 < scanBound) then .ok (.d (.int (Z7p xs).length)) S1 else .bad
      | none => .bad):=p1
    cases y:(items S1 x).bind strs? with
    | none=>rw [y] at p1; exact p1.elim
    | some xs =>
      rw [y] at p1
      have p1:W5 (AX X.K) X.K Z ρ1 H1 Wx σ Q (if decide (xs.length + 1 < scanBound) then .ok (.d (.int (Z7p xs).length)) S1 else .bad):=p1
      split at p1
      · rename_i few
        obtain ⟨ys,h1,h2⟩:=Option.bind_eq_some_iff.mp y
        obtain ⟨b,us,rfl,hq,hp⟩:=a1.items s1 h1
        obtain ⟨rfl,_⟩:=Y43 hp h2
        exact ⟨b,xs,rfl,hq,of_decide_eq_true few,W5.ret0 p1 s1 (.d (.int _))⟩
      · exact p1.elim
  · subst ex
    cases r1
    have fin:∀ (h':Heap) (tk:Nat),h'.SetOf (PySem.strKind X.prog X.w) s1.heap.objs.size (fun k=>(Z7p xs).contains k) (Z7p xs).length→(∀ b o,b < s1.heap.objs.size→s1.heap.get? b=some o→h'.get? b=some o) →
        wpAny (model X.prog X.w) X.A (spliced (backTo pos (starEach [] X.env))) (fun vs s2=>wpAny (model X.prog X.w) X.A (call (.builtin "len") (Value.ref s1.heap.objs.size :: vs)) (EP X pins σ Q) X.xe s2) X.xe { s1 with heap:=h',toks:=tk }:=fun h' tk set keep=>by
      refine args_nil ?_
      obtain ⟨o,es,ep,t,ho,hex,hd,_,_,_,hf,hn⟩:=set
      have I2:Inv X pins σ H1 { s1 with heap:=h',toks:=tk }:=I1.kept fun b o e=>keep b o (Heap.lt_size e) e
      have le:=Y79 xs []
      refine call_len_set ho hex hd hf (by rw [hn]; unfold Z7p scanBound at *; simp only [List.length_nil,Nat.zero_add] at le; omega) ⟨.int (Z7p xs).length,H1,I2.tok _,⟨_,by rw [hn]⟩,q1⟩
    rcases hq with hq | hq
    · obtain ⟨its,r,pl,_⟩:=I1.tuple hq
      exact X4n (I1.ok.hd hc) pl (by simpa using strsAre_of r) few fun h' tk set keep=>fin h' tk set keep
    · obtain ⟨its,r,pl,_⟩:=I1.list hq
      exact X7m (I1.ok.hd hc) pl.isList (by simpa using strsAre_of r) few fun h' tk set keep=>fin h' tk set keep⟩
end
end Bv
namespace Bv
open PySem PySem.Spec L2
open PyProof.Rows hiding St
structure ClsM (K:PySem.W.Frag) (C m:Str):Prop where
  rd:ClX.CRead K (He.ga K C) (.type "type")
  me:ClX.CMet K (He.ga K C) (.type "type") m (He.ma K (He.ga K C) m) (X5q C m K)
def W8s (C m:Str) (K:PySem.W.Frag):Bool:=PySem.W.readsIn K (He.ga K C) (.type "type") && (He.eqO (PySem.W.specialIn K (.ref (He.ga K C)) "__getattribute__") (some (some (.builtin "type.__getattribute__"))) &&
  ((match PySem.W.findCls K (.ref (He.ga K C)) (.type "type") m with
    | some (.get (.builtin id) (.ref p) .none (.ref c))=>decide (id = "classmethod.__get__") && (decide (p=He.ma K (He.ga K C) m) && decide (c=He.ga K C))
    | _=>false) && ((match PySem.W.recIn K (He.ma K (He.ga K C) m) "classmethod" with
    | some (.ref _ :: _)=>true
    | _=>false) && PySem.W.fnIn K (X5q C m K))))
theorem W3u {C m:Str} {K:PySem.W.Frag} (h:W8s C m K=true):ClsM K C m:=by
  obtain ⟨c1,h⟩:=He.ba h
  obtain ⟨c2,h⟩:=He.ba h
  obtain ⟨c3,h⟩:=He.ba h
  obtain ⟨c4,c5⟩:=He.ba h
  refine ⟨⟨c1,He.eqO_ok c2⟩,⟨?_,?_,c5⟩⟩
  · split at c3
    · rename_i id p c q
      obtain ⟨e1,e2⟩:=He.ba c3
      obtain ⟨e2,e3⟩:=He.ba e2
      obtain rfl:=of_decide_eq_true e1
      obtain rfl:=of_decide_eq_true e2
      obtain rfl:=of_decide_eq_true e3
      exact q
    · cases c3
  · split at c4
    · rename_i g rest q
      refine ⟨rest,?_⟩
      have e:X5q C m K=g:=by unfold X5q; rw [q]
      rw [e]; exact q
    · cases c4
def Z7d (C:Str) (g:List Bv.X→Sto→R Bv.X) (mo:M) (ms:MG (List Bv.X)):M:=fun e S=>(mo e S).bind fun x S1=>match x with
  | .d (.gl D)=>if decide (D=C) then (ms e S1).bind fun xs S2=>g (x :: xs) S2 else .bad
  | _ => .bad
section
variable [HasW] {X:Cx} {Wx:WX} {n:Nat} {x:Str} {p pos apos:Pos} {e o:Expr} {es:List Expr} {ms:MG (List Bv.X)} {mo m:M} {g:List Bv.X→Sto→R Bv.X} {C mth:Str} {pl:Sem Bool}
theorem W4q (cc:X5f X Wx (.ref (X5q C mth X.K)) n g) (k:ClsM X.K C mth) (ho:ME X Wx o mo) (ha:MA X Wx (e :: es) ms) (hst:starEach (e :: es) X.env=(false,eval e X.env) :: starEach es X.env:=by rfl) (hpl:(backTo pos (starEach es X.env)).any (·.1)=false:=by rfl)
    (ht:eval (.Call (.Attribute o mth apos) (e :: es) [] pos) X.env=(do
      let ov ← eval o X.env
      standAt apos.atName
      let (f,first) ← holding [ov] (getMethod ov mth pl)
      callWith pos f first (backTo pos (starEach (e :: es) X.env)) (backToKw pos (keywordEach [] X.env))):=by rfl):ME X Wx (.Call (.Attribute o mth apos) (e :: es) [] pos) (Z7d C (Y8 n g) mo ms):=⟨fun pins s σ H Q I ⟨Z,ρ,e,S,st,ev,q⟩=>by
  refine PySem.W.methodCall_KW (pl:=pl) (thn (ho.run pins s σ H _ I (X6 (R':=fun v H1=>v = .ref (He.ga X.K C)∧∃ (ρ1:List Addr) (S1:Sto),Sta X.K Z ρ1 S1 H1∧EvOk X.K (Wn Z ρ1) ρ1 H1 e σ∧W5 (AX X.K) X.K Z ρ1 H1 Wx σ Q ((ms e S1).bind fun xs S2=>Y8 n g (.d (.gl C) :: xs) S2)) st ev q
    fun ρ1 H1 v y S1 s1 g1 ev1 a1 p1=>by
      cases a1 with
      | r _=>exact p1.elim
      | d a =>
        cases a with
        | gl D =>
          have p2:W5 (AX X.K) X.K Z ρ1 H1 Wx σ Q (if decide (D=C) then (ms e S1).bind fun xs S2=>Y8 n g (.d (.gl D) :: xs) S2 else .bad):=p1
          clear p1
          by_cases hd:D=C
          · rw [if_pos (decide_eq_true hd)] at p2
            subst hd
            exact ⟨rfl,ρ1,S1,s1,ev1,p2⟩
          · rw [if_neg (by simpa using hd)] at p2; exact p2.elim
        | _=>exact p1.elim)) fun u s1 ⟨x,H1,I1,rx,ex,ρ1,S1,st1,ev1,p1⟩=>?_) ht
  subst ex
  obtain rfl:u=Value.ref (He.ga X.K C):=rx
  refine ClX.getmethcm_ok I1 k.rd k.me fun s2 I2=>?_
  refine ClX.callwith_cm I2 (ClX.base_none I1 (Nat.le_refl _)) k.me.fi (thn (ha.run pos _ s2 σ H1 _ I2 (X6 (R':=fun vs H2=>∃ (ρ2:List Addr) (xs:List Bv.X) (S2:Sto),Sta X.K Z ρ2 S2 H2∧AXs X.K (Wn Z ρ2) ρ2 H2 xs vs∧W5 (AX X.K) X.K Z ρ2 H2 Wx σ Q (Y8 n g (.d (.gl C) :: xs) S2)) st1 ev1 p1
    fun ρ2 H2 v xs S2 s2 g2 ev2 a2 p2=>⟨ρ2,xs,S2,s2,a2,p2⟩)) fun us s3 ⟨vs,H2,I3,rv,ρ2,xs,S2,st2,a2,p2⟩=>⟨⟨ClX.pin_at I3,I3.kIn⟩,?_⟩) hst hpl
  obtain ⟨hl,p3⟩:=ari (rel:=W5 (AX X.K) X.K Z ρ2 H2 Wx σ Q) (fun z=>z) p2
  have aa:AXs X.K (Wn Z ρ2) ρ2 H2 (.d (.gl C) :: xs) (V.ref (He.ga X.K C) :: vs) := .cons (.d (.gl C)) a2
  have z:=wpAny_call (PySem.W.method_call (ClX.pin_at I3) (cc _ s3 σ H2 Q (.ref (He.ga X.K C) :: us) (.ref (He.ga X.K C) :: vs) Z ρ2 _ S2 I3 (.cons rfl rv) st2 aa (by rw [← Paired.length aa]; exact hl) p3))
  exact thn z fun _ _ y=>ClX.unpinE y⟩
def Z7c (i:Nat) (C:Str) (g:List Bv.X→Sto→R Bv.X) (ms:MG (List Bv.X)):M:=fun e S=>(Z1 i e S).bind fun x S1=>match x with
  | .d (.gl D)=>if decide (D=C) then (ms e S1).bind g else .bad
  | _ => .bad
theorem Y9r (i:Nat) (c:X5f X Wx (.ref (He.ga X.K C)) n g) (hk:PySem.W.keepIn X.K (.ref (He.ga X.K C))=true) (ha:MA X Wx (e :: es) ms) (hN:X.N[i]?=some x:=by rfl) (hv:Vis X.env.scope x:=by first | exact Or.inl rfl | exact Or.inr (Or.inl rfl) | exact Or.inr (Or.inr rfl))
    (hdb:(x == ("__debug__" : Str))=false:=by decide) (hcd:(x == ("__classdict__" : Str))=false:=by decide) (he:starEach (e :: es) X.env=(false,eval e X.env) :: starEach es X.env:=by rfl) (hpl:(backTo pos (starEach es X.env)).any (·.1)=false:=by rfl) :
    ME X Wx (.Call (.Name x p) (e :: es) [] pos) (Z7c i C (Y8 n g) ms):=⟨fun pins s σ H Q I ⟨Z,ρ,e,S,st,ev,q⟩=>by
  refine wpAny_Call_Name_kw (thn ((Z3 (Wx:=Wx) (pos:=p) i hN hv hdb hcd).run pins s σ H _ I (X6 (R':=fun v H1=>v = .ref (He.ga X.K C)∧∃ (ρ1:List Addr) (S1:Sto),Sta X.K Z ρ1 S1 H1∧EvOk X.K (Wn Z ρ1) ρ1 H1 e σ∧W5 (AX X.K) X.K Z ρ1 H1 Wx σ Q ((ms e S1).bind (Y8 n g))) st ev q
    fun ρ1 H1 v y S1 s1 g1 ev1 a1 p1=>by
      cases a1 with
      | r _=>exact p1.elim
      | d a =>
        cases a with
        | gl D =>
          have p2:W5 (AX X.K) X.K Z ρ1 H1 Wx σ Q (if decide (D=C) then (ms e S1).bind (Y8 n g) else .bad):=p1
          clear p1
          by_cases hd:D=C
          · rw [if_pos (decide_eq_true hd)] at p2
            subst hd
            exact ⟨rfl,ρ1,S1,s1,ev1,p2⟩
          · rw [if_neg (by simpa using hd)] at p2; exact p2.elim
        | _=>exact p1.elim)) fun u s1 ⟨x,H1,I1,rx,ex,ρ1,S1,st1,ev1,p1⟩=>?_)
  subst ex
  obtain rfl:u=Value.ref (He.ga X.K C):=rx
  refine PySem.W.callWith_K (h₀:=X.base) I1.ok.mod.kin hk (thn (ha.run pos pins s1 σ H1 _ I1 (X6 (R':=fun vs H2=>∃ (ρ2:List Addr) (xs:List Bv.X) (S2:Sto),Sta X.K Z ρ2 S2 H2∧AXs X.K (Wn Z ρ2) ρ2 H2 xs vs∧W5 (AX X.K) X.K Z ρ2 H2 Wx σ Q (Y8 n g xs S2)) st1 ev1 p1
    fun ρ2 H2 v xs S2 s2 g2 ev2 a2 p2=>⟨ρ2,xs,S2,s2,a2,p2⟩)) fun us s2 ⟨vs,H2,I2,r,ρ2,xs,S2,st2,a2,p2⟩=>⟨I2.kIn,?_⟩) he hpl
  obtain ⟨hl,p3⟩:=ari (rel:=W5 (AX X.K) X.K Z ρ2 H2 Wx σ Q) (fun z=>z) p2
  exact wpAny_call (c pins s2 σ H2 Q us vs Z ρ2 xs S2 I2 r st2 a2 (by rw [← Paired.length a2]; exact hl) p3)⟩
def X5g (m:MS):MS:=fun e S=>match m e S with
  | .err _ _ _ _ => .bad
  | r=>r
theorem X8u {body:List Stmt} {h0:ExceptHandler} {hs:List ExceptHandler} {mb:MS} (hb:MPs X.nox WX0 body mb):MP X Wx (.Try body (h0 :: hs) [] [] pos) (X5g mb):=PS.of (ps_try_thru0 hb) fun D σ H ⟨Z,ρ,e,S,st,ev,q⟩=>by
  refine ⟨Z,ρ,e,S,st,ev,?_⟩
  unfold X5g at q
  cases z:mb e S with
  | bad=>rw [z] at q; exact q
  | err _ _ _ _=>rw [z] at q; exact q.elim
  | go o S'=>rw [z] at q; cases o <;> exact q
theorem Here.nox {k:Nat} (h:Here X Wx k):Here X.nox WX0 k:=⟨Xq.tk0,h.gu,h.room⟩
def Y78 (i:Nat) (f:D→D→Option D) (m:M):MS:=fun e S=>(Z1 i e S).so e fun x S1=>(m e S1).so e fun y S2=>(op2 f S2 x y).so e fun z S3 => .go (.nx (e.set i (some z))) S3
def W61:D→D→Option D:=ii fun i j=>some (.int (i + j))
theorem W5d {K:PySem.W.Frag}:Op2 K (ipI fun i j=>i + j) W61:=fun W H d1 d2 v1 v2 d Q hw a1 a2 e k=>by
  obtain ⟨i,j,rfl,rfl,e⟩:=Y9h e
  cases e
  exact ⟨i,j,a1.int_inv,a2.int_inv,k H _ (Same.refl H) (.int _)⟩
theorem W4z {i:Nat} {f:D→D→Option D} {op:Operator} {ti:TIp} {pos':Pos} (hN:X.N.Nodup) (hi:X.N[i]?=some x) (hx:Loc X.env.scope x) (he:ME X Wx e m) (ho:PIp X op ti) (hf:Op2 X.K ti f)
    (hc:X.fn x=true ∨ X.env.scope.names.lookup x=some .local:=by first | exact .inl rfl | exact .inr rfl | assumption):MP X Wx (.AugAssign (.Name x pos') op e pos) (Y78 i f m):=PS.of (ps_aug hN hi hx he ho hc) fun D σ H ⟨Z,ρ,e,S,st,ev,q⟩=>by
  unfold Y78 Z1 at q
  cases z:e[i]? with
  | none=>rw [z] at q; exact q.elim
  | some o =>
    cases o with
    | none=>rw [z] at q; exact q.elim
    | some y =>
      rw [z] at q
      obtain ⟨v,h1,h2⟩:=ev.at_ i y z
      refine ⟨v,h1,Z1i st ev (show Z3j X.K Z ρ H Wx D ((m e S).so e fun w S2=>(op2 f S2 y w).so e fun z S3 => .go (.nx (e.set i (some z))) S3) from q) fun ρ1 H1 u w S1 s1 g1 ev1 a1 p1=>?_⟩
      have b1:=h2.mv (g1.mv st) g1.pre
      unfold op2 at p1
      cases e1:y.get S1 with
      | none=>rw [e1] at p1; exact p1.elim
      | some d1 =>
        cases e2:w.get S1 with
        | none=>rw [e1,e2] at p1; exact p1.elim
        | some d2 =>
          rw [e1,e2] at p1
          cases e3:f d1 d2 with
          | none=>simp only [e3] at p1; exact p1.elim
          | some d =>
            simp only [e3] at p1
            exact hf (Wn Z ρ1) H1 d1 d2 v u d _ (fun _ h=>s1.thereW h) (b1.get s1 e1) (a1.get s1 e2) e3 fun H' v' k a =>
              p1 ρ1 H' _ (s1.grow k) (Go.grow k) ((ev1.mv ((Go.grow k).mv s1) (List.prefix_refl _)).set (.d a))
end
end Bv
namespace Bv
open PySem PySem.Spec L2
open PyProof.Rows hiding St
variable [HasW]
theorem W00 {X:Cx} {Wx:WX} {pos p tpos:Pos} {kt:Nat} {a b c:Expr} {m:M} {tab:List (String × Bool)} {own:List (Str × Bool)} {u1 u2:Value} {c1 c2:V} (hg:Gl X "isinstance") (hm:X.mg "isinstance" = none) (he:ME X Wx a m) (hc1:PE X b (tC c1)) (hc2:PE X c (tC c2)) (T:IsTs X.K [u1,u2] tab own) (k1:ClsV c1 u1) (k2:ClsV c2 u2)
    (ht1:starEach [b,c] X.env=(false,eval b X.env) :: starEach [c] X.env:=by rfl) (ht2:starEach [c] X.env=(false,eval c X.env) :: starEach [] X.env:=by rfl)
    (hs:starEach [a, .Tuple [b,c] kt tpos] X.env=(false,eval a X.env) :: starEach [.Tuple [b,c] kt tpos] X.env:=by rfl) (hs2:starEach [.Tuple [b,c] kt tpos] X.env=(false,eval (.Tuple [b,c] kt tpos) X.env) :: starEach [] X.env:=by rfl)
    (hpl:(backTo pos (starEach [.Tuple [b,c] kt tpos] X.env)).any (·.1)=false:=by rfl):ME X Wx (.Call (.Name "isinstance" p) [a, .Tuple [b,c] kt tpos] [] pos) (Z6b tab own m):=PE.of (pe_callB call_isiT hg hm (by rfl) (pa_cons he (pa_cons (pe_tup (pa_cons hc1 (pa_cons hc2 pa_nil ht2) ht1)) pa_nil hs2) hs) (by decide) (by decide) hs hpl) fun σ H Q ⟨Z,ρ,e,S,st,ev,q⟩=>X6 st ev q fun ρ1 H1 v x S1 s1 g1 ev1 a1 p1=>by
  obtain ⟨w,hw,p2⟩:=p1.opt
  obtain ⟨b,h1,h2⟩:=Option.map_eq_some_iff.mp hw
  subst h2
  refine ⟨Nat.le_trans (show [c1,c2].length ≤ 2 from Nat.le_refl _) (by decide),fun r hr=>?_⟩
  have k:=U9 (o:=HO.tup [c1,c2]) hr
  have s2:=s1.grow k
  obtain ⟨t,ty,kt⟩:=W0m T s2 (a1.mv ((Go.grow k).mv s1) (List.prefix_refl _)) h1
  exact ⟨v,r,[c1,c2],t,[u1,u2],b,rfl,upd_same, .cons k1 (.cons k2 .nil),ty,kt,W5.ret p2 s1 k (.d (.bl b))⟩
end Bv
namespace Bv
open PySem PySem.Spec L2
open PyProof.Rows hiding St
variable [HasW]
def Z9o (l:List Str):Bool:=l.all fun z=>PyData.strOk z
def Z17 (a:Str) (y:Bv.X) (S:Sto):R Bv.X:=match y with
  | .d (.str b)=>if !(b.length == 0) && decide (a.length + 2 ≤ sizeLine) && Z9o (Txt.split a b) then .ok (.d (.lst ((Txt.split a b).map .str))) S else .bad
  | _ => .bad
theorem Y46 {K:PySem.W.Frag} {W:Wd} {H:Hp}:∀ {l:List Str},Z9o l=true→AVs K W H (l.map D.str) (l.map V.str)
  | [],_ => .nil
  | z :: r,h=>by
    have h2:(PyData.strOk z && Z9o r)=true:=h
    rw [Bool.and_eq_true] at h2
    exact .cons (.str h2.1) (Y46 h2.2)
section
variable {X:Cx} {Wx:WX} {pos apos:Pos} {o e:Expr} {mo m:M}
theorem X6y {Z:Wd} {ρ:List Addr} {S:Sto} {H:Hp} {σ:L2.St} {Q:VK} {l:List Str} (st:Sta X.K Z ρ S H) (h:Z9o l=true) (p:W5 (AX X.K) X.K Z ρ H Wx σ Q (.ok (.d (.lst (l.map .str))) S)):∀ q,H q=none→Q (.ref q) (upd H q (.lst (l.map V.str))) :=
  fun q hq=>W5.ret p st (U9 hq) (.d (Z81 (fun z hz=>st.thereW hz) hq (Y46 h)))
theorem Z9h (ho:ME X Wx o mo) (he:ME X Wx e m) (hs:starEach [e] X.env=[(false,eval e X.env)]:=by rfl) (hbase:attributeBase o "split" X.env (eval o X.env)=eval o X.env:=by rfl) (hline:(apos.endLine == pos.line)=true:=by rfl) :
    ME X Wx (.Call (.Attribute o "split" apos) [e] [] pos) (Z2s Z17 mo m):=PE.of (pe_split ho he hs hbase hline) fun σ H Q ⟨Z,ρ,e,S,st,ev,p⟩=>X6 st ev p fun ρ1 H1 v x S1 s1 g1 ev1 a1 p1=>by
  cases a1 with
  | r _=>exact p1.elim
  | d a =>
    cases a with
    | str hz =>
      rename_i z
      refine ⟨⟨z,rfl⟩,X6 s1 ev1 (show W5 (AX X.K) X.K Z ρ1 H1 Wx σ Q ((m e S1).bind fun y S2=>Z17 z y S2) from p1) fun ρ2 H2 u y S2 s2 g2 ev2 a2 p2=>?_⟩
      unfold Z17 at p2
      split at p2
      · rename_i b
        split at p2
        · rename_i hc
          rw [Bool.and_eq_true,Bool.and_eq_true] at hc
          obtain ⟨⟨c1,c2⟩,c3⟩:=hc
          cases a2 with
          | d a2 =>
            cases a2 with
            | str hb=>exact ⟨z,b,rfl,rfl,by simpa using c1,of_decide_eq_true c2,X6y s2 c3 p2⟩
        · exact p2.elim
      · exact p2.elim
    | _=>exact p1.elim
end
end Bv
namespace Bv
open PySem PySem.Spec L2
open PyProof.Rows hiding St
variable [HasW]
def ItE (K:PySem.W.Frag) (a:Addr):It :=
  ⟨fun i H=>∃ xs x,SqT K H a xs∧xs[i]?=some x,fun i H v H'=>∃ T x,v = .ref T∧H T=none∧H'=upd H T (.tup [.int (i:Nat),x])∧∀ xs,SqT K H a xs→xs[i]?=some x,fun i H=>∃ xs:List V,SqT K H a xs∧xs.length ≤ i⟩
theorem X2h {prog:Program} {w:World} {A:Around} {it a:Addr} {i:Nat} {items:Array Value} (hh:A.handled=none) (no:items[i]?=none):Draws prog w A it [it,a] i (fun _ _=>True) (fun j h=>j=i∧h.IsTupleIter it a i∧h.IsTuple a items) where
  live:=fun _ _ st=>let ⟨o,ho,_⟩:=st.2.1; ⟨o,ho⟩
  frame:=fun _ _ _ st hk=>⟨st.1,st.2.1.at fun o e=>hk it (by simp) o e,st.2.2.at fun o e=>hk a (by simp) o e⟩
  item:=fun j s Q E hj st _=>absurd st.1 (Nat.ne_of_lt hj)
  done:=fun s Q E st hE=>wpAny_nextOf_tuple_end hh st.2.1 st.2.2 no hE
theorem X1n {P:Program} {w:World} {K:PySem.W.Frag} {elts:List Expr} {kk:Nat} {tpos:Pos} (a e it:Addr) :
    Turn P w K (.Tuple elts kk tpos) (ItE K a) [e,it] e (fun i h=>(∃ old,IsEnum h e it ((i:Nat):Int) old)∧h.IsTupleIter it a i∧e ≠ it∧a ≠ it∧e ≠ a) where
  mem:=by simp
  obj:=fun i h st b hb=>by
    obtain ⟨⟨old,he⟩,⟨o,ho,hc,hd⟩,_⟩:=st
    rcases (show b=e ∨ b=it by simpa using hb) with z | z
    · rw [z]; exact ⟨_,he,fun v q=>nomatch q⟩
    · rw [z]; exact ⟨o,ho,fun v q=>by rw [hd] at q; cases q⟩
  keep:=fun i h h' st k=>let ⟨⟨old,he⟩,hi,hne⟩:=st; ⟨⟨old,k e (by simp) _ he⟩,hi.at fun o q=>k it (by simp) o q,hne⟩
  item:=by
    intro X hP hw hK hc i pins s σ H E I hf st hg
    subst hP hw hK
    obtain ⟨⟨old,he⟩,hit,hne,hai,hea⟩:=st
    obtain ⟨xs,x,hq,hx⟩:=hg
    obtain ⟨its,rv,p,hz⟩:=I.tuple hq
    obtain ⟨u,hu,ru⟩:=rv.get hx
    have el:e < s.heap.objs.size:=Heap.lt_size he
    have il:it < s.heap.objs.size:=by obtain ⟨_,q,_⟩:=hit; exact Heap.lt_size q
    have lt:i < its.toArray.size:=by
      have:=(List.getElem?_eq_some_iff.mp hu).1
      simpa using this
    refine wpAny_pyNext_enum_itemD (Draws.tuple (A:=X.A.in1) (show X.A.in1.handled=none from I.ok.hd hc) it a hai its.toArray) he ⟨hit,p⟩ lt hne (by simp; exact ⟨hne,hea⟩) fun y h' tk hy ho hit' hT hsz hk=>?_
    have ey:y=u:=by
      have hy:its.toArray[i]?=some y:=hy
      have hu':its.toArray[i]?=some u:=by simpa using hu
      rw [hy] at hu'
      exact Option.some.inj hu'
    subst ey
    refine ⟨_,rfl,wpAny_letOwnedTupleGo_enum (s:={ s with heap:=h',toks:=tk + 1 }) ho fun h'' he' sb=>?_⟩
    have hT2:h''.get? s.heap.objs.size=some { cls := .type "tuple",data := .seq #[.int i tk,y] }:=(sb.2 _ (Nat.ne_of_gt el)).trans hT
    have new:ObjOk X.prog X.w (upd H s.heap.objs.size (.tup [.int (i:Nat),x])) h'' s.heap.objs.size (.tup [.int (i:Nat),x]):=⟨(by decide:2 ≤ sizeLine),[.int i tk,y], .cons ⟨_,rfl⟩ (.cons ru .nil),⟨_,hT2,rfl,_,rfl⟩⟩
    have I1:Inv X pins σ (upd H s.heap.objs.size (.tup [.int (i:Nat),x])) { s with heap:=h'',toks:=tk + 1 } :=
      I.turnedNew (ch:=[e,it]) (fun b ob hb q=>(sb.2 b (fun z=>hb (by simp [z]))).trans (hk b ob (fun z=>hb (by simp [z])) (fun z=>hb (by simp [z])) q)) hf (Nat.le_refl _) new
    refine ⟨.ref s.heap.objs.size,_,I1,rfl,⟨_,x,rfl,I.hok.fresh (Nat.le_refl _),rfl,fun ys hy=>by rw [I.tuple_inj hy hq]; exact hx⟩,⟨⟨y,?_⟩,hit'.1.at fun o q=>(sb.2 it (Ne.symm hne)).trans q,hne,hai,hea⟩,fun b hb=>?_⟩
    · rw [show ((i + 1:Nat):Int)=(i:Int) + 1 by omega]; exact he'
    · have hb':b < s.heap.objs.size:=by
        rcases (show b=e ∨ b=it by simpa using hb) with z | z
        · rw [z]; exact el
        · rw [z]; exact il
      rw [upd_ne (Nat.ne_of_lt hb')]
      exact (hf b hb).1
  done:=by
    intro X hP hw hK hc i pins s σ H E I hf st hg
    subst hP hw hK
    obtain ⟨⟨old,he⟩,hit,hne,hai,hea⟩:=st
    obtain ⟨xs,hq,hx⟩:=hg
    obtain ⟨its,rv,p,hz⟩:=I.tuple hq
    obtain ⟨f0,f1,f2,f3,f4,f5⟩:=hf it (by simp)
    have no:its.toArray[i]?=none:=by
      have:=rv.length
      simp; omega
    exact wpAny_pyNext_enum_endD (X2h (A:=X.A.in1) (show X.A.in1.handled=none from I.ok.hd hc) no) he ⟨rfl,hit,p⟩ fun h' eb=>⟨rfl,I.turned (t':=s.toks) (fun b o hb q=>eb b o hb q) f0 f1 f3 f4 f5⟩
  self:=fun A i s Q E st h=>let ⟨⟨_,he⟩,_⟩:=st; wpAny_pyIter_enum he h
end Bv
namespace PySem
open Sem (wp)
open AutoSeq1 (wpAny_loadPart')
theorem enumT_new (t:Addr) (items:Array Value) (n:Nat) (dct:Option Addr) (sl:Array (Option Value)) :
    Meets (Builtin.«enumerate.__new__» ⟨[.type "enumerate", .ref t],[]⟩) (fun _ R s=>s.heap.get? t=some { cls := .type "tuple",dict:=dct,data := .seq items n,slots:=sl } ∧
      R (.ok (.ret (.ref (s.heap.push { cls := .type "tuple_iterator",data := .fields #[.ref t, .int 0 0] }).objs.size))) { s with heap:=(s.heap.push { cls := .type "tuple_iterator",data := .fields #[.ref t, .int 0 0] }).push { cls := .type "enumerate",data := .fields #[.none, .bool false, .ref s.heap.objs.size,rawInt 0, .none, .none] } }) :=
  .of_wp fun prog w A R s q=>by
    obtain ⟨hp,g,d,tk,os⟩:=s
    obtain ⟨ht,fin⟩:=q
    have below:=sub_enumerate
    have isT:Heap.IsTuple (Shared.heap ⟨hp,g,d,tk,os⟩) t items:=⟨_,ht,rfl,n,rfl⟩
    wp_walk using wpAny_loadPart' ht
    refine (wpAny_stack_any fun st=>wpAny_pure ?_)
    split
    · rename_i c _ _ _ _ _
      cases (c == Value.type "enumerate") <;> (wp_walk using wpAny_loadPart' ht,wpAny_pyIter_tuple isT; exact ⟨_,rfl,fin⟩)
    · wp_walk using wpAny_loadPart' ht,wpAny_pyIter_tuple isT
      exact ⟨_,rfl,fin⟩
theorem call_enumT {prog:Program} {w:World} {A:Around} {E:Value→Shared→Prop} {s:Shared} {t:Addr} {items:Array Value} {Q:Value→Shared→Prop} (hT:s.heap.IsTuple t items)
    (fin:∀ h',IsEnum h' (s.heap.objs.size + 1) s.heap.objs.size 0 .none→h'.IsTupleIter s.heap.objs.size t 0→h'.objs.size=s.heap.objs.size + 2→(∀ b o,s.heap.get? b=some o→h'.get? b=some o)→Q (.ref (s.heap.objs.size + 1)) { s with heap:=h' }) :
    wpAny (model prog w) A (call (.type "enumerate") [.ref t]) Q E s:=by
  obtain ⟨⟨c,dct,dt,sl⟩,ht,hc,n,hd⟩:=hT
  obtain rfl:c = .type "tuple" := hc
  obtain rfl:dt = .seq items n:=hd
  refine callType_new F.called_enumerate (by decide) (F.typeCall_enumerate_1 _) (F.newCall_enumerate_1 _) (fun obj=>F.args_object_init_2 obj _) F.entry_enumerate_new (enumT_new t items n dct sl) ⟨ht,?_⟩
  have z:(s.heap.push { cls := .type "tuple_iterator",data := .fields #[.ref t, .int 0 0] }).objs.size=s.heap.objs.size + 1:=Heap.size_push ..
  show _∧_
  rw [z]
  have en:IsEnum ((s.heap.push { cls := .type "tuple_iterator",data := .fields #[.ref t, .int 0 0] }).push { cls := .type "enumerate",data := .fields #[.none, .bool false, .ref s.heap.objs.size,rawInt 0, .none, .none] }) (s.heap.objs.size + 1) s.heap.objs.size 0 .none:=by
    have y:=Heap.get?_push_size (s.heap.push { cls := .type "tuple_iterator",data := .fields #[.ref t, .int 0 0] }) (o:={ cls := .type "enumerate",data := .fields #[.none, .bool false, .ref s.heap.objs.size,rawInt 0, .none, .none] }) rfl
    rw [z] at y
    exact y
  exact ⟨⟨_,en,rfl⟩,fin _ en ⟨_,Heap.get?_push_of_some _ (Heap.get?_push_size _ rfl),rfl,rfl⟩ (by rw [Heap.size_push,z]) fun b o x=>Heap.get?_push_of_some _ (Heap.get?_push_of_some _ x)⟩
end PySem
namespace Bv
open PySem PySem.Spec L2
open PyProof.Rows hiding St
variable [HasW]
def W38 (K:PySem.W.Frag) (ta:TA):TI:=fun σ H R=>ta σ H fun vs H1=>∃ a xs,vs=[.ref a]∧((SqL K H1 a xs∧R (Ite K a) H1) ∨ (SqT K H1 a xs∧R (ItE K a) H1))
theorem X7b {X:Cx} {e:Expr} {ta:TA} {p pos tpos:Pos} {elts:List Expr} {kk:Nat} (hg:Gl X "enumerate") (hm:X.mg "enumerate" = none) (ha:PA X [e] ta) (hs:starEach [e] X.env=[(false,eval e X.env)]:=by rfl) :
    PI X (.Tuple elts kk tpos) (.Call (.Name "enumerate" p) [e] [] pos) (W38 X.K ta):=⟨fun pins s σ H R I h=>by
  refine Call_ (ld_blt I hg hm boot_enumerate (callWith_type1 (thn (ha.run pos pins s σ H _ I h) fun us s1 ⟨vs,H1,I1,r1,a,xs,ex,q1⟩=>?_) hs rfl))
  subst ex
  cases r1 with
  | cons r rr =>
    cases rr
    cases r
    have two:∀ b ∈ [s1.heap.objs.size + 1,s1.heap.objs.size],FpOk X pins H1 b:=fun b hb=>by
      have le:s1.heap.objs.size ≤ b:=by
        rcases (show b=s1.heap.objs.size + 1 ∨ b=s1.heap.objs.size by simpa using hb) with z | z
        · rw [z]; exact Nat.le_add_right _ _
        · rw [z]; exact Nat.le_refl _
      exact I1.fpOk le (I1.hok.fresh le)
    rcases q1 with ⟨hq,q⟩ | ⟨hq,q⟩
    · obtain ⟨its,rv,pl,_⟩:=I1.list hq
      exact call_enumerate_list pl.isList fun h' he hit hsz hk=>wpAny_pyIter_enum he ⟨s1.heap.objs.size + 1,[s1.heap.objs.size + 1,s1.heap.objs.size],_,_,H1,rfl,I1.kept (t':=s1.toks) hk,turn_enum a (s1.heap.objs.size + 1) s1.heap.objs.size,⟨⟨.none,he⟩,hit,Nat.succ_ne_self _⟩,two,q⟩
    · obtain ⟨its,rv,pl,_⟩:=I1.tuple hq
      have lt:a < s1.heap.objs.size:=by obtain ⟨o,ho,_⟩:=id pl; exact Heap.lt_size ho
      exact call_enumT (show s1.heap.IsTuple a its.toArray from pl) fun h' he hit hsz hk=>wpAny_pyIter_enum he ⟨s1.heap.objs.size + 1,[s1.heap.objs.size + 1,s1.heap.objs.size],_,_,H1,rfl,I1.kept (t':=s1.toks) hk,X1n a (s1.heap.objs.size + 1) s1.heap.objs.size,⟨⟨.none,he⟩,hit,Nat.succ_ne_self _,Nat.ne_of_lt lt,Nat.ne_of_gt (Nat.lt_succ_of_lt lt)⟩,two,q⟩⟩
theorem X1p {K:PySem.W.Frag} {a:Addr} {xs:List V}:Walk (ItE K a) xs.length (fun H=>SqT K H a xs) (YPair (fun i=>some (.int (i:Nat))) (fun i=>xs[i]?)) :=
  ⟨fun i _ hi q=>⟨xs,xs[i],q,by simp [hi]⟩,fun _ q=>⟨xs,q,Nat.le_refl _⟩,fun i H v H' _ q ⟨T,x,h1,h2,h3,h4⟩=>⟨T, .int (i:Nat),x,h1,h2,h3,rfl,h4 xs q⟩⟩
def numbered (ds:List D):List Bv.X:=(List.range ds.length).zipWith (fun (i:Nat) d=>Bv.X.d (.tup [.int (i:Nat),d])) ds
def X92:List Bv.X→Option (List Bv.X × Lk)
  | [.d (.lst ds)]=>some (numbered ds, .free)
  | [.d (.tup ds)]=>some (numbered ds, .free)
  | _=>none
def X72 (S:Sto):List Bv.X→Option (List Bv.X × Lk)
  | [.r n]=>(match S[n]? with
    | some (.lst xs)=>(match ds? xs with
      | some ds=>some (numbered ds, .lst n xs)
      | none=>none)
    | _=>none)
  | xs=>X92 xs
def Z4z (ms:MG (List Bv.X)):MIt:=fun e S=>(ms e S).bind fun xs S1=>Z04 (X72 S1 xs) S1
theorem Z83 {ds:List D} {i:Nat} {d:D} (h:ds[i]?=some d):(numbered ds)[i]?=some (.d (.tup [.int (i:Nat),d])):=by
  have lt:=(List.getElem?_eq_some_iff.mp h).1
  unfold numbered
  rw [List.getElem?_zipWith,h]
  simp [lt]
theorem Z5r (ds:List D):(numbered ds).length=ds.length:=by simp [numbered]
theorem Y6p {K:PySem.W.Frag} {W:Wd} {ρ:List Addr} {H:Hp} {J:It} {G:Hp→Prop} {xs:List V} {ds:List D} (hs:AVs K W H ds xs) (w:Walk J xs.length G (YPair (fun i=>some (.int (i:Nat))) (fun i=>xs[i]?)))
    (hg:∀ (Z2:Wd) (ρ2:List Addr) (H2:Hp),Mv W H (Wn Z2 ρ2) H2→G H2):Srv K W ρ H (numbered ds, .free) J :=
  ⟨G,_,by rw [show (numbered ds,Lk.free).1.length=xs.length by rw [show (numbered ds,Lk.free).1=numbered ds from rfl,Z5r,hs.length]]; exact w,fun Z2 ρ2 S2 H2 st m p fz k=>⟨hg Z2 ρ2 H2 m,fun i x H3 y=>by
    obtain ⟨T,u,v,rfl,hT,rfl,h1,h2⟩:=y
    cases h1
    obtain ⟨d,h3,h4⟩:=(hs.mv m).at_ h2
    have kp:=U9 (o:=HO.tup [.int (i:Nat),v]) hT
    exact ⟨kp,_,Z83 h3, .d (.tup (.inl ⟨st.fresh hT,upd_same⟩) (.cons (.int _) (.cons (h4.mv (Z4k kp)) .nil)))⟩⟩⟩
theorem X1o {K:PySem.W.Frag} {a:Addr} (n:Nat):Walk (Ite K a) n (fun H=>∃ xs,xs.length=n∧SqL K H a xs) (fun i H v H'=>∃ T x,v = .ref T∧H T=none∧H'=upd H T (.tup [.int (i:Nat),x])∧∀ xs,SqL K H a xs→xs[i]?=some x) :=
  ⟨fun i _ hi ⟨xs,e,q⟩=>⟨xs,xs[i]'(by omega),q,by simp [show i < xs.length by omega]⟩,fun _ ⟨xs,e,q⟩=>⟨xs,q,by omega⟩,fun _ _ _ _ _ _ y=>y⟩
theorem X1h {K:PySem.W.Frag} {W:Wd} {ρ:List Addr} {H:Hp} {a:Addr} {n:Nat} {ds:List D} (h:ρ[n]?=some a):Srv K W ρ H (numbered ds, .lst n (ds.map Bv.X.d)) (Ite K a) :=
  ⟨_,_,by rw [show (numbered ds,Lk.lst n (ds.map Bv.X.d)).1.length=ds.length from Z5r ds]; exact X1o ds.length,fun Z2 ρ2 S2 H2 st m p fz k=>by
    have k:(match S2[n]? with
      | some (.lst zs)=>decide (zs=ds.map Bv.X.d)
      | _=>false)=true:=k
    cases q2:S2[n]? with
    | none=>rw [q2] at k; cases k
    | some o2 =>
      rw [q2] at k
      cases o2 with
      | lst zs =>
        have k:zs=ds.map Bv.X.d:=of_decide_eq_true k
        subst k
        have h':ρ2[n]?=some a:=by
          obtain ⟨t,rfl⟩:=p
          rw [List.getElem?_append_left (List.getElem?_eq_some_iff.mp h).1]; exact h
        obtain ⟨us,h3,h4⟩:=st.ob n _ _ q2 h'
        have hl:us.length=ds.length:=by
          have:=Paired.length h4
          rw [List.length_map] at this
          exact this.symm
        refine ⟨⟨us,hl, .inl (.inl h3)⟩,fun i x H3 y=>?_⟩
        obtain ⟨T,u,rfl,hT,rfl,y⟩:=y
        obtain ⟨b,h5,h6⟩:=Y4w h4 (y us (.inl (.inl h3)))
        rw [List.getElem?_map] at h5
        cases hd:ds[i]? with
        | none=>rw [hd] at h5; cases h5
        | some d =>
          rw [hd] at h5
          cases h5
          cases h6 with
          | d h6 =>
            have kp:=U9 (o:=HO.tup [.int (i:Nat),u]) hT
            exact ⟨kp,_,Z83 hd, .d (.tup (.inl ⟨st.fresh hT,upd_same⟩) (.cons (.int _) (.cons (h6.mv (Z4k kp)) .nil)))⟩
      | _=>cases k⟩
theorem W7c {xs:List Bv.X}:∀ {ds:List D},ds? xs=some ds→xs=ds.map Bv.X.d:=by
  induction xs with
  | nil=>intro ds h; cases h; rfl
  | cons x r ih =>
    intro ds h
    cases x with
    | r n=>cases h
    | d v =>
      have h:(match Bv.X.d v,ds? r with
        | .d v,some l=>some (v :: l)
        | _,_=>none)=some ds:=h
      cases q:ds? r with
      | none=>rw [q] at h; cases h
      | some l=>rw [q] at h; cases h; rw [ih q]; rfl
theorem Y4q {X:Cx} {Wx:WX} {e:Expr} {ms:MG (List Bv.X)} {p pos tpos:Pos} {elts:List Expr} {kk:Nat} (hg:Gl X "enumerate") (hm:X.mg "enumerate" = none) (ha:MA X Wx [e] ms) (hs:starEach [e] X.env=[(false,eval e X.env)]:=by rfl) :
    MI X Wx (.Tuple elts kk tpos) (.Call (.Name "enumerate" p) [e] [] pos) (Z4z ms):=PI.of (X7b hg hm ha hs) fun σ H R ⟨Z,ρ,e,S,st,ev,p⟩=>X6 st ev p fun ρ1 H1 v xs S1 st1 g1 ev1 a1 p1=>by
  obtain ⟨w,hw,p2⟩:=p1.opt
  unfold X72 at hw
  split at hw
  · rename_i n
    cases a1 with
    | cons ha t =>
      cases t
      cases ha with
      | r h =>
        rename_i a
        cases q:S1[n]? with
        | none=>rw [q] at hw; cases hw
        | some o =>
          rw [q] at hw
          cases o with
          | lst xs =>
            have hw:(match ds? xs with
              | some ds=>some (numbered ds,Lk.lst n xs)
              | none=>none)=some w:=hw
            cases q3:ds? xs with
            | none=>rw [q3] at hw; cases hw
            | some ds =>
              rw [q3] at hw
              cases hw
              have exs:=W7c q3
              subst exs
              obtain ⟨vs,h1,h2⟩:=st1.ob n _ _ q h
              exact ⟨_,_,rfl, .inl ⟨.inl (.inl h1),W5.ret0 p2 st1 (X1h h)⟩⟩
          | _=>cases hw
  · unfold X92 at hw
    split at hw
    · cases hw
      obtain ⟨v,rfl,a⟩:=X37 a1
      cases a with
      | lst w r hs=>exact ⟨_,_,rfl, .inl ⟨.inl (.inl r),W5.ret0 p2 st1 (Y6p hs walk_enum fun Z2 ρ2 H2 m => .inl (.inl (m _ _ w r).2))⟩⟩
    · cases hw
      obtain ⟨v,rfl,a⟩:=X37 a1
      cases a with
      | tup t hs=>exact ⟨_,_,rfl, .inr ⟨t.sq,W5.ret0 p2 st1 (Y6p hs X1p fun Z2 ρ2 H2 m=>(m.tp t).sq)⟩⟩
    · cases hw
end Bv
namespace Bv
open PySem PySem.Spec L2
open PyProof.Rows hiding St
variable [HasW]
def ItM (K:PySem.W.Frag) (a b:Addr):It :=
  ⟨fun i H=>∃ (xs ys:List V) (x y:V),SqT K H a xs∧SqL K H b ys∧xs[i]?=some x∧ys[i]?=some y,
    fun i H v H'=>∃ T x y,v = .ref T∧H T=none∧H'=upd H T (.tup [x,y])∧(∀ xs,SqT K H a xs→xs[i]?=some x)∧∀ ys,SqL K H b ys→ys[i]?=some y,
    fun i H=>∃ xs ys:List V,SqT K H a xs∧SqL K H b ys∧((i ≤ xs.length∧i ≤ ys.length)∧(i=xs.length ∨ i=ys.length))⟩
theorem W9o {z TI TO i1 i2 a b:Addr} (D:ZipApart z TI TO i1 i2 a b):ZipSep2 z TI TO i1 i2 [i1,a] [i2,b] where
  TIz:=D.TIz
  TOz:=D.TOz
  TITO:=D.TITO
  TIi1:=D.TIi1
  mem1:=by simp
  zf1:=by simp; exact ⟨Ne.symm D.i1z,Ne.symm D.l1z⟩
  Tf1:=by simp; exact ⟨D.TOi1,Ne.symm D.l1TO⟩
  TIi2:=D.TIi2
  mem2:=by simp
  zf2:=by simp; exact ⟨Ne.symm D.i2z,Ne.symm D.l2z⟩
  Tf2:=by simp; exact ⟨D.TOi2,Ne.symm D.l2TO⟩
  sep1_2:=by simp; exact ⟨D.i12,Ne.symm D.l2i1⟩
  sep2_1:=by simp; exact ⟨Ne.symm D.i12,Ne.symm D.l1i2⟩
theorem X48 {P:Program} {w:World} {K:PySem.W.Frag} {elts:List Expr} {kk:Nat} {tpos:Pos} {a b z TI TO i1 i2:Addr} (D:ZipApart z TI TO i1 i2 a b) :
    Turn P w K (.Tuple elts kk tpos) (ItM K a b) [z,TI,TO,i1,i2] z (fun i h=>IsZip h z TI TO .none∧IsTupOf2 h TI (.ref i1) (.ref i2)∧(∃ x y,IsTupOf2 h TO x y)∧h.IsTupleIter i1 a i∧h.IsListIter i2 b i) where
  mem:=by simp
  obj:=fun i h st c hc=>by
    obtain ⟨hz,hTI,⟨x,y,hTO⟩,⟨o1,e1,_,d1⟩,⟨o2,e2,_,d2⟩⟩:=st
    rcases (show c=z ∨ c=TI ∨ c=TO ∨ c=i1 ∨ c=i2 by simpa using hc) with q | q | q | q | q <;> rw [q]
    · exact ⟨_,hz,fun v q=>nomatch q⟩
    · exact ⟨_,hTI,fun v q=>nomatch q⟩
    · exact ⟨_,hTO,fun v q=>nomatch q⟩
    · exact ⟨o1,e1,fun v q=>by rw [d1] at q; cases q⟩
    · exact ⟨o2,e2,fun v q=>by rw [d2] at q; cases q⟩
  keep:=fun i h h' st k=>by
    obtain ⟨hz,hTI,⟨x,y,hTO⟩,h1,h2⟩:=st
    exact ⟨k z (by simp) _ hz,k TI (by simp) _ hTI,⟨x,y,k TO (by simp) _ hTO⟩,h1.at fun o q=>k i1 (by simp) o q,h2.at fun o q=>k i2 (by simp) o q⟩
  item:=by
    intro X hP hw hK hc i pins s σ H E I hf st hg
    subst hP hw hK
    obtain ⟨hz,hTI,⟨x0,y0,hTO⟩,h1,h2⟩:=st
    obtain ⟨xs,ys,x,y,hqx,hqy,hx,hy⟩:=hg
    obtain ⟨its,rv,p,_⟩:=I.tuple hqx
    obtain ⟨its2,rv2,p2,_⟩:=I.list hqy
    obtain ⟨u,hu,ru⟩:=rv.get hx
    obtain ⟨u2,hu2,ru2⟩:=rv2.get hy
    have zl:z < s.heap.objs.size:=Heap.lt_size hz
    have hh:X.A.in1.handled=none:=I.ok.hd hc
    refine wpAny_pyNext_zipD2_item (W9o D) (Draws.tuple hh i1 a D.l1i1 its.toArray) (Draws.list hh i2 b D.l2i2 its2.toArray) hz hTI hTO ⟨h1,p⟩ ⟨h2,p2.isList⟩ (by have:=(List.getElem?_eq_some_iff.mp hu).1; simpa using this) (by have:=(List.getElem?_eq_some_iff.mp hu2).1; simpa using this)
      fun y1 y2 h' tk e1 e2 z' TO' s1 s2 hT hsz hk=>?_
    obtain rfl:y1=u:=by
      have e1:its.toArray[i]?=some y1:=e1
      rw [List.getElem?_toArray,hu] at e1; exact (Option.some.inj e1).symm
    obtain rfl:y2=u2:=by
      have e2:its2.toArray[i]?=some y2:=e2
      rw [List.getElem?_toArray,hu2] at e2; exact (Option.some.inj e2).symm
    refine ⟨_,rfl,wpAny_letOwnedTupleGo_zip (s:={ s with heap:=h',toks:=tk }) z' fun h'' z'' sb=>?_⟩
    have hT2:h''.get? s.heap.objs.size=some { cls := .type "tuple",data := .seq #[y1,y2] }:=(sb.2 _ (Nat.ne_of_gt zl)).trans hT
    have new:ObjOk X.prog X.w (upd H s.heap.objs.size (.tup [x,y])) h'' s.heap.objs.size (.tup [x,y]):=⟨(by decide:2 ≤ sizeLine),[y1,y2], .cons ru (.cons ru2 .nil),⟨_,hT2,rfl,_,rfl⟩⟩
    have I1:Inv X pins σ (upd H s.heap.objs.size (.tup [x,y])) { s with heap:=h'',toks:=tk } :=
      I.turnedNew (ch:=[z,TI,TO,i1,i2]) (fun c o hb q=>(sb.2 c (fun q'=>hb (by simp [q']))).trans (hk c o (fun q'=>hb (by simp [q'])) (fun q'=>hb (by simp [q'])) (fun q'=>hb (by simp [q'])) (fun q'=>hb (by simp [q'])) q)) hf (Nat.le_refl _) new
    refine ⟨.ref s.heap.objs.size,_,I1,rfl,⟨_,x,y,rfl,I.hok.fresh (Nat.le_refl _),rfl,fun l hl=>by rw [I.tuple_inj hl hqx]; exact hx,fun l hl=>by rw [I.list_inj hl hqy]; exact hy⟩,⟨z'',(sb.2 _ D.TIz).trans (hk _ _ D.TIz D.TITO D.TIi1 D.TIi2 hTI),⟨y1,y2,(sb.2 _ D.TOz).trans TO'⟩,s1.1.at fun o q=>(sb.2 _ D.i1z).trans q,s2.1.at fun o q=>(sb.2 _ D.i2z).trans q⟩,fun c hcm=>?_⟩
    have lt:c < s.heap.objs.size:=by
      rcases (show c=z ∨ c=TI ∨ c=TO ∨ c=i1 ∨ c=i2 by simpa using hcm) with q | q | q | q | q <;> rw [q]
      · exact zl
      · exact Heap.lt_size hTI
      · exact Heap.lt_size hTO
      · obtain ⟨_,e1,_⟩:=h1; exact Heap.lt_size e1
      · obtain ⟨_,e2,_⟩:=h2; exact Heap.lt_size e2
    rw [upd_ne (Nat.ne_of_lt lt)]
    exact (hf c hcm).1
  done:=by
    intro X hP hw hK hc i pins s σ H E I hf st hg
    subst hP hw hK
    obtain ⟨hz,hTI,⟨x0,y0,hTO⟩,h1,h2⟩:=st
    obtain ⟨xs,ys,hqx,hqy,⟨le1,le2⟩,hend⟩:=hg
    obtain ⟨its,rv,p,_⟩:=I.tuple hqx
    obtain ⟨its2,rv2,p2,_⟩:=I.list hqy
    have l1:=rv.length
    have l2:=rv2.length
    have hh:X.A.in1.handled=none:=I.ok.hd hc
    exact wpAny_pyNext_zipD2_end (W9o D) (Draws.tuple hh i1 a D.l1i1 its.toArray) (Draws.list hh i2 b D.l2i2 its2.toArray) hz hTI hTO ⟨h1,p⟩ ⟨h2,p2.isList⟩ (by simp; omega) (by simp; omega) (by simp; omega)
      fun h' tk hk=>⟨rfl,I.turnedL (t':=tk) (ch:=[z,TI,TO,i1,i2]) (fun c o hb q=>hk c o (fun q'=>hb (by simp [q'])) (fun q'=>hb (by simp [q'])) (fun q'=>hb (by simp [q'])) (fun q'=>hb (by simp [q'])) q) hf⟩
  self:=fun A i s Q E st h=>wpAny_pyIter_zip st.1 h
end Bv
namespace Bv
open PySem PySem.Spec L2
open PyProof.Rows hiding St
variable [HasW]
def W7o (K:PySem.W.Frag) (ta:TA):TI:=fun σ H R=>ta σ H fun vs H1=>∃ a b xs ys,vs=[.ref a, .ref b]∧SqT K H1 a xs∧SqL K H1 b ys∧R (ItM K a b) H1
theorem W1w {X:Cx} {e e2:Expr} {ta:TA} {p pos tpos:Pos} {elts:List Expr} {kk:Nat} (hg:Gl X "zip") (hm:X.mg "zip" = none) (ha:PA X [e,e2] ta) (hs:starEach [e,e2] X.env=(false,eval e X.env) :: starEach [e2] X.env:=by rfl) (hpl:(backTo pos (starEach [e2] X.env)).any (·.1)=false:=by rfl) :
    PI X (.Tuple elts kk tpos) (.Call (.Name "zip" p) [e,e2] [] pos) (W7o X.K ta):=⟨fun pins s σ H R I h=>by
  refine Call_ (ld_blt I hg hm boot_zip (callWith_type1 (thn (ha.run pos pins s σ H _ I h) fun us s1 ⟨vs,H1,I1,r1,a,b,xs,ys,ex,hqx,hqy,q⟩=>?_) hs hpl))
  subst ex
  cases r1 with
  | cons r rr =>
    cases rr with
    | cons r' rr =>
      cases rr
      cases r
      cases r'
      obtain ⟨its,rv,p1,_⟩:=I1.tuple hqx
      obtain ⟨its2,rv2,p2,_⟩:=I1.list hqy
      have lt1:a < s1.heap.objs.size:=by obtain ⟨o,ho,_⟩:=id p1; exact Heap.lt_size ho
      have five:∀ c ∈ [s1.heap.objs.size + 4,s1.heap.objs.size + 2,s1.heap.objs.size + 3,s1.heap.objs.size,s1.heap.objs.size + 1],FpOk X pins H1 c:=fun c hc=>by
        have le:s1.heap.objs.size ≤ c:=by
          simp only [List.mem_cons,List.not_mem_nil,or_false] at hc
          rcases hc with z | z | z | z | z <;> rw [z] <;> first | exact Nat.le_refl _ | exact Nat.le_add_right _ _
        exact I1.fpOk le (I1.hok.fresh le)
      exact zip_begins2 (begins_tuple a its.toArray) (begins_list b its2.toArray) (show s1.heap.IsTuple a its.toArray from p1) p2.isList fun h' hz hTI hTO g1 g2 hsz hk=>wpAny_pyIter_zip hz
        ⟨s1.heap.objs.size + 4,[s1.heap.objs.size + 4,s1.heap.objs.size + 2,s1.heap.objs.size + 3,s1.heap.objs.size,s1.heap.objs.size + 1],_,_,H1,rfl,I1.kept (t':=s1.toks) hk,X48 (PySem.W.ktu_apart s1.heap.objs.size a b lt1 p2.lt),⟨hz,hTI,⟨_,_,hTO⟩,⟨_,g1,rfl,rfl⟩,⟨_,g2,rfl,rfl⟩⟩,five,q⟩⟩
theorem X5c {K:PySem.W.Frag} {a b:Addr} {xs ys:List V}:Walk (ItM K a b) (min xs.length ys.length) (fun H=>SqT K H a xs∧SqL K H b ys) (YPair (fun i=>xs[i]?) (fun i=>ys[i]?)) :=
  ⟨fun i _ hi q=>⟨xs,ys,xs[i]'(by omega),ys[i]'(by omega),q.1,q.2,by simp [show i < xs.length by omega],by simp [show i < ys.length by omega]⟩,fun _ q=>⟨xs,ys,q.1,q.2,by omega⟩,
    fun i H v H' _ q ⟨T,x,y,h1,h2,h3,h4,h5⟩=>⟨T,x,y,h1,h2,h3,h4 xs q.1,h5 ys q.2⟩⟩
def Z8p (ds es:List D):List Bv.X:=List.zipWith (fun d e=>Bv.X.d (.tup [d,e])) ds es
def W9n:List Bv.X→Option (List Bv.X × Lk)
  | [.d (.tup ds), .d (.lst es)]=>some (Z8p ds es, .free)
  | _=>none
def X2z (ms:MG (List Bv.X)):MIt:=fun e S=>(ms e S).bind fun xs S1=>Z04 (W9n xs) S1
theorem W4y {X:Cx} {Wx:WX} {e e2:Expr} {ms:MG (List Bv.X)} {p pos tpos:Pos} {elts:List Expr} {kk:Nat} (hg:Gl X "zip") (hm:X.mg "zip" = none) (ha:MA X Wx [e,e2] ms) (hs:starEach [e,e2] X.env=(false,eval e X.env) :: starEach [e2] X.env:=by rfl) (hpl:(backTo pos (starEach [e2] X.env)).any (·.1)=false:=by rfl) :
    MI X Wx (.Tuple elts kk tpos) (.Call (.Name "zip" p) [e,e2] [] pos) (X2z ms):=PI.of (W1w hg hm ha hs hpl) fun σ H R ⟨Z,ρ,e,S,st,ev,p⟩=>X6 st ev p fun ρ1 H1 v xs S1 st1 g1 ev1 a1 p1=>by
  obtain ⟨w,hw,p2⟩:=p1.opt
  unfold W9n at hw
  split at hw
  · rename_i ds es
    cases hw
    cases a1 with
    | cons h1 t =>
      cases t with
      | cons h2 t =>
        cases t
        cases h1 with
        | d h1 =>
          cases h2 with
          | d h2 =>
            cases h1 with
            | tup t1 hs1 =>
              cases h2 with
              | lst w2 r2 hs2 =>
                rename_i a us b ws
                refine ⟨a,b,us,ws,rfl,t1.sq, .inl (.inl r2),W5.ret0 p2 st1 ⟨fun H=>SqT X.K H a us∧SqL X.K H b ws,YPair (fun i=>us[i]?) (fun i=>ws[i]?),?_,fun Z2 ρ2 S2 H2 st m p fz k=>⟨⟨(m.tp t1).sq, .inl (.inl (m _ _ w2 r2).2)⟩,fun i x H3 y=>?_⟩⟩⟩
                · rw [show (Z8p ds es,Lk.free).1.length=min us.length ws.length by simp [Z8p,hs1.length,hs2.length]]; exact X5c
                · obtain ⟨T,u,v,rfl,hT,rfl,q1,q2⟩:=y
                  obtain ⟨d1,q3,q4⟩:=(hs1.mv m).at_ q1
                  obtain ⟨d2,q5,q6⟩:=(hs2.mv m).at_ q2
                  have kp:=U9 (o:=HO.tup [u,v]) hT
                  exact ⟨kp, .d (.tup [d1,d2]),by simp [Z8p,List.getElem?_zipWith,q3,q5], .d (.tup (.inl ⟨st.fresh hT,upd_same⟩) (.cons (q4.mv (Z4k kp)) (.cons (q6.mv (Z4k kp)) .nil)))⟩
  · cases hw
end Bv
namespace PySem
open Sem (wp)
open AutoSeq1 (wpAny_loadPart')
open MeetsSeq MeetsSeq2 MeetsSeq3 SeqRoads2
namespace BvIn
section
variable {prog:Program} {w:World} {A:Around} {E:Value→Shared→Prop} {s:Shared}
end
end BvIn
end PySem
namespace Bv
open PySem PySem.Spec L2
open PyProof.Rows hiding St
structure OwnSub (K:PySem.W.Frag) (C:Str):Prop where
  st:PySem.W.subIn K (.ref (He.ga K C)) (.type "str")=some false
  no:PySem.W.subIn K (.ref (He.ga K C)) (.type "NoneType")=some false
  tu:PySem.W.subIn K (.ref (He.ga K C)) (.type "tuple")=some false
variable [HasW]
section
variable {X:Cx} {k:Nat} {f:Addr} {fd:FuncData} {ps:List Str} {g:List D→PR} {C:Str}
end
section
variable {X:Cx} {Wx:WX} {k j:Nat} {C:Str} {g:List D→PR}
end
end Bv
namespace PySem
open Sem (wp)
open AutoSeq1 (wpAny_loadPart')
open MeetsSeq MeetsSeq2 MeetsSeq3 SeqRoads2
namespace BvTu
section
variable {prog:Program} {w:World} {A:Around} {R:Result→Shared→Prop}
variable {E:Value→Shared→Prop} {s:Shared}
end
end BvTu
end PySem
namespace Bv
open PySem PySem.Spec L2
open PyProof.Rows hiding St
variable [HasW]
section
variable {X:Cx} {k:Nat} {f:Addr} {fd:FuncData} {ps:List Str} {g:List D→PR} {C:Str}
end
def Y5t (m:M):M:=fun e S=>(m e S).bind fun x S1=>Z04 ((Z2v x).map fun i => .d (.int (-i))) S1
section
variable {X:Cx} {Wx:WX} {k j:Nat} {C:Str} {g:List D→PR} {pos:Pos} {a:Expr} {m:M}
theorem X3e (h:ME X Wx a m):ME X Wx (.UnaryOp .USub a pos) (Y5t m):=PE.of (pe_un un_neg h) fun σ H Q ⟨Z,ρ,e,S,st,ev,p⟩=>X6 st ev p fun ρ1 H1 v x S1 s1 g1 ev1 a1 p1=>by
  obtain ⟨w,hw,p2⟩:=p1.opt
  obtain ⟨i,h1,h2⟩:=Option.map_eq_some_iff.mp hw
  subst h2
  exact ⟨i,a1.int h1,W5.ret0 p2 s1 (.d (.int _))⟩
end
end Bv
namespace Bv
open PySem PySem.Spec L2
open PyProof.Rows hiding St
variable [HasW]
section
variable {X:Cx} {Wx:WX} {pos apos:Pos} {o e:Expr} {mo m:M}
end
end Bv
namespace Bv
open PySem PySem.Spec L2
open PyProof.Rows hiding St
variable [HasW]
end Bv
namespace Xe
open PySem PySem.W PySem.Calls PyProof.Rows PySem.HandSPX
structure TailF (newId:String) (bm:List Value):Prop where
  new:∃ (Bn inN:String) (bmN:List Value),ExcBaseFacts Bn newId inN bmN∧bm.contains (.type Bn)=true
  noA:bm.contains (.type "AttributeError")=false
  noN:bm.contains (.type "NameError")=false
structure InitF (B initId:String):Prop where
  init:Slot B "__init__" initId
  entry:entryFor table initId=some Builtin.«BaseException.__init__»
  kind:builtinKind initId=some .slot
  row:Manifest.signature? initId=some ⟨.positional, "*",B, .self,[⟨"args", .varPos,false⟩]⟩
  star:(B != "*")=true
section
variable {prog:Program} {w:World} {M:Model} {A:Around} {E:Value→Shared→Prop} {R:Result→Shared→Prop} {h:Heap} {g:Array GenState} {d:Drawn} {t:Nat} {os:OsState}
variable {nm q:Str} {C N:Addr} {bs bm:List Value} {hdct:Bool} {sn:List Str} {sub:List Value} {ab:Bool} {col:Option Bool} {dd:Option Addr} {k0 k1 k2 k3 k5:Option Value} {B newId initId:String}
end
end Xe
namespace Xe
open PySem PySem.W PySem.Calls PyProof.Rows PySem.HandSPX
def W7d (p:Str) (a1 a2:Pos):Arguments:={ posonlyargs:=[],args:=[{ arg := "self",annotation:=none,pos:=a1 },{ arg:=p,annotation:=none,pos:=a2 }],vararg:=none,kwonlyargs:=[],kw_defaults:=[],kwarg:=none,defaults:=[] }
def W7e (p:Str) (p0 p1 p2 p3 p4 p5 q1 q2 q3 q4:Pos):List Stmt :=
  [.Expr (.Call (.Attribute (.Call (.Name "super" p0) [] [] p1) "__init__" p2) [.Name p p3] [] p4) p5, .Assign [.Attribute (.Name "self" q1) p q2] (.Name p q3) q4]
def eSc (p:Str):Scope:={ kind := .function,names:=[("self", .local),(p, .local),("__class__", .free),("super", .globalImplicit)],isGenerator:=false,isCoroutine:=false,more:=[] }
def EHe (p:Str) (p0 p1 p2 p3 p4:Pos):Prop:=∀ env:Env,∃ pl:Sem Bool,eval (.Call (.Attribute (.Call (.Name "super" p0) [] [] p1) "__init__" p2) [.Name p p3] [] p4) env=(do
  let ov ← attributeBase (.Call (.Name "super" p0) [] [] p1) "__init__" env (eval (.Call (.Name "super" p0) [] [] p1) env)
  standAt p2.atName
  let (f,first) ← holding [ov] (getMethod ov "__init__" pl)
  callWith p4 f first (backTo p4 (starEach [.Name p p3] env)) [])
def W9r (p:Str):Prop:=p = "word" ∨ p = "at" ∨ p = "name"
structure EBase (B newId initId:String) (bmB:List Value):Prop where
  T:TailF newId bmB
  I:InitF B initId
  K:KxsFacts B initId
  S:StoreFacts B bmB "object.__setattr__" "object"
structure ErrT (prog:Program) (K:Frag) (C fI:Addr) (p:Str) (B newId initId:String) (bmB:List Value):Prop where
  ini:excInitIn K C bmB newId=true
  over:excOver K C bmB=true
  hdC:hasDictIn K C=true
  sa:findIn K (.ref C) "__setattr__" = some (some (.builtin "object.__setattr__"))
  noP:findIn K (.ref C) p=some none
  iC:findIn K (.ref C) "__init__" = some (some (.ref fI))
  tC:typeIn K (.ref fI)=some (.type "function")
  kC:keepIn K (.ref C)=true
  exC:subIn K (.ref C) (.type "BaseException")=some true
  exB:subIn K (.ref C) (.type B)=some true
  tyC:typeIn K (.ref C)=some (.type "type")
  opq:nsIn K cStatics "thirdparty.any" = some none
  sup:ks_superIn K C C "__init__" = some (some (.builtin initId))
  mro:mroIn K C (.ref C)=some true
  sg:nsIn K mainGlobals "super" = some none
  fn:∃ (oc:Value) (od:Option Addr) (doc pm:Value) (an:Option Addr) (cda cc:Addr) (ct:Value) (osl:Array (Option Value)) (qual:Str) (a1 a2 p0 p1 p2 p3 p4 p5 q1 q2 q3 q4:Pos),
    K.lookup fI=some ⟨oc,od, .func (ksFn "__init__" qual (W7d p a1 a2) (W7e p p0 p1 p2 p3 p4 p5 q1 q2 q3 q4) (eSc p) .none .none doc pm an (.ref cda) ct cc),osl⟩∧codeIn K (.ref cda) qual=true∧EHe p p0 p1 p2 p3 p4 ∧
    (∃ ccl cdd vs ccs file tf,K.lookup cda=some ⟨ccl,cdd, .fields vs,ccs⟩∧vs[2]?=some (.str file tf)∧((prog.main.file:Str) == file)=true) ∧
    (∃ cl cld csl,K.lookup cc=some ⟨cl,cld, .cell (some (.ref C)),csl⟩)
structure EMod (K:Frag) (base:Heap) (prog:Program):Prop where
  kin:K.In base
  ns:∃ mg,base.Ns mainGlobals mg
  blt:∃ mb,base.Ns builtinsNs mb∧∀ x:Str,x ≠ "__name__" → mb x=bootBuiltins x
  top:(prog.main.scope.names.lookup ("super" : Str)).isSome=false
structure EEnd (h h':Heap) (x C dx t1:Addr) (p:Str) (v:Value):Prop where
  keep:∀ b o,b ≠ x→h.get? b=some o→h'.get? b=some o
  obj:h'.get? x=some { cls := .ref C,dict:=some dx,data := .fields #[.ref t1, .none, .none, .none, .bool false, .none] }
  dbig:h.objs.size ≤ dx
  dne:dx ≠ x
  ns:h'.Ns1 dx (fun y=>if y=p then some v else none)
structure EMade (h h':Heap) (e C d:Addr) (p:Str) (v:Value):Prop where
  keep:∀ b o,h.get? b=some o→h'.get? b=some o
  new:h.objs.size ≤ e
  obj:∃ t1:Addr,h'.get? e=some ({ cls := .ref C,dict:=some d,data := .fields #[.ref t1, .none, .none, .none, .bool false, .none] }:Obj)
  dbig:h.objs.size ≤ d
  dne:d ≠ e
  ns:h'.Ns1 d (fun y=>if y=p then some v else none)
section
variable {prog:Program} {w:World} {A:Around} {E:Value→Shared→Prop} {R:Result→Shared→Prop} {K:Frag} {C fI:Addr} {p:Str} {B newId initId:String} {bmB:List Value} {base:Heap}
end
end Xe
namespace Xe
open PySem PySem.Spec PyProof.Rows L2
structure ErrOk (P:Program) (K:PySem.W.Frag) (C fI:Addr) (p:Str):Prop where
  ex:∃ B newId initId bmB,ErrT P K C fI p B newId initId bmB∧EBase B newId initId bmB
  par:W9r p
  top:(P.main.scope.names.lookup ("super" : Str)).isSome=false
section
variable {X:Cx} {C fI:Addr} {p:Str}
end
end Xe
namespace Xe
open PySem PySem.Spec PyProof.Rows L2
end Xe
namespace Bv
open PySem PySem.Spec L2
open PyProof.Rows hiding St
variable [HasW]
section
variable {X:Cx} {Wx:WX} {k:Nat} {pos pos2 np:Pos} {a:Expr} {ms:MG (List Bv.X)} {C p x:Str} {fI:Addr}
end
structure Err0 (K:PySem.W.Frag) (C:Addr):Prop where
  ini:PySem.W.excIn K C [.type "ValueError", .type "Exception", .type "BaseException", .type "object"] "ValueError.__new__" = true
  kC:PySem.W.keepIn K (.ref C)=true
  exC:PySem.W.subIn K (.ref C) (.type "BaseException")=some true
  tyC:PySem.W.typeIn K (.ref C)=some (.type "type")
section
variable {X:Cx} {Wx:WX} {k:Nat} {pos pos2 np:Pos} {C x:Str}
end
end Bv
namespace Bv
open PySem PySem.Spec L2
open PyProof.Rows hiding St
variable [HasW]
abbrev SX:=Str→List (Str × D)→Option D
abbrev SXs:=Str→List (Str × D)→Option (List D)
abbrev SXb:=Str→List (Str × D)→Option Bool
def W6y (K:PySem.W.Frag) (W:Wd) (H:Hp) (fs:List (Str × D)) (d:Option Addr):Prop:=(d=none∧fs=[]) ∨ ∃ (dd:Addr) (vs:List (Str × V)),d=some dd∧H dd=some (.xd vs)∧AVf K W H fs vs
structure SAt (lv:Ev) (K:PySem.W.Frag) (W:Wd) (i:Nat) (a:Addr) (fs:List (Str × D)) (d:Option Addr) (σ:L2.St) (H:Hp):Prop where
  there:∀ b,W b→∃ o,H b=some o
  slot:σ[i]?=some (some (.ref a))
  err:W6y K W H fs d
  loc:∀ (j:Nat) (v:D),lv[j]?=some (some (.d v))→∃ u,σ[j]?=some (some u)∧AV K W H v u
section
variable {lv:Ev} {X:Cx} {i:Nat} {n x:Str} {np p pos tpos:Pos} {e e1 e2 c t:Expr} {es rest:List Expr} {m m1 m2:SX} {ms:SXs} {mb mc:SXb}
end
end Bv
namespace Bv
open PySem PySem.Spec L2
open PyProof.Rows hiding St
variable [HasW]
section
variable {X:Cx} {Wx:WX} {k i j:Nat} {n y x:Str} {c:Value} {body:List Stmt} {np yp apos pos pos':Pos} {ex:Expr} {mb:MS} {m:SX} {tab:List (Str × Bool)}
end
end Bv
namespace Bv
open PySem PySem.Spec L2
open PyProof.Rows hiding St
structure ErrB where
  cls:Str
  qual:Str
  par:Str
  st:Stmt
abbrev W9w (C:Str) (K:PySem.W.Frag):Addr:=He.ma K (He.ga K C) "__init__"
def W53 (K:PySem.W.Frag) (d:ErrB):He.FnW:=match K.lookup (W9w d.cls K) with
  | some ⟨_,_, .func fd,_⟩=>some (fd.name,fd.qualname,fd.params,fd.body,fd.scope,fd.globals,[],fd.builtins)
  | _=>none
def ErrB.val (d:ErrB):He.FnW:=some ("__init__",d.qual,defArgs d.st, .stmts (defBody d.st),defScope d.st,mainGlobals,[],builtinsNs)
def W9g (ts:List (PySem.W.Frag→Bool)) (ds:List DefB) (xs:List ErrB) (K:PySem.W.Frag):AlB:=((ts.all fun t=>t K) && ds.all fun d=>d.ok K,(ds.map fun d=>seen K (d.ad K))++xs.map (W53 K))
def W8v (ds:List DefB) (xs:List ErrB):AlB:=(true,ds.map DefB.val++xs.map ErrB.val)
def X5i (ts:List (PySem.W.Frag→Bool)) (ds:List DefB) (xs:List ErrB) (K:PySem.W.Frag):Prop:=W9g ts ds xs K=W8v ds xs
section
variable {ts:List (PySem.W.Frag→Bool)} {ds:List DefB} {xs:List ErrB} {K:PySem.W.Frag}
theorem X5i.toB (c:X5i ts ds xs K):Y33 ts ds K:=by
  have e1:=congrArg (fun z:AlB=>z.1) c
  have e2:(ds.map fun d=>seen K (d.ad K))++xs.map (W53 K)=ds.map DefB.val++xs.map ErrB.val:=congrArg (fun z:AlB=>z.2) c
  have e3:=(List.append_inj e2 (by rw [List.length_map,List.length_map])).1
  unfold Y33 W9f W9m
  rw [e3]
  exact congrArg (fun b=>(b,ds.map DefB.val)) (show ((ts.all fun t=>t K) && ds.all fun d=>d.ok K)=true from e1)
end
inductive EB where
  | ve | ie | ke
end Bv
namespace Bv
open PySem PySem.Spec L2
open PyProof.Rows hiding St
section
open PySem.W PySem.Calls
theorem X7k {r:PySem.W.OpenRow} {q:Program} {H:PySem.W.Hook} {ob:PySem.W.SharedT→H.α} {M:Nat} {loose:List PySem.Str} {w:World}
    (h1:∀ os:OsState,(HandSHeadRun.endF (HandSHeadRun.stepQ (HandSHeadRun.denQ HandSHeadRun.tabQ) r.prog w) M r.prog w os).map (fun s=>HandSHeadRun.looksF r.prog (boot_heap w.params) s.abs)=some true)
    (h2:∀ os:OsState,(HandSHeadRun.endF (HandSHeadRun.stepQ (HandSHeadRun.denQ HandSHeadRun.tabQ) r.prog w) M r.prog w os).map (fun s=>HandSHeadRun.seenQ q loose (importedModules r.prog.main.body) (fun s=>xlAt q [] s && recOk r.toRowW.records s) s.abs)=some (openGood q loose))
    (h3:∀ os:OsState,(HandSHeadRun.endF (HandSHeadRun.stepQ (HandSHeadRun.denQ HandSHeadRun.tabQ) r.prog w) M r.prog w os).map ob=some (H.val w)):HandSHeadRun.RunEq r q H ob M loose w:=fun os=>by
  have g1:=h1 os
  have g2:=h2 os
  have g3:=h3 os
  cases e:HandSHeadRun.endF (HandSHeadRun.stepQ (HandSHeadRun.denQ HandSHeadRun.tabQ) r.prog w) M r.prog w os with
  | none=>rw [e] at g1; cases g1
  | some s =>
    rw [e,Option.map_some] at g1 g2 g3
    rw [Option.map_some]
    injection g1 with g1
    injection g2 with g2
    injection g3 with g3
    rw [g1,g2,g3]
end
end Bv
namespace Bv
open PySem PySem.Spec L2
open PyProof.Rows hiding St
def W99 (n:Nat):List Addr:=mainGlobals :: (List.range n).reverse
def X63 (n:Nat) (ts:List (PySem.W.Frag→Bool)) (ds:List DefB) (xs:List ErrB) (g:Addr→Option Obj):AlB:=W9g ts ds xs (He.frG g (W99 n))
def W37 (n:Nat) (ts:List (PySem.W.Frag→Bool)) (ds:List DefB) (xs:List ErrB):PySem.W.Hook where
  α:=AlB
  obs:=fun s=>X63 n ts ds xs s.heap.get?
  val:=fun _=>W8v ds xs
  says:=fun _ h=>∃ K:PySem.W.Frag,K.In h∧X5i ts ds xs K
  of:=fun _ _ e=>⟨_,He.frG_in,e⟩
  keeps:=fun _ _ _ ⟨K,i,c⟩ k=>⟨K,PySem.W.Frag.In.keeps i k,c⟩
theorem X64 {n:Nat} {ts:List (PySem.W.Frag→Bool)} {ds:List DefB} {xs:List ErrB} {g:Addr→Option Obj} {s:Shared} (h:∀ a,g a=s.heap.get? a):X63 n ts ds xs g=(W37 n ts ds xs).obs s:=by
  rw [show g=s.heap.get? from funext h]
  rfl
end Bv
set_option maxHeartbeats 0
namespace Lw
open PySem PySem.Spec L2 Bv
open PyProof.Rows hiding St
def top (i:Nat):Stmt:=PySem.Challenge.pw_wordingkept_k56_marks_that_are_one.main.body.getD i (.Pass ⟨0,0,0,0⟩)
abbrev Z0z:Stmt:=top 35
abbrev Z2c:Stmt:=top 36
abbrev Z2e:Stmt:=top 37
abbrev Z23:Stmt:=top 38
abbrev Z1o:Stmt:=top 39
abbrev Z02:Stmt:=top 44
abbrev Z1b:Stmt:=top 43
abbrev Z03:Stmt:=top 45
abbrev Z3a:Stmt:=top 14
abbrev Z2g:Stmt:=top 24
abbrev Z31:Stmt:=top 17
abbrev Z21:Stmt:=inClass (top 20) 0
abbrev Z22:Stmt:=inClass (top 20) 1
abbrev Z1p:Stmt:=top 15
abbrev Z1w:Stmt:=top 16
abbrev Z1v:Stmt:=top 23
abbrev Z0g:Stmt:=inClass (top 25) 0
abbrev Z2b:Stmt:=inClass (top 25) 1
abbrev Z05:Stmt:=top 40
abbrev Q3:Stmt:=top 41
abbrev Z1c:Stmt:=top 42
abbrev Z2d:Stmt:=top 46
abbrev Z33:Stmt:=top 27
abbrev Z20:Stmt:=inClass (top 20) 2
abbrev Z1a:Stmt:=inClass (top 25) 3
abbrev Z09:Stmt:=inClass (top 25) 4
abbrev Z2h:Stmt:=top 31
abbrev Z11:Stmt:=top 30
abbrev Z1x:Stmt:=top 32
abbrev Z4b:Stmt:=top 33
abbrev Z3z:Stmt:=inClass (top 20) 5
abbrev Z10:Stmt:=inClass (top 25) 10
abbrev Z32:Stmt:=top 28
abbrev Z5t:Stmt:=top 29
abbrev Z30:Stmt:=inClass (top 25) 9
abbrev Z8n:Stmt:=top 47
def xsL:List ErrB:=[]
def Y5d:DefB:=⟨fun K=>He.ga K "is_name", "is_name", "is_name",defArgs Z3a,defBody Z3a,defScope Z3a,[]⟩
def Z9b:DefB:=⟨fun K=>He.ga K "is_sequence", "is_sequence", "is_sequence",defArgs Z1p,defBody Z1p,defScope Z1p,[]⟩
def Y0j:DefB:=⟨fun K=>He.ga K "are_unlike", "are_unlike", "are_unlike",defArgs Z1w,defBody Z1w,defScope Z1w,[]⟩
def Y5e:DefB:=⟨fun K=>He.ga K "is_word", "is_word", "is_word",defArgs Z31,defBody Z31,defScope Z31,[]⟩
def Y3c:DefB:=⟨fun K=>He.ma K (He.ga K "Row") "fits", "fits", "Row.fits",defArgs Z20,defBody Z20,defScope Z20,[]⟩
def Y5b:DefB:=⟨fun K=>He.ma K (He.ga K "Row") "__str__", "__str__", "Row.__str__",defArgs Z3z,defBody Z3z,defScope Z3z,[]⟩
def Y5g:DefB:=⟨fun K=>He.ga K "told_of", "told_of", "told_of",defArgs Z33,defBody Z33,defScope Z33,[]⟩
def Y3i:DefB:=⟨fun K=>He.ga K "numbered", "numbered", "numbered",defArgs Z2h,defBody Z2h,defScope Z2h,[]⟩
def Y1w:DefB:=⟨fun K=>He.ga K "once_each", "once_each", "once_each",defArgs Z1x,defBody Z1x,defScope Z1x,[]⟩
def Z9a:DefB:=⟨fun K=>He.ga K "_law_source", "_law_source", "_law_source",defArgs Z0z,defBody Z0z,defScope Z0z,[]⟩
def Y1r:DefB:=⟨fun K=>He.ga K "_law_draw", "_law_draw", "_law_draw",defArgs Z2c,defBody Z2c,defScope Z2c,[]⟩
def Z66:DefB:=⟨fun K=>He.ga K "_law_row_line", "_law_row_line", "_law_row_line",defArgs Z05,defBody Z05,defScope Z05,[]⟩
def Z8f:DefB:=⟨fun K=>He.ga K "_law_becomes", "_law_becomes", "_law_becomes",defArgs Z1b,defBody Z1b,defScope Z1b,[]⟩
def Y1s:DefB:=⟨fun K=>He.ga K "_law_once", "_law_once", "_law_once",defArgs Z2d,defBody Z2d,defScope Z2d,[]⟩
def Z93:DefB:=⟨fun K=>He.ma K (He.ga K "Row") "__init__", "__init__", "Row.__init__",defArgs Z21,defBody Z21,defScope Z21,[.bl true]⟩
def Y1v:DefB:=⟨fun K=>He.ga K "are_names", "are_names", "are_names",defArgs Z1v,defBody Z1v,defScope Z1v,[]⟩
def Y3h:DefB:=⟨fun K=>He.ga K "names_in", "names_in", "names_in",defArgs Z2g,defBody Z2g,defScope Z2g,[]⟩
def Z8e:DefB:=⟨fun K=>He.ma K (He.ga K "Tool") "row_for", "row_for", "Tool.row_for",defArgs Z1a,defBody Z1a,defScope Z1a,[]⟩
def Y1t:DefB:=⟨fun K=>He.ga K "_law_pick", "_law_pick", "_law_pick",defArgs Z2e,defBody Z2e,defScope Z2e,[]⟩
def Z58:DefB:=⟨fun K=>He.ga K "_law_tool_lines", "_law_tool_lines", "_law_tool_lines",defArgs Q3,defBody Q3,defScope Q3,[]⟩
def Y0i:DefB:=⟨fun K=>He.ga K "_law_heads", "_law_heads", "_law_heads",defArgs Z03,defBody Z03,defScope Z03,[]⟩
def Z80:DefB:=⟨fun K=>He.ma K (He.ga K "Tool") "__init__", "__init__", "Tool.__init__",defArgs Z0g,defBody Z0g,defScope Z0g,[.adr (He.dflAt ("Tool",some "__init__") 0)]⟩
def Z8d:DefB:=⟨fun K=>He.ma K (He.ga K "Tool") "becomes", "becomes", "Tool.becomes",defArgs Z09,defBody Z09,defScope Z09,[]⟩
def Y3f:DefB:=⟨fun K=>He.ga K "_law_row", "_law_row", "_law_row",defArgs Z23,defBody Z23,defScope Z23,[]⟩
def Z8g:DefB:=⟨fun K=>He.ga K "_law_doubled", "_law_doubled", "_law_doubled",defArgs Z02,defBody Z02,defScope Z02,[]⟩
def Y3d:DefB:=⟨fun K=>X5q "Row" "read" K, "read", "Row.read",defArgs Z22,defBody Z22,defScope Z22,[]⟩
def Y3e:DefB:=⟨fun K=>He.ma K (He.ga K "Tool") "__str__", "__str__", "Tool.__str__",defArgs Z10,defBody Z10,defScope Z10,[]⟩
def Y5f:DefB:=⟨fun K=>He.ga K "parting", "parting", "parting",defArgs Z32,defBody Z32,defScope Z32,[]⟩
def Y3g:DefB:=⟨fun K=>He.ga K "heads_of", "heads_of", "heads_of",defArgs Z11,defBody Z11,defScope Z11,[]⟩
def Y1u:DefB:=⟨fun K=>He.ga K "_law_tool", "_law_tool", "_law_tool",defArgs Z1o,defBody Z1o,defScope Z1o,[]⟩
def Y1q:DefB:=⟨fun K=>X5q "Tool" "read" K, "read", "Tool.read",defArgs Z2b,defBody Z2b,defScope Z2b,[]⟩
def X2a:DefB:=⟨fun K=>He.ga K "alike", "alike", "alike",defArgs Z5t,defBody Z5t,defScope Z5t,[]⟩
def Y80:DefB:=⟨fun K=>He.ga K "merged", "merged", "merged",defArgs Z4b,defBody Z4b,defScope Z4b,[]⟩
def Z8h:DefB:=⟨fun K=>He.ga K "_law_tool_of", "_law_tool_of", "_law_tool_of",defArgs Z1c,defBody Z1c,defScope Z1c,[]⟩
def Y5c:DefB:=⟨fun K=>He.ma K (He.ga K "Tool") "__eq__", "__eq__", "Tool.__eq__",defArgs Z30,defBody Z30,defScope Z30,[]⟩
def W3v:DefB:=⟨fun K=>He.ga K "law", "law", "law",defArgs Z8n,defBody Z8n,defScope Z8n,[]⟩
def dsL:List DefB:=[Y5d,Z9b,Y0j,Y5e,Y3c,Y5b,Y5g,Y3i,Y1w,Z9a,Y1r,Z66,Z8f,Y1s,Z93,Y1v,Y3h,Z8e,Y1t,Z58,Y0i,Z80,Z8d,Y3f,Z8g,Y3d,Y3e,Y5f,Y3g,Y1u,Y1q,X2a,Y80,Z8h,Y5c,W3v]
def tsL:List (PySem.W.Frag→Bool):=[Z4c "len",
  Z4c "min",
  Z4c "max",
  Z4c "range",
  Z4c "int",
  Z4c "abs",
  Z3e "_law_source",
  Z3e "_law_draw",
  Z3e "_law_pick",
  Z3e "_law_row",
  Z4c "tuple",
  Z3e "_law_tool",
  Z4c "list",
  Z3e "_law_doubled",
  Z4c "enumerate",
  Z3e "_law_becomes",
  Z4c "dict",
  Z3e "_law_heads",
  Y27 "HEADS" ["marks", "shown", "asked"],
  Z3e "HEADS",
  Z4c "isinstance",
  X40 (fun K=>(.type "str")) (Y02 "str") [("Row",false),("Tool",false)],
  Z4c "str",
  Y27 "BARRED" ["any", "same", "take", "keep", "to"],
  Z3e "BARRED",
  W6f "MOST_LETTERS" 5,
  W6h "LETTERS" "abcdefghijklmnopqrstuvwxyz",
  Z4c "all",
  Z3e "is_name",
  Z3e "names_in",
  Y27 "TAKINGS" ["keep", "take"],
  Z3e "TAKINGS",
  Y27 "HAPPENINGS" ["give", "carry", "drop", "back", "right", "wrong"],
  Z3e "HAPPENINGS",
  Z3e "is_word",
  X40 (fun K=>(.type "bool")) (Y02 "bool") [("Row",false),("Tool",false)],
  Z4c "bool",
  Z8o ["Row"] "word",
  Z8o ["Row"] "old",
  Z8o ["Row"] "then",
  Z8o ["Row"] "take",
  W2x "Row",
  Z3e "Row",
  W8s "Row" "read",
  X9f [.type "list", .type "tuple"] (X43 ["list", "tuple"]) [("Row",false),("Tool",false)],
  Z3e "is_sequence",
  Z4c "set",
  Z3e "are_unlike",
  Z3e "are_names",
  X40 (fun K=>(.ref (He.ga K "Row"))) Z5k [("Row",true),("Tool",false)],
  Z4c "any",
  Z8o ["Tool"] "marks",
  Z8o ["Tool"] "shown",
  Z8o ["Tool"] "asked",
  Z8o ["Tool"] "rows",
  Z8o ["Tool"] "blank",
  W2x "Tool",
  Z3e "Tool",
  Z4c "zip",
  Z3e "_law_row_line",
  Z3e "_law_tool_lines",
  W8s "Tool" "read",
  Z3e "_law_tool_of",
  Z3e "_law_once",
  Z3e "told_of",
  Z4c "repr",
  W2w "Row",
  X41 "Row" "fits",
  W2w "Tool",
  X41 "Tool" "row_for",
  X41 "Tool" "becomes",
  Z3e "numbered",
  Z3e "heads_of",
  Z3e "once_each",
  Z3e "merged",
  W20 "Row",
  W20 "Tool",
  Z3e "parting",
  Z3e "alike",
  X40 (fun K=>(.ref (He.ga K "Tool"))) Z5k [("Row",false),("Tool",true)],
  W9k "Tool",
  Z3e "law",
  W6e ("Tool",some "__init__") 0]
def W4n:List PySem.Str:=["_wall", "WordError", "InvalidRow", "InvalidTool", "InvalidText", "NoRow", "NoMark", "HAPPENINGS", "BARRED", "LETTERS", "MOST_LETTERS", "is_integer", "is_name", "is_sequence", "are_unlike", "is_word", "TAKINGS", "Row", "HEADS", "are_names", "names_in", "Tool", "told_of", "parting", "alike", "heads_of", "numbered", "once_each", "merged", "_law_source"]
def W4o:List PySem.Str:=["_law_draw", "_law_pick", "_law_row", "_law_tool", "_law_row_line", "_law_tool_lines", "_law_tool_of", "_law_becomes", "_law_doubled", "_law_heads", "_law_once"]
def looseL:List PySem.Str:=W4n++W4o
abbrev Rw:PySem.W.OpenRow:=PySem.W.OpenLaw.row PySem.Challenge.rw_wordingkept_k56_marks_that_are_one
abbrev Vw:Program:=PySem.W.view Rw.prog [47]
abbrev hkL:PySem.W.Hook:=W37 1500 tsL dsL xsL
def obL (s:PySem.W.SharedT):AlB:=X63 1500 tsL dsL xsL (HandSHeadRun.getT s)
theorem obL_eq (s:PySem.W.SharedT):obL s=hkL.obs s.abs:=X64 (HandSHeadRun.getT_eq s)
section
open PySem.W PySem.Calls
theorem W8i (w:World) (os:OsState):(HandSHeadRun.endF (HandSHeadRun.stepQ (HandSHeadRun.denQ HandSHeadRun.tabQ) Rw.prog w) 60000 Rw.prog w os).map (fun s=>HandSHeadRun.looksF Rw.prog (boot_heap w.params) s.abs)=some true:=by kernel_rfl
theorem W8j (w:World) (os:OsState):(HandSHeadRun.endF (HandSHeadRun.stepQ (HandSHeadRun.denQ HandSHeadRun.tabQ) Rw.prog w) 60000 Rw.prog w os).map (fun s=>HandSHeadRun.seenQ Vw looseL (importedModules Rw.prog.main.body) (fun s=>xlAt Vw [] s && recOk Rw.toRowW.records s) s.abs)=some (openGood Vw looseL):=by kernel_rfl
theorem W8k (w:World) (os:OsState):(HandSHeadRun.endF (HandSHeadRun.stepQ (HandSHeadRun.denQ HandSHeadRun.tabQ) Rw.prog w) 60000 Rw.prog w os).map (fun s=>X63 1500 tsL dsL xsL (HandSHeadRun.getT s))=some (W8v dsL xsL):=by kernel_rfl
theorem runL (w:World):HandSHeadRun.RunEq Rw Vw hkL obL 60000 looseL w:=X7k (W8i w) (W8j w) fun os=>W8k w os
end
end Lw
set_option maxHeartbeats 4000000
namespace Bv
open PySem PySem.Spec L2
open PyProof.Rows hiding St
structure OwnSp (K:PySem.W.Frag) (C:Str) (m:Str) (f:Addr):Prop where
  at_:PySem.W.findIn K (.ref (He.ga K C)) m=some (some (.ref f))
  fn:PySem.W.isFn K (.ref f)=true
  fi:PySem.W.fnIn K f=true
variable [HasW]
section
variable {X:Cx} {Wx:WX} {pos p:Pos} {a b e:Expr} {es:List Expr} {ma mb:M} {ms:MG (List Bv.X)} {k j:Nat} {f:Addr} {fd:FuncData} {ps:List Str} {g:List D→PR} {C:Str}
end
end Bv
namespace Bv
open PySem PySem.Spec L2
open PyProof.Rows hiding St
variable [HasW]
section
variable {X:Cx} {Wx:WX} {k j:Nat} {f:Addr} {fd:FuncData} {ps:List Str} {g:List D→PR} {C:Str}
end
section
variable {X:Cx}
end
def W9s (a:D) (y:Bool):Bool:=match a with
  | .bl x=>decide (x=y)
  | _=>false
def isA (neg:Bool) (a b:D):Option D:=match b with
  | .bl y=>some (.bl (W9s a y ^^ neg))
  | _=>none
section
variable {X:Cx} {Wx:WX} {k:Nat}
end
end Bv
namespace PySem
open Sem (wp)
open AutoSeq1 (wpAny_loadPart')
open MeetsSeq MeetsSeq2 MeetsSeq3 SeqRoads2
namespace BvLs
section
variable {prog:Program} {w:World} {A:Around} {R:Result→Shared→Prop}
variable {E:Value→Shared→Prop} {s:Shared}
end
end BvLs
end PySem
namespace Bv
open PySem PySem.Spec L2
open PyProof.Rows hiding St
variable [HasW]
section
variable {X:Cx} {k:Nat} {f:Addr} {fd:FuncData} {ps:List Str} {g:List D→PR} {C:Str}
end
section
variable {X:Cx} {Wx:WX} {k j:Nat} {C:Str} {g:List D→PR}
end
end Bv
namespace Bv
open PySem PySem.Spec L2
open PyProof.Rows hiding St
variable [HasW]
section
variable {lv:Ev} {X:Cx} {i j:Nat} {n x:Str} {np p pos:Pos} {e:Expr} {m:SX}
end
section
variable {X:Cx} {Wx:WX} {k i:Nat} {n x y:Str} {c:Value} {body:List Stmt} {np np2 yp rpos pos pos2 pos3:Pos} {ex:Expr} {mb:MS} {m:Ev→SX} {tab:List (Str × Bool)} {C2 p:Str} {fI:Addr}
end
end Bv
namespace Bv
open PySem PySem.Spec L2
open PyProof.Rows hiding St
variable [HasW]
section
variable {α:Type}
def Z2j (kvs:List (D × α)) (k:D):Option α:=(kvs.find? fun p=>decide (p.1=k)).map (·.2)
def Z6d (kvs:List (D × α)) (k:D) (v:α):List (D × α):=if (kvs.any fun p=>decide (p.1=k))=true then kvs.map (fun p=>if p.1=k then (p.1,v) else p) else kvs++[(k,v)]
abbrev KVR (R:α→V→Prop):List (D × α)→List (Key × V)→Prop:=Paired fun p q=>p.1.key?=some q.1∧R p.2 q.2
theorem key_inj {k k2:D} {q:Key} (h:k.key?=some q) (h2:k2.key?=some q):k=k2:=by
  cases k with
  | int i=>cases h; cases k2 with
    | int j=>cases h2; rfl
    | _=>cases h2
  | str x=>cases h; cases k2 with
    | str y=>cases h2; rfl
    | _=>cases h2
  | _=>cases h
theorem Y7i {k k2:D} {q q2:Key} (h:k.key?=some q) (h2:k2.key?=some q2):decide (k=k2)=decide (q=q2):=by
  by_cases e:k=k2
  · subst e
    rw [h] at h2; cases h2
    rw [decide_eq_true rfl,decide_eq_true rfl]
  · have ne:¬ q=q2:=fun z=>e (key_inj (z ▸ h) h2)
    rw [decide_eq_false e,decide_eq_false ne]
theorem KVR.look {R:α→V→Prop} {k:D} {q:Key} (hk:k.key?=some q):∀ {kvs:List (D × α)} {ks:List (Key × V)},KVR R kvs ks→(∃ d v,Z2j kvs k=some d∧valV ks q=some v∧R d v) ∨ (Z2j kvs k=none∧valV ks q=none)
  | _,_, .nil => .inr ⟨rfl,rfl⟩
  | (k1,d1) :: r,(q1,v1) :: s, .cons h t=>by
    have e:=Y7i h.1 hk
    unfold Z2j valV
    rw [List.find?_cons,List.find?_cons]
    have e:decide (k1=k)=decide (q1=q):=e
    cases c:decide (q1=q) with
    | true=>rw [c] at e; rw [e]; exact .inl ⟨d1,v1,rfl,rfl,h.2⟩
    | false=>rw [c] at e; rw [e]; exact KVR.look hk t
theorem KVR.any {R:α→V→Prop} {k:D} {q:Key} (hk:k.key?=some q):∀ {kvs:List (D × α)} {ks:List (Key × V)},KVR R kvs ks→(kvs.any fun p=>decide (p.1=k))=(ks.any fun p=>decide (p.1=q))
  | _,_, .nil=>rfl
  | (k1,d1) :: r,(q1,v1) :: s, .cons h t=>by
    rw [List.any_cons,List.any_cons,KVR.any hk t]
    show (decide (k1=k) || _)=(decide (q1=q) || _)
    rw [Y7i h.1 hk]
theorem KVR.setAll {R:α→V→Prop} {k:D} {q:Key} {d:α} {v:V} (hk:k.key?=some q) (hv:R d v):∀ {kvs:List (D × α)} {ks:List (Key × V)},KVR R kvs ks→KVR R (kvs.map fun p=>if p.1=k then (p.1,d) else p) (ks.map fun p=>if p.1=q then (p.1,v) else p)
  | _,_, .nil => .nil
  | (k1,d1) :: r,(q1,v1) :: s, .cons h t=>by
    have e:=Y7i h.1 hk
    refine .cons ?_ (KVR.setAll hk hv t)
    show (if k1=k then (k1,d) else (k1,d1)).1.key?=some (if q1=q then (q1,v) else (q1,v1)).1∧R (if k1=k then (k1,d) else (k1,d1)).2 (if q1=q then (q1,v) else (q1,v1)).2
    by_cases c:q1=q
    · have c2:k1=k:=of_decide_eq_true (by rw [show decide (k1=k)=decide (q1=q) from e]; exact decide_eq_true c)
      rw [if_pos c,if_pos c2]; exact ⟨h.1,hv⟩
    · have c2:¬ k1=k:=of_decide_eq_false (by rw [show decide (k1=k)=decide (q1=q) from e]; exact decide_eq_false c)
      rw [if_neg c,if_neg c2]; exact h
theorem KVR.put {R:α→V→Prop} {k:D} {q:Key} {d:α} {v:V} (hk:k.key?=some q) (hv:R d v) {kvs:List (D × α)} {ks:List (Key × V)} (r:KVR R kvs ks):KVR R (Z6d kvs k d) (putK ks q v):=by
  unfold Z6d putK
  rw [KVR.any hk r]
  split
  · exact KVR.setAll hk hv r
  · exact Paired.append r (.cons ⟨hk,hv⟩ .nil)
end
theorem KVR.avk {K:PySem.W.Frag} {W:Wd} {H:Hp}:∀ {kvs:List (D × D)} {ks:List (Key × V)},KVR (AV K W H) kvs ks→AVk K W H kvs ks
  | _,_, .nil => .nil
  | (_,_) :: _,(_,_) :: _, .cons h t => .cons h.1 h.2 (KVR.avk t)
theorem Y9m {K:PySem.W.Frag} {W:Wd} {H:Hp} {k:D} {v:V} {q:Key} (h:k.key?=some q) (a:AV K W H k v):v=kV q:=by
  cases k with
  | int i=>cases h; cases a; rfl
  | str x=>cases h; cases a; rfl
  | _=>cases h
theorem key_of {K:PySem.W.Frag} {W:Wd} {H:Hp} {k:D} {q:Key} (h:k.key?=some q) (ok:∀ x,k = .str x→PyData.strOk x=true):AV K W H k (kV q):=by
  cases k with
  | int i=>cases h; exact .int i
  | str x=>cases h; exact .str (ok x rfl)
  | _=>cases h
def Z67 (S:Sto):X→Option (List (D × X))
  | .d (.dic kvs)=>some (kvs.map fun p=>(p.1, .d p.2))
  | .d _=>none
  | .r n=>match S[n]? with
    | some (.dic kvs)=>some kvs
    | some (.fdc kvs)=>some kvs
    | _=>none
theorem KVR.ofData {K:PySem.W.Frag} {W:Wd} {ρ:List Addr} {H:Hp}:∀ {kvs:List (D × D)} {ks:List (Key × V)},AVk K W H kvs ks→KVR (AX K W ρ H) (kvs.map fun p=>(p.1,X.d p.2)) ks
  | _,_, .nil => .nil
  | _,_, .cons k a t => .cons ⟨k, .d a⟩ (KVR.ofData t)
theorem Y1x {K:PySem.W.Frag} {Z:Wd} {ρ:List Addr} {S:Sto} {H:Hp} {x:Bv.X} {v:V} {kvs:List (D × Bv.X)} (st:Sta K Z ρ S H) (a:AX K (Wn Z ρ) ρ H x v) (h:Z67 S x=some kvs):∃ p ks,v = .ref p∧Rd H p (.dK ks)∧KVR (AX K (Wn Z ρ) ρ H) kvs ks:=by
  cases a with
  | d a =>
    cases a with
    | dic w e hs=>cases h; exact ⟨_,_,rfl, .inr ⟨_,e⟩,KVR.ofData hs⟩
    | _=>cases h
  | r e =>
    rename_i n a
    unfold Z67 at h
    cases q:S[n]? with
    | none=>simp only [q] at h; cases h
    | some o =>
      simp only [q] at h
      cases o with
      | dic kvs=>cases h; obtain ⟨ks,e2,r⟩:=st.ob n _ _ q e; exact ⟨_,ks,rfl, .inl e2,r⟩
      | fdc kvs=>cases h; obtain ⟨ob,ks,e2,r⟩:=st.ob n _ _ q e; exact ⟨_,ks,rfl, .inr ⟨ob,e2⟩,r⟩
      | _=>cases h
def dkX (S:Sto) (x y:Bv.X):Option (List (D × Bv.X) × D):=(Z67 S x).bind fun kvs=>match y with
  | .d k=>if k.key?.isSome then some (kvs,k) else none
  | .r _=>none
theorem X91 {S:Sto} {x y:Bv.X} {p:List (D × Bv.X) × D} (h:dkX S x y=some p):Z67 S x=some p.1∧y = .d p.2∧∃ q,p.2.key?=some q:=by
  obtain ⟨kvs,h1,h2⟩:=Option.bind_eq_some_iff.mp h
  cases y with
  | d k =>
    have h2:(if k.key?.isSome then some (kvs,k) else none)=some p:=h2
    split at h2
    · rename_i c
      cases h2
      exact ⟨h1,rfl,Option.isSome_iff_exists.mp c⟩
    · cases h2
  | r _=>cases h2
def Z9c (S:Sto) (x y:Bv.X):R Bv.X:=Z04 ((dkX S x y).bind fun p=>Z2j p.1 p.2) S
def Z0t (mo mi:M):M:=fun e S=>(mo e S).bind fun x S1=>(mi e S1).bind fun y S2=>Z9c S2 x y
def Z3r (mo mi mx:M):M:=fun e S=>(mo e S).bind fun x S1=>if (Z67 S1 x).isSome then (mi e S1).bind fun y S2=>(mx e S2).bind fun z S3=>Z04 ((dkX S3 x y).map fun p=>(Z2j p.1 p.2).getD z) S3 else .bad
section
variable {X:Cx} {Wx:WX} {pos apos cpos:Pos} {o i e f:Expr} {mo mi mx:M}
theorem X2d {K:PySem.W.Frag} {Z:Wd} {ρ:List Addr} {S:Sto} {H:Hp} {x y:Bv.X} {v u:V} {p:List (D × Bv.X) × D} (st:Sta K Z ρ S H) (a:AX K (Wn Z ρ) ρ H x v) (b:AX K (Wn Z ρ) ρ H y u) (h:dkX S x y=some p) :
    ∃ c ks q,v = .ref c∧Rd H c (.dK ks)∧DGet H c u (valV ks q)∧((∃ d w,Z2j p.1 p.2=some d∧valV ks q=some w∧AX K (Wn Z ρ) ρ H d w) ∨ (Z2j p.1 p.2=none∧valV ks q=none)):=by
  obtain ⟨h1,h2,q,hk⟩:=X91 h
  subst h2
  obtain ⟨c,ks,rfl,r,kv⟩:=Y1x st a h1
  cases b with
  | d b=>exact ⟨c,ks,q,rfl,r, .inl ⟨ks,q,r,Y9m hk b,rfl⟩,kv.look hk⟩
theorem Z2x (hu:X.A.units + 1 < cLine) (ho:ME X Wx o mo) (hi:ME X Wx i mi) (hs:NoSl i:=by intro _ _; rfl):ME X Wx (.Subscript o i pos) (Z0t mo mi) :=
  PE.of (pe_dget hu ho hi hs) fun σ H Q ⟨Z,ρ,e,S,st,ev,p⟩=>X6 (rel:=AX X.K) st ev p fun ρ1 H1 v x S1 st1 g1 ev1 a1 p1=>X6 (rel:=AX X.K) st1 ev1 p1 fun ρ2 H2 u y S2 st2 g2 ev2 a2 p2=>by
    have ax:=a1.mv (g2.mv st1) g2.pre
    obtain ⟨d,hl,p3⟩:=(show Z55 X.K Z ρ2 H2 Wx σ Q (Z9c S2 x y) from p2).opt
    obtain ⟨p,h1,h2⟩:=Option.bind_eq_some_iff.mp hl
    obtain ⟨c,ks,q,rfl,r,g,lk⟩:=X2d st2 ax a2 h1
    rcases lk with ⟨d2,w,e1,e2,aw⟩ | ⟨e1,_⟩
    · rw [h2] at e1; cases e1
      rw [e2] at g
      exact ⟨c,w,rfl,g,W5.ret0 p3 st2 aw⟩
    · rw [h2] at e1; cases e1
theorem W76 {op:CmpOp} {m:M} (h:PC X op i o (RE X.K Wx m)) (hb:behindInMarks op o=false):MT X Wx (.Compare i [op] [o] pos) (U3 m):=⟨fun pins s σ H Q I hq=>(pt_cmp h hb).run pins s σ H Q I (by
  obtain ⟨Z,ρ,e,S,st,ev,p⟩:=hq
  refine X6 (rel:=AX X.K) st ev p fun ρ1 H1 v x S1 st1 g1 ev1 a1 p1=>?_
  match x,a1,p1 with
  | .d (.bl b), .d (.bl _),p1=>exact ⟨b,rfl,W5.ret0 p1 st1 rfl⟩
  | .d (.non),_,p1=>exact p1.elim
  | .d (.int _),_,p1=>exact p1.elim
  | .d (.str _),_,p1=>exact p1.elim
  | .d (.tup _),_,p1=>exact p1.elim
  | .d (.lst _),_,p1=>exact p1.elim
  | .d (.dic _),_,p1=>exact p1.elim
  | .d (.obj _ _),_,p1=>exact p1.elim
  | .d (.gl _),_,p1=>exact p1.elim
  | .d (.scr _),_,p1=>exact p1.elim
  | .r _,_,p1=>exact p1.elim)⟩
theorem Z71 (hu:X.A.units + 1 < cLine) (ho:ME X Wx o mo) (hi:ME X Wx e mi) (hx:ME X Wx f mx) (m:M2 X o "get" apos e f cpos:=by exact ⟨by rfl,by rfl,by rfl,by rfl⟩):ME X Wx (.Call (.Attribute o "get" apos) [e,f] [] cpos) (Z3r mo mi mx) :=
  PE.of (pe_dget2 hu ho hi hx m) fun σ H Q ⟨Z,ρ,e,S,st,ev,p⟩=>X6 (rel:=AX X.K) st ev p fun ρ1 H1 v x S1 st1 g1 ev1 a1 p1=>by
    have p1:Z55 X.K Z ρ1 H1 Wx σ Q (if (Z67 S1 x).isSome then (mi e S1).bind fun y S2=>(mx e S2).bind fun z S3=>Z04 ((dkX S3 x y).map fun p=>(Z2j p.1 p.2).getD z) S3 else .bad):=p1
    by_cases c:(Z67 S1 x).isSome=true
    case neg=>rw [if_neg c] at p1; exact p1.elim
    rw [if_pos c] at p1
    obtain ⟨kvs1,hd⟩:=Option.isSome_iff_exists.mp c
    obtain ⟨a,ks1,rfl,r1,_⟩:=Y1x st1 a1 hd
    refine ⟨a,rfl, .inl ⟨ks1,r1⟩,X6 (rel:=AX X.K) st1 ev1 p1 fun ρ2 H2 u y S2 st2 g2 ev2 a2 p2=>X6 (rel:=AX X.K) st2 ev2 p2 fun ρ3 H3 t z S3 st3 g3 ev3 a3 p3=>?_⟩
    have ax:=(a1.mv (g2.mv st1) g2.pre).mv (g3.mv st2) g3.pre
    have ay:=a2.mv (g3.mv st2) g3.pre
    obtain ⟨d,hl,p4⟩:=(show Z55 X.K Z ρ3 H3 Wx σ Q (Z04 ((dkX S3 x y).map fun p=>(Z2j p.1 p.2).getD z) S3) from p3).opt
    obtain ⟨p,h1,rfl⟩:=Option.map_eq_some_iff.mp hl
    obtain ⟨c,ks,q,e0,r,g,lk⟩:=X2d st3 ax ay h1
    cases e0
    refine ⟨_,g,?_⟩
    rcases lk with ⟨d2,w,e1,e2,aw⟩ | ⟨e1,e2⟩
    · rw [e1] at p4; rw [e2]; exact W5.ret0 p4 st3 aw
    · rw [e1] at p4; rw [e2]; exact W5.ret0 p4 st3 a3
end
end Bv
namespace Bv
open PySem PySem.Spec L2
open PyProof.Rows hiding St
variable [HasW]
def tFz (t:TE):TE:=fun σ H Q=>t σ H fun v H1=>Q v H1 ∨ ∃ a u,H1 a=some u∧Mut (some u)∧∀ od,Q v (upd H1 a (.frz od u))
theorem X7a {X:Cx} {e:Expr} {t:TE} (h:PE X e t):PE X e (tFz t):=⟨fun pins s σ H Q I q=>thn (h.run pins s σ H _ I q) fun u s1 ⟨v,H1,I1,r,w⟩=>by
  rcases w with w | ⟨a,o,ha,mu,w⟩
  · exact ⟨v,H1,I1,r,w⟩
  · obtain ⟨od,I2⟩:=I1.lock ha mu
    exact ⟨v,_,I2,r,w od⟩⟩
def Z8b (S:Sto) (x y:Bv.X):Option (Nat × List (D × Bv.X) × D):=match x with
  | .r n=>(match S[n]? with
    | some (.dic kvs)=>(match y with
      | .d k=>if k.key?.isSome && decide (kvs.length < sizeLine) then some (n,kvs,k) else none
      | .r _=>none)
    | _=>none)
  | .d _=>none
theorem X4e {S:Sto} {x y:Bv.X} {p:Nat × List (D × Bv.X) × D} (h:Z8b S x y=some p):x = .r p.1∧S[p.1]?=some (.dic p.2.1)∧y = .d p.2.2∧(∃ q,p.2.2.key?=some q)∧p.2.1.length < sizeLine:=by
  unfold Z8b at h
  cases x with
  | d _=>cases h
  | r n =>
    cases q:S[n]? with
    | none=>simp only [q] at h; cases h
    | some o =>
      simp only [q] at h
      cases o with
      | dic kvs =>
        cases y with
        | r _=>cases h
        | d k =>
          have h:(if k.key?.isSome && decide (kvs.length < sizeLine) then some (n,kvs,k) else none)=some p:=h
          split at h
          · rename_i c
            cases h
            obtain ⟨c1,c2⟩:=Bool.and_eq_true_iff.mp c
            exact ⟨rfl,q,rfl,Option.isSome_iff_exists.mp c1,of_decide_eq_true c2⟩
          · cases h
      | _=>cases h
def Z42 (mo mi mv:M):MS:=fun e S=>(mv e S).so e fun z S1=>(mo e S1).so e fun x S2=>(mi e S2).so e fun y S3=>match Z8b S3 x y with
  | some p => .go (.nx e) (S3.set p.1 (.dic (Z6d p.2.1 p.2.2 z)))
  | none => .bad
theorem KVR.mv {K:PySem.W.Frag} {W W':Wd} {ρ ρ':List Addr} {H H':Hp} (m:Mv W H W' H') (p:ρ <+: ρ') {kvs:List (D × X)} {ks:List (Key × V)} (h:KVR (AX K W ρ H) kvs ks):KVR (AX K W' ρ' H') kvs ks:=Paired.mapP h fun _ _ q=>⟨q.1,q.2.mv m p⟩
section
variable {X:Cx} {Wx:WX} {pos pos' apos cpos:Pos} {o i e f value tg:Expr} {mo mi mv m:M}
theorem Z99 (hu:X.A.units + 1 < cLine) (ho:ME X Wx o mo) (hi:ME X Wx i mi) (hv:ME X Wx value mv) (hs:swapsWith value (some (.Subscript o i pos')) pos.line X.env=pure false:=by rfl):MP X Wx (.Assign [.Subscript o i pos'] value pos) (Z42 mo mi mv) :=
  PS.of (ps_dput hu ho hi hv hs) fun D σ H ⟨Z,ρ,e,S,st,ev,q⟩=>by
    refine Z1i (rel:=AX X.K) st ev q fun ρ1 H1 w z S1 s1 g1 ev1 a1 q1=>Z1i (rel:=AX X.K) s1 ev1 q1 fun ρ2 H2 v x S2 s2 g2 ev2 a2 q2=>Z1i (rel:=AX X.K) s2 ev2 q2 fun ρ3 H3 u y S3 s3 g3 ev3 a3 q3=>?_
    have az:=(a1.mv (g2.mv s1) g2.pre).mv (g3.mv s2) g3.pre
    have ax:=a2.mv (g3.mv s2) g3.pre
    have q3:Z3j X.K Z ρ3 H3 Wx D (match Z8b S3 x y with
      | some p => .go (.nx e) (S3.set p.1 (.dic (Z6d p.2.1 p.2.2 z)))
      | none => .bad):=q3
    cases h:Z8b S3 x y with
    | none=>rw [h] at q3; exact q3.elim
    | some p =>
      rw [h] at q3
      have q9:Z3j X.K Z ρ3 H3 Wx D (.go (.nx e) (S3.set p.1 (.dic (Z6d p.2.1 p.2.2 z)))):=q3
      obtain ⟨e5,hS,e6,⟨k,hk⟩,hl⟩:=X4e h
      subst e5 e6
      cases ax with
      | r ha =>
        rename_i a
        obtain ⟨ks,e1,kv⟩:=s3.ob _ _ _ hS ha
        cases a3 with
        | d a3 =>
          have hu:=Y9m hk a3
          subst hu
          have kv2:KVR (AX X.K (Wn Z ρ3) ρ3 H3) (Z6d p.2.1 p.2.2 z) (putK ks k w):=KVR.put hk az kv
          have inρ:a ∈ ρ3:=List.mem_of_getElem? ha
          have m:Mv (Wn Z ρ3) H3 (Wn Z ρ3) (upd H3 a (.dK (putK ks k w))):=fun b o hb z=>⟨hb,by rw [upd_ne (fun y=>hb (.inr (by rw [y]; exact inρ)))]; exact z⟩
          obtain ⟨s4,g4⟩:=s3.put (o' := .dic (Z6d p.2.1 p.2.2 z)) (u := .dK (putK ks k w)) ha (fun _ _ z=>by rw [e1] at z; cases z) ⟨_,upd_same,KVR.mv m (List.prefix_refl _) kv2⟩
          exact ⟨a,_,rfl, .k e1 (by rw [← Paired.length kv]; exact hl),q9 ρ3 _ _ s4 g4 (ev3.mv (g4.mv s3) (List.prefix_refl _))⟩
def Z5d:M:=fun _ S => .ok (.r S.length) (S++[.dic []])
theorem Z9g:ME X Wx (.Dict [] [] pos) Z5d:=PE.of pe_dnewK fun σ H Q ⟨Z,ρ,e,S,st,ev,p⟩=>fun a ha=>by
  have k:=U9 (o := .dK []) ha
  obtain ⟨s1,g1⟩:=st.push (o' := .dic []) ha k ⟨[],upd_same, .nil⟩
  exact p _ _ _ s1 g1 (.r (by rw [st.len]; simp))
end
def X51 (S:Sto):Bv.X→Option (List (D × Bv.X) × Sto)
  | .d (.dic kvs)=>some (kvs.map fun p=>(p.1, .d p.2),S)
  | .d _=>none
  | .r n=>match S[n]? with
    | some (.dic kvs)=>some (kvs,S.set n (.fdc kvs))
    | some (.fdc kvs)=>some (kvs,S)
    | _=>none
theorem X8a {K:PySem.W.Frag} {Z:Wd} {ρ:List Addr} {S:Sto} {H:Hp} {x:Bv.X} {v:V} {p:List (D × Bv.X) × Sto} (st:Sta K Z ρ S H) (a:AX K (Wn Z ρ) ρ H x v) (h:X51 S x=some p) :
    ∃ c ks,v = .ref c∧KVR (AX K (Wn Z ρ) ρ H) p.1 ks∧((p.2=S∧∃ od,H c=some (.frz od (.dK ks))) ∨ (H c=some (.dK ks)∧∀ od,Sta K Z ρ p.2 (upd H c (.frz od (.dK ks)))∧Go ρ H ρ (upd H c (.frz od (.dK ks)))∧Mv (Wn Z ρ) H (Wn Z ρ) (upd H c (.frz od (.dK ks))))):=by
  cases a with
  | d a =>
    cases a with
    | dic w e hs=>cases h; exact ⟨_,_,rfl,KVR.ofData hs, .inl ⟨rfl,_,e⟩⟩
    | _=>cases h
  | r e =>
    rename_i n a
    unfold X51 at h
    cases q:S[n]? with
    | none=>simp only [q] at h; cases h
    | some o =>
      simp only [q] at h
      cases o with
      | fdc kvs=>cases h; obtain ⟨ob,ks,e2,r⟩:=st.ob n _ _ q e; exact ⟨_,ks,rfl,r, .inl ⟨rfl,ob,e2⟩⟩
      | dic kvs =>
        cases h
        obtain ⟨ks,e2,r⟩:=st.ob n _ _ q e
        refine ⟨_,ks,rfl,r, .inr ⟨e2,fun od=>?_⟩⟩
        have inρ:a ∈ ρ:=List.mem_of_getElem? e
        have m:Mv (Wn Z ρ) H (Wn Z ρ) (upd H a (.frz od (.dK ks))):=fun b o hb z=>⟨hb,by rw [upd_ne (fun y=>hb (.inr (by rw [y]; exact inρ)))]; exact z⟩
        obtain ⟨s4,g4⟩:=st.put (o' := .fdc kvs) (u := .frz od (.dK ks)) e (fun _ _ z=>by rw [e2] at z; cases z) ⟨od,ks,upd_same,KVR.mv m (List.prefix_refl _) r⟩
        exact ⟨s4,g4,m⟩
      | _=>cases h
def Y28 (g:List (D × Bv.X)→Option (List Bv.X)) (S:Sto) (x:Bv.X):R (List Bv.X × Lk):=match X51 S x with
  | some p=>Z04 ((g p.1).map fun ys=>(ys,Lk.free)) p.2
  | none => .bad
def Z7n:D→Bool
  | .str x=>PyData.strOk x
  | _=>true
def Y0r (kvs:List (D × Bv.X)):Option (List Bv.X):=if kvs.all (fun p=>p.2.isD) then some (kvs.map (·.2)) else none
def Z4x:List (D × Bv.X)→Option (List Bv.X)
  | []=>some []
  | (k, .d v) :: r=>if Z7n k then (Z4x r).map fun l => .d (.tup [k,v]) :: l else none
  | (_, .r _) :: _=>none
def Y5q (m:M):MIt:=fun e S=>(m e S).bind fun x S1=>Y28 Y0r S1 x
def Y12 (m:M):MIt:=fun e S=>(m e S).bind fun x S1=>Y28 Z4x S1 x
theorem Y98 {K:PySem.W.Frag} {g:List (D × Bv.X)→Option (List Bv.X)} {Jt:Addr→Obj→List (Key × V)→It}
    (sv:∀ {W:Wd} {ρ:List Addr} {H:Hp} {kvs:List (D × Bv.X)} {ks:List (Key × V)} {ys:List Bv.X} {c:Addr} {od:Obj},KVR (AX K W ρ H) kvs ks→g kvs=some ys→H c=some (.frz od (.dK ks))→Srv K W ρ H (ys, .free) (Jt c od ks))
    {Z:Wd} {ρ:List Addr} {H:Hp} {S:Sto} {σ:L2.St} {R:It→Hp→Prop} {x:Bv.X} {v:V} (st:Sta K Z ρ S H) (a:AX K (Wn Z ρ) ρ H x v) (p:W5 (Srv K) K Z ρ H Wx σ R (Y28 g S x)) :
    (∃ c od ks,v = .ref c∧H c=some (.frz od (.dK ks))∧R (Jt c od ks) H) ∨ ∃ c ks,v = .ref c∧H c=some (.dK ks)∧∀ od,R (Jt c od ks) (upd H c (.frz od (.dK ks))):=by
  unfold Y28 at p
  cases h:X51 S x with
  | none=>rw [h] at p; exact p.elim
  | some q =>
    rw [h] at p
    obtain ⟨w,hw,p2⟩:=W5.opt p
    obtain ⟨ys,hg,rfl⟩:=Option.map_eq_some_iff.mp hw
    obtain ⟨c,ks,rfl,kv,r⟩:=X8a st a h
    rcases r with ⟨e,od,hc⟩ | ⟨hc,r⟩
    · rw [e] at p2
      exact .inl ⟨c,od,ks,rfl,hc,W5.ret0 p2 st (sv kv hg hc)⟩
    · refine .inr ⟨c,ks,rfl,hc,fun od=>?_⟩
      obtain ⟨s4,g4,m⟩:=r od
      exact p2 ρ _ _ s4 g4 (sv (KVR.mv m (List.prefix_refl _) kv) hg upd_same)
theorem KVR.at_ {K:PySem.W.Frag} {W:Wd} {ρ:List Addr} {H:Hp} {kvs:List (D × Bv.X)} {ks:List (Key × V)} {j:Nat} {k:Key} {v:V} (h:KVR (AX K W ρ H) kvs ks) (e:ks[j]?=some (k,v)):∃ p,kvs[j]?=some p∧p.1.key?=some k∧AX K W ρ H p.2 v:=by
  obtain ⟨p,h1,h2⟩:=Y4w h e
  exact ⟨p,h1,h2.1,h2.2⟩
theorem W4f {K:PySem.W.Frag} {W:Wd} {H:Hp} {k:D} {q:Key} (h:k.key?=some q) (ok:Z7n k=true):AV K W H k (kV q):=key_of h fun x e=>by subst e; exact ok
theorem KVR.len {α:Type} {R:α→V→Prop} {kvs:List (D × α)} {ks:List (Key × V)} (h:KVR R kvs ks):kvs.length=ks.length:=Paired.length h
theorem X7o {K:PySem.W.Frag} {W:Wd} {ρ:List Addr} {H:Hp} {kvs:List (D × Bv.X)} {ks:List (Key × V)} {ys:List Bv.X} {c:Addr} {od:Obj} (kv:KVR (AX K W ρ H) kvs ks) (hg:Y0r kvs=some ys) (hc:H c=some (.frz od (.dK ks))):Srv K W ρ H (ys, .free) (Itd c od ks):=by
  unfold Y0r at hg
  obtain ⟨ok,hg⟩:=Z06 hg
  cases hg
  refine ⟨fun H=>H c=some (.frz od (.dK ks)),fun i H x H'=>H'=H∧∃ k,ks[i]?=some (k,x),?_,fun Z2 ρ2 S2 H2 st m p fz _=>⟨fz _ _ _ hc,fun i x H3 y=>?_⟩⟩
  · have e:(kvs.map fun p=>p.2,Lk.free).1.length=ks.length:=by rw [List.length_map]; exact kv.len
    rw [e]
    exact ⟨fun i _ hi g=>⟨g,hi⟩,fun _ g=>⟨g,Nat.le_refl _⟩,fun _ _ _ _ _ _ y=>y⟩
  · obtain ⟨rfl,k,hk⟩:=y
    obtain ⟨q,h1,h2,a⟩:=kv.at_ hk
    exact ⟨Same.rfl',q.2,by simp [h1],a.mv m p⟩
theorem Y9k:∀ {kvs:List (D × Bv.X)} {ys:List Bv.X} {j:Nat} {p:D × Bv.X},Z4x kvs=some ys→kvs[j]?=some p→Z7n p.1=true∧∃ v,p.2 = .d v∧ys[j]?=some (.d (.tup [p.1,v]))
  | [],_,_,_,_,e=>by simp at e
  | (k, .r _) :: r,_,_,_,h,_=>by cases h
  | (k, .d v) :: r,ys,j,p,h,e=>by
    unfold Z4x at h
    obtain ⟨ok,h⟩:=Z06 h
    obtain ⟨l,hl,rfl⟩:=Option.map_eq_some_iff.mp h
    cases j with
    | zero=>simp at e; subst e; exact ⟨ok,v,rfl,rfl⟩
    | succ j =>
      obtain ⟨h1,w,h2,h3⟩:=Y9k hl (by simpa using e)
      exact ⟨h1,w,h2,by simpa using h3⟩
theorem Y5r:∀ {kvs:List (D × Bv.X)} {ys:List Bv.X},Z4x kvs=some ys→ys.length=kvs.length
  | [],_,h=>by cases h; rfl
  | (k, .r _) :: r,_,h=>by cases h
  | (k, .d v) :: r,ys,h=>by
    unfold Z4x at h
    obtain ⟨ok,h⟩:=Z06 h
    obtain ⟨l,hl,rfl⟩:=Option.map_eq_some_iff.mp h
    simp [Y5r hl]
theorem X4t {K:PySem.W.Frag} {W:Wd} {ρ:List Addr} {H:Hp} {kvs:List (D × Bv.X)} {ks:List (Key × V)} {ys:List Bv.X} {c:Addr} {od:Obj} (kv:KVR (AX K W ρ H) kvs ks) (hg:Z4x kvs=some ys) (hc:H c=some (.frz od (.dK ks))):Srv K W ρ H (ys, .free) (Iti c od ks):=by
  refine ⟨fun H=>H c=some (.frz od (.dK ks)),fun i H x H'=>(Iti c od ks).yld i H x H',?_,fun Z2 ρ2 S2 H2 st m p fz _=>⟨fz _ _ _ hc,fun i x H3 y=>?_⟩⟩
  · have e:(ys,Lk.free).1.length=ks.length:=by rw [← kv.len]; exact Y5r hg
    rw [e]
    exact ⟨fun i _ hi g=>⟨g,hi⟩,fun _ g=>⟨g,Nat.le_refl _⟩,fun _ _ _ _ _ _ y=>y⟩
  · obtain ⟨a,k,v,hk,rfl,hn,rfl⟩:=y
    obtain ⟨q,h1,h2,a2⟩:=kv.at_ hk
    obtain ⟨ok,w,e,h3⟩:=Y9k hg h1
    have sm:Same H2 (upd H2 a (.tup [kV k,v])):=fun b o z=>U9 hn b o z
    refine ⟨sm, .d (.tup [q.1,w]),h3, .d (.tup (.inl ⟨st.fresh hn,upd_same⟩) (.cons (W4f h2 ok) (.cons ?_ .nil)))⟩
    have a3:=a2.mv m p
    rw [e] at a3
    cases a3 with
    | d a3=>exact a3.mv (Z4k sm)
section
variable {X:Cx} {Wx:WX} {apos cpos tpos:Pos} {e tg:Expr} {m:M} {elts:List Expr} {kk:Nat}
theorem W06 (h:ME X Wx e m) (hbase:attributeBase e "values" X.env (eval e X.env)=eval e X.env:=by rfl) (hline:(apos.endLine == cpos.line)=true:=by rfl):MI X Wx tg (.Call (.Attribute e "values" apos) [] [] cpos) (Y5q m):=PI.of (pi_values (X7a h) hbase hline) fun σ H R ⟨Z,ρ,e,S,st,ev,p⟩=>X6 (rel:=AX X.K) st ev p fun ρ1 H1 v x S1 st1 g1 ev1 a1 p1=>by
  rcases Y98 X7o st1 a1 p1 with ⟨c,od,ks,rfl,hc,r⟩ | ⟨c,ks,rfl,hc,r⟩
  · exact .inl ⟨c,od,ks,rfl,hc,r⟩
  · exact .inr ⟨c,_,hc,trivial,fun od=>⟨c,od,ks,rfl,upd_same,r od⟩⟩
theorem X6o (h:ME X Wx e m) (hbase:attributeBase e "items" X.env (eval e X.env)=eval e X.env:=by rfl) (hline:(apos.endLine == cpos.line)=true:=by rfl):MI X Wx (.Tuple elts kk tpos) (.Call (.Attribute e "items" apos) [] [] cpos) (Y12 m):=PI.of (pi_items (X7a h) hbase hline) fun σ H R ⟨Z,ρ,e,S,st,ev,p⟩=>X6 (rel:=AX X.K) st ev p fun ρ1 H1 v x S1 st1 g1 ev1 a1 p1=>by
  rcases Y98 X4t st1 a1 p1 with ⟨c,od,ks,rfl,hc,r⟩ | ⟨c,ks,rfl,hc,r⟩
  · exact .inl ⟨c,od,ks,rfl,hc,r⟩
  · exact .inr ⟨c,_,hc,trivial,fun od=>⟨c,od,ks,rfl,upd_same,r od⟩⟩
end
end Bv
namespace Bv
open PySem PySem.Spec L2
open PyProof.Rows hiding St
variable [HasW]
theorem W7a {J:It} {n:Nat} {G:Hp→Prop} {Y:Nat→Hp→V→Hp→Prop} (w:Walk J n G Y) {g:TG} {tt:TT} {tk tv:TE} {vs:List Nat} {σ:L2.St} {H1:Hp} {D:Addr} {Qd:Hp→Prop} (Pv:Nat→Hp→Prop) (h0:Pv 0 (upd H1 D (.dK []))) (hG:∀ i H,i ≤ n→Pv i H→G H)
    (hs:∀ i x H H',i < n→Pv i H→Y i H x H'→g x (wipe σ vs) H' fun σ2 H2=>wipe σ2 vs=wipe σ vs∧tt σ2 H2 fun b H3 =>
      if b=true then tk σ2 H3 fun y H4=>tv σ2 H4 fun z H5=>∃ kvs k,y=kV k∧H5 D=some (.dK kvs)∧kvs.length < sizeLine∧Pv (i + 1) (upd H5 D (.dK (putK kvs k z))) else Pv (i + 1) H3) (hd:∀ H,Pv n H→Qd H) :
    ∃ W:Nat→Nat→Hp→Prop,(∃ m,W 0 m (upd H1 D (.dK [])))∧∀ i m H,W i m H →
      (J.stop i H∧Qd H) ∨ (J.go i H∧∃ Nx:Hp→Prop,(∀ H',Nx H'→∃ m',m' < m∧W (i + 1) m' H')∧∀ x H',J.yld i H x H'→g x (wipe σ vs) H' fun σ2 H2=>wipe σ2 vs=wipe σ vs∧tt σ2 H2 fun b H3 =>
        if b=true then tk σ2 H3 fun y H4=>tv σ2 H4 fun z H5=>∃ kvs k,y=kV k∧H5 D=some (.dK kvs)∧kvs.length < sizeLine∧Nx (upd H5 D (.dK (putK kvs k z))) else Nx H3):=by
  refine ⟨fun i m H=>m=n - i∧i ≤ n∧Pv i H,⟨n,(Nat.sub_zero n).symm,Nat.zero_le _,h0⟩,fun i m H ⟨em,hi,p⟩=>?_⟩
  subst em
  have q:=hG i H hi p
  rcases Nat.lt_or_ge i n with hlt | hge
  · exact .inr ⟨w.goes i H hlt q,Pv (i + 1),fun H' p'=>⟨n - (i + 1),by omega,rfl,hlt,p'⟩,fun x H' y=>hs i x H H' hlt p (w.yields i H x H' hlt q y)⟩
  · obtain rfl:i=n:=by omega
    exact .inl ⟨w.stops H q,hd H p⟩
def dcK (acc:List (D × D)) (y z:X):Option (List (D × D)):=match y,z with
  | .d k, .d v=>if k.key?.isSome && (Z7n k && decide (acc.length < sizeLine)) then some (Z6d acc k v) else none
  | _,_=>none
def dcL (t:Tg) (l:Lk) (mt:MG Bool) (mk mv:M) (e:Ev):List (D × D)→List X→Sto→R (List (D × D))
  | acc,[],S=>if l.ok S then .ok acc S else .bad
  | acc,x :: xs,S=>if l.ok S then (match t.asg S x e with
    | some e1=>(mt e1 S).ne.bind fun b S1=>if b then (mk e1 S1).ne.bind fun y S2=>(mv e1 S2).ne.bind fun z S3=>(match dcK acc y z with
        | some acc2=>dcL t l mt mk mv e acc2 xs S3
        | none => .bad) else dcL t l mt mk mv e acc xs S1
    | none => .bad) else .bad
def X0m (t:Tg) (mi:MIt) (mt:MG Bool) (mk mv:M) (vs:List Nat):M:=fun e S=>(mi e S).bind fun p S1=>(dcL t p.2 mt mk mv (Z0s e vs) [] p.1 S1).bind fun kvs S2 => .ok (.d (.dic kvs)) S2
section
variable {X:Cx} {Wx:WX} {pos:Pos} {tg iter kx vx c:Expr} {ifs:List Expr} {mi:MIt} {mt:MG Bool} {mk mv:M} {t:Tg} {vs:List Nat}
theorem W3w (hs:∀ i ∈ t.slots,i ∈ vs) {σ:L2.St} {H:Hp} {Q:VK} (h:RE X.K Wx (X0m t mi mt mk mv vs) σ H Q):tDc (RG (Srv X.K) X.K Wx mi) (TGt X.K t) (RB X.K WX0 mt) (RE X.K WX0 mk) (RE X.K WX0 mv) vs σ H (fun v H1=>Q v H1 ∨ ∃ a u,H1 a=some u∧Mut (some u)∧∀ od,Q v (upd H1 a (.frz od u))):=by
  obtain ⟨Z,ρ,e,S,st,ev,p⟩:=h
  refine X6 (rel:=Srv X.K) st ev p fun ρ1 H1 J p0 S1 st1 g1 ev1 srv p1=>?_
  obtain ⟨ys,l⟩:=p0
  obtain ⟨G,Y,w,sv⟩:=srv
  intro D0 hD
  let fin:List (D × D)→Sto→R Bv.X:=fun kvs S2 => .ok (.d (.dic kvs)) S2
  have p1:Z55 X.K Z ρ1 H1 Wx σ Q ((dcL t l mt mk mv (Z0s e vs) [] ys S1).bind fin):=p1
  have sv:∀ (Z2:Wd) (ρ2:List Addr) (S2:Sto) (H2:Hp),Sta X.K Z2 ρ2 S2 H2→Mv (Wn Z ρ1) H1 (Wn Z2 ρ2) H2→ρ1 <+: ρ2→(∀ a ob u,H1 a=some (.frz ob u)→H2 a=some (.frz ob u))→l.ok S2=true→G H2 ∧
    ∀ i x H3,Y i H2 x H3→Same H2 H3∧∃ y,ys[i]?=some y∧AX X.K (Wn Z2 ρ2) ρ2 H3 y x:=sv
  have w:Walk J ys.length G Y:=w
  have evw:=ev1.wipe vs
  let Z':Wd:=fun a=>Z a ∨ a=D0
  let Pv:Nat→Hp→Prop:=fun i H=>∃ (ρ:List Addr) (S:Sto) (acc:List (D × D)) (ks:List (Key × V)),Sta X.K Z' ρ S H∧ρ1 <+: ρ∧(∀ a o,a ∉ ρ1→H1 a=some o→a ∉ ρ∧H a=some o)∧(∀ a ob u,H1 a=some (.frz ob u)→H a=some (.frz ob u))∧H D0=some (.dK ks)∧KVR (AV X.K (Wn Z' ρ) H) acc ks ∧
    EvOk X.K (Wn Z' ρ) ρ H (Z0s e vs) (wipe σ vs)∧Z55 X.K Z ρ1 H1 Wx σ Q ((dcL t l mt mk mv (Z0s e vs) acc (ys.drop i) S).bind fin)
  have mvOf:∀ {ρ:List Addr} {S:Sto} {H:Hp},Sta X.K Z' ρ S H→(∀ a o,a ∉ ρ1→H1 a=some o→a ∉ ρ∧H a=some o)→Mv (Wn Z ρ1) H1 (Wn Z' ρ) H:=fun {ρ S H} s k a o hn hq=>by
    obtain ⟨h2,h3⟩:=k a o (fun z=>hn (.inr z)) hq
    refine ⟨fun z=>?_,h3⟩
    rcases z with (z | z) | z
    · exact hn (.inl z)
    · rw [z,hD] at hq; cases hq
    · exact h2 z
  have okOf:∀ {xs:List Bv.X} {S:Sto} {acc:List (D × D)},Z55 X.K Z ρ1 H1 Wx σ Q ((dcL t l mt mk mv (Z0s e vs) acc xs S).bind fin)→l.ok S=true:=fun {xs S acc} q=>by
    cases z:l.ok S with
    | true=>rfl
    | false=>cases xs <;> (simp only [dcL,z] at q; exact q.elim)
  refine W7a w Pv ?_ ?_ ?_ ?_
  · have k:=U9 (o := .dK []) hD
    have s0:=st1.grow k
    have hnw:¬ Wn Z ρ1 D0:=st1.fresh hD
    have m0:Mv (Wn Z ρ1) H1 (Wn Z' ρ1) (upd H1 D0 (.dK [])):=fun a o hn hq=>⟨fun z=>by
      rcases z with (z | z) | z
      · exact hn (.inl z)
      · rw [z,hD] at hq; cases hq
      · exact hn (.inr z),k a o hq⟩
    refine ⟨ρ1,S1,[],[],⟨st1.nd,fun a z=>?_,st1.len,fun n o a e1 e2=>AO.mv m0 (List.prefix_refl _) (fun u q=>k _ _ q) (st1.ob n o a e1 e2)⟩,List.prefix_refl _,fun a o hn hq=>⟨hn,k a o hq⟩,fun a _ _ q=>k a _ q,upd_same, .nil,evw.mv m0 (List.prefix_refl _),?_⟩
    · rcases z with z | z
      · exact ⟨(st1.z a z).1,let ⟨o,q⟩:=(st1.z a z).2; ⟨o,k a o q⟩⟩
      · exact ⟨fun z2=>hnw (.inr (by rw [← z]; exact z2)),⟨_,by rw [z]; exact upd_same⟩⟩
    · rw [List.drop_zero]
      exact p1
  · rintro i H2 _ ⟨ρ2,S2,acc,ks,st2,pr2,k2,f2,d2,a2,ev2,q2⟩
    exact (sv Z' ρ2 S2 H2 st2 (mvOf st2 k2) pr2 f2 (okOf q2)).1
  · rintro i x H2 H3 hi ⟨ρ2,S2,acc,ks,st2,pr2,k2,f2,d2,a2,ev2,q2⟩ hy
    have hk:=okOf q2
    obtain ⟨k,y,e3,a⟩:=(sv Z' ρ2 S2 H2 st2 (mvOf st2 k2) pr2 f2 hk).2 i x H3 hy
    have st3:=st2.grow k
    have m23:Mv (Wn Z' ρ2) H2 (Wn Z' ρ2) H3:=Z4k k
    have ev3:=ev2.mv m23 (List.prefix_refl _)
    rw [Y4d e3] at q2
    simp only [dcL,hk,if_true] at q2
    cases q4:t.asg S2 y (Z0s e vs) with
    | none=>rw [q4] at q2; exact q2.elim
    | some e4 =>
      rw [q4] at q2
      refine ⟨Z',ρ2,Z0s e vs,S2,y,e4,st3,ev3,a,q4,fun σ5 ev5 w5=>⟨?_,?_⟩⟩
      · rw [w5 vs hs,Y32]
      have q2:Z55 X.K Z ρ1 H1 Wx σ Q (((mt e4 S2).ne.bind fun b S1=>if b then (mk e4 S1).ne.bind fun y S2=>(mv e4 S2).ne.bind fun z S3=>(match dcK acc y z with
          | some acc2=>dcL t l mt mk mv (Z0s e vs) acc2 (ys.drop (i + 1)) S3
          | none => .bad) else dcL t l mt mk mv (Z0s e vs) acc (ys.drop (i + 1)) S1).bind fin):=q2
      cases q5:(mt e4 S2).ne with
      | err _ _ _=>cases q6:mt e4 S2 <;> rw [q6] at q5 <;> cases q5
      | bad=>rw [q5] at q2; exact q2.elim
      | ok b S6 =>
        rw [q5] at q2
        refine Y2i (rel:=relB) st3 ev5 q5 fun ρ6 H6 v st6 g6 ev6 r6=>?_
        cases (show b=v from r6)
        have nD:D0 ∉ ρ2:=(st2.z D0 (.inr rfl)).1
        obtain ⟨nD6,d6⟩:=g6.keep D0 _ nD (k _ _ d2)
        have k6:∀ a o,a ∉ ρ1→H1 a=some o→a ∉ ρ6∧H6 a=some o:=fun a o h1 h2=>by
          obtain ⟨h3,h4⟩:=k2 a o h1 h2
          exact g6.keep a o h3 (k _ _ h4)
        have f6:∀ a ob u,H1 a=some (.frz ob u)→H6 a=some (.frz ob u):=fun a ob u q=>g6.fz a ob u (k _ _ (f2 a ob u q))
        have m36:=g6.mv st3
        have ev6':EvOk X.K (Wn Z' ρ6) ρ6 H6 (Z0s e vs) (wipe σ vs):=ev3.mv m36 g6.pre
        have a6:KVR (AV X.K (Wn Z' ρ6) H6) acc ks:=Paired.mapP a2 fun _ _ q=>⟨q.1,(q.2.mv m23).mv m36⟩
        cases b with
        | false =>
          rw [if_neg Bool.false_ne_true]
          exact ⟨ρ6,S6,acc,ks,st6,pr2.trans g6.pre,k6,f6,d6,a6,ev6',q2⟩
        | true =>
          rw [if_pos rfl]
          have q2:Z55 X.K Z ρ1 H1 Wx σ Q (((mk e4 S6).ne.bind fun y S2=>(mv e4 S2).ne.bind fun z S3=>(match dcK acc y z with
            | some acc2=>dcL t l mt mk mv (Z0s e vs) acc2 (ys.drop (i + 1)) S3
            | none => .bad)).bind fin):=q2
          cases q7:(mk e4 S6).ne with
          | err _ _ _=>cases q6:mk e4 S6 <;> rw [q6] at q7 <;> cases q7
          | bad=>rw [q7] at q2; exact q2.elim
          | ok y7 S7 =>
            rw [q7] at q2
            refine Y2i (rel:=AX X.K) st6 ev6 q7 fun ρ7 H7 v7 st7 g7 ev7 r7=>?_
            have q2:Z55 X.K Z ρ1 H1 Wx σ Q (((mv e4 S7).ne.bind fun z S3=>(match dcK acc y7 z with
              | some acc2=>dcL t l mt mk mv (Z0s e vs) acc2 (ys.drop (i + 1)) S3
              | none => .bad)).bind fin):=q2
            cases q8:(mv e4 S7).ne with
            | err _ _ _=>cases q6:mv e4 S7 <;> rw [q6] at q8 <;> cases q8
            | bad=>rw [q8] at q2; exact q2.elim
            | ok z8 S8 =>
              rw [q8] at q2
              refine Y2i (rel:=AX X.K) st7 ev7 q8 fun ρ8 H8 v8 st8 g8 ev8 r8=>?_
              have q2:Z55 X.K Z ρ1 H1 Wx σ Q ((match dcK acc y7 z8 with
                | some acc2=>dcL t l mt mk mv (Z0s e vs) acc2 (ys.drop (i + 1)) S8
                | none => .bad).bind fin):=q2
              cases q9:dcK acc y7 z8 with
              | none=>rw [q9] at q2; exact q2.elim
              | some acc2 =>
                rw [q9] at q2
                have r7':=r7.mv (g8.mv st7) g8.pre
                match y7,z8,r7',r8,q9 with
                | .r _,_,_,_,q9=>cases q9
                | .d _, .r _,_,_,q9=>cases q9
                | .d kk, .d vv, .d ak, .d av,q9 =>
                  have q9:(if kk.key?.isSome && (Z7n kk && decide (acc.length < sizeLine)) then some (Z6d acc kk vv) else none)=some acc2:=q9
                  obtain ⟨c0,q9⟩:=Z06 q9
                  cases q9
                  obtain ⟨c1,c2⟩:=Bool.and_eq_true_iff.mp c0
                  obtain ⟨_,c3⟩:=Bool.and_eq_true_iff.mp c2
                  obtain ⟨qk,hqk⟩:=Option.isSome_iff_exists.mp c1
                  have hv7:=Y9m hqk ak
                  obtain ⟨nD7,d7⟩:=g7.keep D0 _ nD6 d6
                  obtain ⟨nD8,d8⟩:=g8.keep D0 _ nD7 d7
                  have m68:=fun a o h1 h2=>let ⟨h3,h4⟩:=(g7.mv st6) a o h1 h2; (g8.mv st7) a o h3 h4
                  have a8:KVR (AV X.K (Wn Z' ρ8) H8) acc ks:=Paired.mapP a6 fun _ _ q=>⟨q.1,(q.2.mv (g7.mv st6)).mv (g8.mv st7)⟩
                  have k8:∀ a o,a ∉ ρ1→H1 a=some o→a ∉ ρ8∧H8 a=some o:=fun a o h1 h2=>by
                    obtain ⟨h3,h4⟩:=k6 a o h1 h2
                    obtain ⟨h5,h6⟩:=g7.keep a o h3 h4
                    exact g8.keep a o h5 h6
                  have wD:Wn Z' ρ8 D0 := .inl (.inr rfl)
                  have m9:Mv (Wn Z' ρ8) H8 (Wn Z' ρ8) (upd H8 D0 (.dK (putK ks qk v8))):=fun a o hn hq=>⟨hn,by rw [upd_ne (fun z=>hn (by rw [z]; exact wD))]; exact hq⟩
                  have neD:∀ b,b ∈ ρ8→b ≠ D0:=fun b hb z=>nD8 (by rw [← z]; exact hb)
                  have kv9:KVR (AV X.K (Wn Z' ρ8) (upd H8 D0 (.dK (putK ks qk v8)))) (Z6d acc kk vv) (putK ks qk v8):=Paired.mapP (KVR.put hqk av a8) fun _ _ q=>⟨q.1,q.2.mv m9⟩
                  refine ⟨ks,qk,hv7,d8,by rw [← a8.len]; exact of_decide_eq_true c3,ρ8,S8,Z6d acc kk vv,putK ks qk v8,⟨st8.nd,fun a z=>⟨(st8.z a z).1,?_⟩,st8.len,fun n o a e1 e2=>AO.mv m9 (List.prefix_refl _) (fun u q=>by rw [upd_ne (neD a (List.mem_of_getElem? e2))]; exact q) (st8.ob n o a e1 e2)⟩,((pr2.trans g6.pre).trans g7.pre).trans g8.pre,fun a o h1 h2=>?_,fun a ob u q=>by rw [upd_ne (fun z=>by rw [z,hD] at q; cases q)]; exact g8.fz a ob u (g7.fz a ob u (f6 a ob u q)),upd_same,kv9,((ev6'.mv (g7.mv st6) g7.pre).mv (g8.mv st7) g8.pre).mv m9 (List.prefix_refl _),q2⟩
                  · by_cases hz:a=D0
                    · exact ⟨_,by rw [hz]; exact upd_same⟩
                    · obtain ⟨o,q⟩:=(st8.z a z).2
                      exact ⟨o,by rw [upd_ne hz]; exact q⟩
                  · obtain ⟨h3,h4⟩:=k8 a o h1 h2
                    exact ⟨h3,by rw [upd_ne (fun z=>by rw [z,hD] at h2; cases h2)]; exact h4⟩
  · rintro H2 ⟨ρ2,S2,acc,ks,st2,pr2,k2,f2,d2,a2,ev2,q2⟩
    have hk:=okOf q2
    rw [List.drop_length] at q2
    simp only [dcL,hk,if_true] at q2
    have q2:Z55 X.K Z ρ1 H1 Wx σ Q (.ok (.d (.dic acc)) S2):=q2
    refine .inr ⟨D0,_,d2,trivial,fun od=>?_⟩
    have nD:D0 ∉ ρ2:=(st2.z D0 (.inr rfl)).1
    have nZ:¬ Wn Z ρ2 D0:=fun z=>z.elim (fun z=>st1.fresh hD (.inl z)) nD
    have m:Mv (Wn Z' ρ2) H2 (Wn Z ρ2) (upd H2 D0 (.frz od (.dK ks))):=fun a o hn hq=>⟨fun z=>hn (z.elim (fun z => .inl (.inl z)) .inr),by rw [upd_ne (fun z=>hn (.inl (.inr z)))]; exact hq⟩
    have neD:∀ b,b ∈ ρ2→b ≠ D0:=fun b hb z=>nD (by rw [← z]; exact hb)
    refine q2 ρ2 _ (.ref D0) ⟨st2.nd,fun a z=>⟨(st2.z a (.inl z)).1,?_⟩,st2.len,fun n o a e1 e2=>AO.mv m (List.prefix_refl _) (fun u q=>by rw [upd_ne (neD a (List.mem_of_getElem? e2))]; exact q) (st2.ob n o a e1 e2)⟩ ⟨pr2,fun a o h1 h2=>?_,fun a ob u q=>?_⟩ (.d (.dic nZ upd_same (KVR.avk (Paired.mapP a2 fun _ _ q=>⟨q.1,q.2.mv m⟩))))
    · by_cases hz:a=D0
      · exact ⟨_,by rw [hz]; exact upd_same⟩
      · obtain ⟨o,q⟩:=(st2.z a (.inl z)).2
        exact ⟨o,by rw [upd_ne hz]; exact q⟩
    · obtain ⟨h3,h4⟩:=k2 a o h1 h2
      exact ⟨h3,by rw [upd_ne (fun z=>by rw [z,hD] at h2; cases h2)]; exact h4⟩
    · rw [upd_ne (fun z=>by rw [z,hD] at q; cases q)]; exact f2 a ob u q
end
end Bv
namespace Bv
open PySem PySem.Spec L2
open PyProof.Rows hiding St
section
variable {X:Cx}
end
variable [HasW]
section
variable {X:Cx} {Wx:WX} {pos:Pos} {tg iter kx vx c:Expr} {ifs:List Expr} {mi:MIt} {mt:MG Bool} {mk mv:M} {t:Tg} {vs:List Nat}
theorem X6i {scope:Scope} {own:List (Str × Nat)} (hc:X.calm=true) (hN:X.N.Nodup) (hi:MI X Wx tg iter mi) (ok:BlkOk X.N X.env.scope scope own) (hsl:∀ i ∈ t.slots,i ∈ own.map (·.2))
    (hg:∀ (s:Shared) (H:Hp) (C:Addr) (cl:List (Str × Addr)) (fp:List Addr),PG (X.blk s H scope (compEnvC scope cl C X.env) fp) tg (TGt X.K t)) (ht:∀ (s:Shared) (H:Hp) (C:Addr) (cl:List (Str × Addr)) (fp:List Addr),MTs (X.blk s H scope (compEnvC scope cl C X.env) fp) WX0 ifs mt)
    (hk:∀ (s:Shared) (H:Hp) (C:Addr) (cl:List (Str × Addr)) (fp:List Addr),ME (X.blk s H scope (compEnvC scope cl C X.env) fp) WX0 kx mk) (he:∀ (s:Shared) (H:Hp) (C:Addr) (cl:List (Str × Addr)) (fp:List Addr),ME (X.blk s H scope (compEnvC scope cl C X.env) fp) WX0 vx mv)
    (hs:∀ x,foldedSetIterable iter X.env x=pure x:=by intro _; rfl):ME X Wx (.DictComp kx vx [⟨tg,iter,ifs,0⟩] scope pos) (X0m t mi mt mk mv (own.map (·.2))):=PE.of (X7a (pe_dc hc hN hi ok hg ht hk he hs)) fun _ _ _ h=>W3w hsl h
end
end Bv
namespace Bv
open PySem PySem.Spec L2
open PyProof.Rows hiding St
variable [HasW]
end Bv
namespace Bv
open PySem PySem.Spec L2
open PyProof.Rows hiding St
variable [HasW]
section
variable {t t1:Tg} {l:Lk} {mt mt1:MG Bool} {mi1:MIt} {me:M} {e:Ev} {vs1:List Nat}
end
section
variable {X:Cx} {Wx:WX} {pos:Pos} {tg iter tg1 iter1 elt c:Expr} {ifs ifs1:List Expr} {mi mi1:MIt} {mt mt1:MG Bool} {me:M} {t t1:Tg} {vs vs1:List Nat}
end
end Bv
namespace Bv
open PySem PySem.Spec L2
open PyProof.Rows hiding St
variable [HasW]
section
variable {K:PySem.W.Frag}
end
section
variable {X:Cx} {Wx:WX} {pos apos:Pos} {o e:Expr} {mo m:M}
end
end Bv
namespace Bv
open PySem PySem.Spec L2
open PyProof.Rows hiding St
variable [HasW]
def X01:Bv.X→Option (D × D)
  | .d (.tup [k,v])=>if k.key?.isSome then some (k,v) else none
  | _=>none
def Z8l:List Bv.X→Option (List (D × D))
  | []=>some []
  | x :: r=>match X01 x,Z8l r with
    | some p,some l=>some (p :: l)
    | _,_=>none
def Y19 (kvs more:List (D × D)):List (D × D):=more.foldl (fun acc p=>Z6d acc p.1 p.2) kvs
theorem KVR.merge {R:D→V→Prop}:∀ {more:List (D × D)} {ms:List (Key × V)} {kvs:List (D × D)} {ks:List (Key × V)},KVR R more ms→KVR R kvs ks→KVR R (Y19 kvs more) (mergeK ks ms)
  | _,_,_,_, .nil,q=>q
  | (k,d) :: r,(q,v) :: s,kvs,ks, .cons h t,z=>KVR.merge (more:=r) (ms:=s) (kvs:=Z6d kvs k d) (ks:=putK ks q v) t (KVR.put h.1 h.2 z)
theorem X39 {K:PySem.W.Frag} {W:Wd} {ρ:List Addr} {H:Hp} {x:Bv.X} {u:V} {p:D × D} (a:AX K W ρ H x u) (h:X01 x=some p):∃ b q v,u = .ref b∧p.1.key?=some q∧SqT K H b [kV q,v]∧AV K W H p.2 v:=by
  unfold X01 at h
  split at h
  · rename_i k v
    split at h
    · rename_i c
      cases h
      obtain ⟨q,hq⟩:=Option.isSome_iff_exists.mp c
      cases a with
      | d a =>
        cases a with
        | tup tp as =>
          cases as with
          | cons a1 as =>
            cases as with
            | cons a2 as =>
              cases as
              obtain rfl:=Y9m hq a1
              exact ⟨_,q,_,rfl,hq,tp.sq,a2⟩
    · cases h
  · cases h
theorem Y3u {K:PySem.W.Frag} {W:Wd} {ρ:List Addr} {H:Hp}:∀ {xs:List Bv.X} {us:List V} {l:List (D × D)},AXs K W ρ H xs us→Z8l xs=some l→∃ (ps:List Addr) (kvs:List (Key × V)),us=ps.map V.ref∧Paired (fun p kv=>SqT K H p [kV kv.1,kv.2]) ps kvs∧KVR (AV K W H) l kvs
  | _,_,_, .nil,h=>by cases h; exact ⟨[],[],rfl, .nil, .nil⟩
  | x :: r,u :: us,_, .cons a as,h=>by
    have h:(match X01 x,Z8l r with
      | some p,some l=>some (p :: l)
      | _,_=>none)=some _:=h
    cases h1:X01 x with
    | none=>rw [h1] at h; cases h
    | some p =>
      cases h2:Z8l r with
      | none=>rw [h1,h2] at h; cases h
      | some l2 =>
        rw [h1,h2] at h
        cases h
        obtain ⟨b,q,v,rfl,hk,sq,av⟩:=X39 a h1
        obtain ⟨ps,kvs,rfl,pr,kv⟩:=Y3u as h2
        exact ⟨b :: ps,(q,v) :: kvs,rfl, .cons sq pr, .cons ⟨hk,av⟩ kv⟩
def kvD:List (D × Bv.X)→Option (List (D × D))
  | []=>some []
  | (k, .d v) :: r=>(kvD r).map fun l=>(k,v) :: l
  | (_, .r _) :: _=>none
theorem X23 {K:PySem.W.Frag} {W:Wd} {ρ:List Addr} {H:Hp}:∀ {xs:List (D × Bv.X)} {ks:List (Key × V)} {l:List (D × D)},KVR (AX K W ρ H) xs ks→kvD xs=some l→KVR (AV K W H) l ks
  | _,_,_, .nil,h=>by cases h; exact .nil
  | (k, .d v) :: r,(q,u) :: ks,_, .cons a as,h=>by
    obtain ⟨l2,h1,rfl⟩:=Option.map_eq_some_iff.mp (show (kvD r).map (fun l=>(k,v) :: l)=some _ from h)
    cases a.2 with
    | d av=>exact .cons ⟨a.1,av⟩ (X23 as h1)
  | (_, .r _) :: _,_,_,_,h=>by cases h
def dictOf (S:Sto) (x:Bv.X):Option (List (D × D)):=match Z67 S x with
  | some kvs=>kvD kvs
  | none=>if V8 S x then ((items S x).bind Z8l).map (Y19 []) else none
def Z96:List Bv.X→Sto→R Bv.X
  | [x],S=>(match dictOf S x with
    | some kvs => .ok (.r S.length) (S++[.dic (kvs.map fun p=>(p.1, .d p.2))])
    | none => .bad)
  | _,_ => .bad
abbrev W14 (K:PySem.W.Frag):List V→Hp→VK→Prop:=fun xs H Q=>(∃ (a:Addr) (kvs:List (Key × V)),xs=[.ref a]∧Rd H a (.dK kvs)∧∀ p,H p=none→Q (.ref p) (upd H p (.dK kvs))) ∨
  ∃ (a:Addr) (ps:List Addr) (kvs:List (Key × V)),xs=[.ref a]∧SqL K H a (ps.map V.ref)∧Paired (fun p kv=>SqT K H p [kV kv.1,kv.2]) ps kvs∧∀ p,H p=none→Q (.ref p) (upd H p (.dK (mergeK [] kvs)))
theorem W3q {X:Cx} (hc:X.calm=true):CallR X (.type "dict") (W14 X.K):=CallR.or call_dictD (call_dictP hc)
section
variable {K:PySem.W.Frag}
theorem X0g {Z:Wd} {ρ:List Addr} {S:Sto} {H:Hp} {x:Bv.X} {v:V} {l:List (D × D)} {Q:VK} (st:Sta K Z ρ S H) (a:AX K (Wn Z ρ) ρ H x v) (h:dictOf S x=some l)
    (q:∀ ks:List (Key × V),KVR (AV K (Wn Z ρ) H) l ks→∀ p,H p=none→Q (.ref p) (upd H p (.dK ks))):W14 K [v] H Q:=by
  unfold dictOf at h
  cases hd:Z67 S x with
  | some kvs =>
    rw [hd] at h
    obtain ⟨p,ks,rfl,r,kv⟩:=Y1x st a hd
    exact .inl ⟨p,ks,rfl,r,q ks (X23 kv h)⟩
  | none =>
    rw [hd] at h
    have h:(if V8 S x then ((items S x).bind Z8l).map (Y19 []) else none)=some l:=h
    split at h
    · rename_i hl
      obtain ⟨more,h1,rfl⟩:=Option.map_eq_some_iff.mp h
      obtain ⟨ys,h2,h3⟩:=Option.bind_eq_some_iff.mp h1
      obtain ⟨b,us,rfl,hq,hp⟩:=a.itemsL st h2 hl
      obtain ⟨ps,kvs,rfl,pr,kv⟩:=Y3u hp h3
      exact .inr ⟨b,ps,kvs,rfl, .inl (.inl hq),pr,q _ (KVR.merge kv .nil)⟩
    · cases h
theorem X24 {Z:Wd} {ρ:List Addr} {S:Sto} {H:Hp} {p:Addr} {ks0:List (Key × V)} (st:Sta K Z ρ S H) (hp:H p=none):∀ {l:List (D × D)} {ks:List (Key × V)},KVR (AV K (Wn Z ρ) H) l ks→KVR (AX K (Wn Z (ρ++[p])) (ρ++[p]) (upd H p (.dK ks0))) (l.map fun p=>(p.1,Bv.X.d p.2)) ks
  | _,_, .nil => .nil
  | _ :: _,_ :: _, .cons h t => .cons ⟨h.1, .d (h.2.mv (fun b o w z=>⟨fun y=>by
      rcases y with y | y
      · exact w (.inl y)
      · rcases List.mem_append.mp y with y | y
        · exact w (.inr y)
        · have e:b=p:=by simpa using y
          rw [e,hp] at z
          exact (by cases z),U9 hp b o z⟩))⟩ (X24 st hp t)
theorem X9r:Y6x K (W14 K) Z96:=fun Z ρ S H Wx σ xs vs Q st a h=>by
  unfold Z96 at h
  split at h
  · rename_i x
    cases a with
    | cons ha t =>
      cases t
      cases q:dictOf S x with
      | none=>rw [q] at h; exact h.elim
      | some l =>
        rw [q] at h
        refine X0g st ha q fun ks kv p hp=>?_
        have k:=U9 (o := .dK ks) hp
        have go:=X24 (ρ:=ρ) (ks0:=ks) st hp kv
        obtain ⟨s1,g1⟩:=st.push (o' := .dic (l.map fun p=>(p.1, .d p.2))) hp k ⟨ks,upd_same,go⟩
        exact h _ _ _ s1 g1 (.r (by rw [st.len]; simp))
  · exact h.elim
end
section
variable {X:Cx} {Wx:WX} {pos p:Pos} {x:Str} {e:Expr} {es:List Expr} {ms:MG (List Bv.X)}
theorem X6j (hcm:X.calm=true) (hg:Gl X x) (hm:X.mg x=none) (ha:MA X Wx (e :: es) ms) (hv:bootBuiltins x=some (.type "dict"):=by rfl) (hn:x ≠ "__name__" := by decide) (hdb:(x == ("__debug__" : Str))=false:=by decide)
    (he:starEach (e :: es) X.env=(false,eval e X.env) :: starEach es X.env:=by rfl) (hpl:(backTo pos (starEach es X.env)).any (·.1)=false:=by rfl):ME X Wx (.Call (.Name x p) (e :: es) [] pos) (Z8 Z96 ms):=Z2w (W3q hcm) X9r hg hm ha hv hn hdb he hpl
end
end Bv
namespace Bv
open PySem PySem.Spec L2
open PyProof.Rows hiding St
variable [HasW]
section
variable {X:Cx} {Wx:WX} {pos p1 p2 p3:Pos} {o e:Expr} {mo m:M} {n:Nat}
end
section
variable {X:Cx} {Wx:WX} {k j:Nat} {C f:Str} {fa:Addr} {fd:FuncData} {ps:List Str} {sp:Sp} {e:Expr} {pos:Pos} {g:List D→PR} {mo:M}
end
end Bv
namespace Bv
open PySem PySem.Spec L2
open PyProof.Rows hiding St
variable [HasW]
section
variable {X:Cx} {Wx:WX} {k:Nat}
end
section
variable {X:Cx} {Wx:WX} {pos p:Pos} {x:Str} {C:Str} {g:List Bv.X→Sto→R Bv.X}
end
end Bv
namespace Bv
open PySem PySem.Spec L2
open PyProof.Rows hiding St
variable [HasW]
section
variable {X:Cx} {Wx:WX} {pos:Pos} {a b c:Expr} {ms:MG (List Bv.X)}
def Y3x (i j l:Nat) (ms:MG (List Bv.X)):MS:=fun e S=>(ms e S).so e fun xs S1=>match xs with
  | [x,y,z] => .go (.nx (((e.set i (some x)).set j (some y)).set l (some z))) S1
  | _ => .bad
theorem W1a {i j l:Nat} {x y z:Str} {px py pz pt:Pos} {kt k2 pt2} (hc:X.calm=true) (hN:X.N.Nodup) (hi:X.N[i]?=some x) (hj:X.N[j]?=some y) (hl:X.N[l]?=some z) (hij:i ≠ j) (hil:i ≠ l) (hjl:j ≠ l)
    (hx:X.env.scope.names.lookup x=some .local) (hy:X.env.scope.names.lookup y=some .local) (hz:X.env.scope.names.lookup z=some .local) (ha:MA X Wx [a,b,c] ms)
    (hw:swappedStores [.Tuple [.Name x px, .Name y py, .Name z pz] kt pt] (.Tuple [a,b,c] k2 pt2) X.env=pure (some [x,y,z]):=by rfl)
    (hs:swapsWithSole [.Tuple [.Name x px, .Name y py, .Name z pz] kt pt] (.Tuple [a,b,c] k2 pt2) pos.line X.env=pure false:=by rfl) :
    MP X Wx (.Assign [.Tuple [.Name x px, .Name y py, .Name z pz] kt pt] (.Tuple [a,b,c] k2 pt2) pos) (Y3x i j l ms):=PS.of (ps_par3 hc hN hi hj hl hij hil hjl hx hy hz ha hw hs) fun D σ H ⟨Z,ρ,e,S,st,ev,p⟩=>Z1i (rel:=AXs X.K) st ev p fun ρ1 H1 vs xs S1 s1 g1 ev1 a1 p1=>by
  match xs,vs,a1,p1 with
  | [x,y,z],_, .cons h1 (.cons h2 (.cons h3 .nil)),p1=>exact ⟨_,_,_,rfl,p1.next s1 (((ev1.set h1).set h2).set h3)⟩
  | [],_,_,p1=>exact p1.elim
  | [_],_,_,p1=>exact p1.elim
  | [_,_],_,_,p1=>exact p1.elim
  | _ :: _ :: _ :: _ :: _,_,_,p1=>exact p1.elim
end
end Bv
namespace Bv
open PySem PySem.Spec L2
open PyProof.Rows hiding St
variable [HasW]
end Bv
namespace Bv
open PySem PySem.Spec L2
open PyProof.Rows hiding St
variable [HasW]
def lfV:Leaf→V→Prop
  | .none,v=>v = .non
  | .num i,v=>v = .int i ∨ ∃ b,v = .bl b∧(if b=true then (1:Int) else 0)=i
  | .text x,v=>v = .str x
theorem W7v {k:Leaf} {v:V} {u:Value} (h:lfV k v) (r:RelV v u):Leaf.isOf k u=true:=by
  cases k with
  | none =>
    have h:v = .non:=h
    subst h
    cases (show u=Value.none from r)
    rfl
  | num i =>
    rcases (show v = .int i ∨ ∃ b,v = .bl b∧(if b=true then (1:Int) else 0)=i from h) with h | ⟨b,h,e⟩
    · subst h
      obtain ⟨t,rfl⟩:=(show ∃ t,u=Value.int i t from r)
      exact decide_eq_true rfl
    · subst h
      cases (show u=Value.bool b from r)
      exact decide_eq_true e
  | text x =>
    have h:v = .str x:=h
    subst h
    obtain ⟨t,rfl⟩:=(show ∃ t,u=Value.str x t from r)
    show (x == x)=true
    simp
abbrev LVs:List Leaf→List V→Prop:=Paired lfV
theorem Y9l {P:Program} {w:World}:∀ {ks:List Leaf} {vs:List V} {us:List Value},LVs ks vs→Vals vs us→ItemsAre (leafKind P w) ks us
  | _,_,_, .nil,r=>by cases r; exact .nil
  | _,_,_, .cons h t,r=>by
    cases r with
    | cons a b=>exact .cons (W7v h a) (Y9l t b)
def Y6v (K:PySem.W.Frag) (H:Hp) (b:Addr) (ks:List Leaf):Prop:=∃ vs,SqT K H b vs∧LVs ks vs
abbrev TX:=List Leaf × Addr × V
structure DTat (K:PySem.W.Frag) (H:Hp) (a:Addr) (xs:List TX):Prop where
  at_:Rd H a (TDo a xs)
  keys:∀ q ∈ xs,Y6v K H q.2.1 q.1
abbrev KTx:List TX→List (List Leaf × Addr × Value)→Prop:=Paired fun p q=>p.1=q.1∧p.2.1=q.2.1∧RelV p.2.2 q.2.2
def atT (xs:List TX) (k:List Leaf):Option V:=(xs.find? fun x=>decide (x.1=k)).map (·.2.2)
def Y59 (xs:List TX) (k:List Leaf) (b:Addr) (v:V):List TX:=if (xs.any fun x=>decide (x.1=k))=true then xs.map (fun x=>if x.1=k then (x.1,x.2.1,v) else x) else xs++[(k,b,v)]
theorem KTx.val {xs:List TX} {ys:List (List Leaf × Addr × Value)} (r:KTx xs ys) (k:List Leaf):RelO (atT xs k) ((atKey ys k).map (·.2)):=by
  induction r with
  | nil=>exact True.intro
  | @cons p q ps qs h t ih =>
    obtain ⟨h1,_,h2⟩:=h
    by_cases e:p.1=k
    · have e':q.1=k:=h1.symm.trans e
      have b:atKey (q :: qs) k=some q.2:=by simp [atKey,List.find?_cons,e']
      have a:atT (p :: ps) k=some p.2.2:=by simp [atT,List.find?_cons,e]
      rw [a,b]; exact h2
    · have e':¬ q.1=k:=fun z=>e (h1.trans z)
      have b:atKey (q :: qs) k=atKey qs k:=by simp [atKey,List.find?_cons,e']
      have a:atT (p :: ps) k=atT ps k:=by simp [atT,List.find?_cons,e]
      rw [a,b]; exact ih
theorem KTx.any {xs:List TX} {ys:List (List Leaf × Addr × Value)} (r:KTx xs ys) (k:List Leaf):(xs.any fun x=>decide (x.1=k))=(atKey ys k).isSome:=by
  induction r with
  | nil=>rfl
  | @cons p q ps qs h t ih =>
    obtain ⟨h1,_,h2⟩:=h
    rw [List.any_cons,ih]
    by_cases e:p.1=k
    · have e':q.1=k:=h1.symm.trans e
      have b:atKey (q :: qs) k=some q.2:=by simp [atKey,List.find?_cons,e']
      rw [b,decide_eq_true e]; rfl
    · have e':¬ q.1=k:=fun z=>e (h1.trans z)
      have b:atKey (q :: qs) k=atKey qs k:=by simp [atKey,List.find?_cons,e']
      rw [b,decide_eq_false e]; rfl
theorem KTx.put {xs:List TX} {ys:List (List Leaf × Addr × Value)} (r:KTx xs ys) (k:List Leaf) (b:Addr) {v:V} {u:Value} (ru:RelV v u):KTx (Y59 xs k b v) (storedH ys k b u):=by
  unfold Y59 storedH
  rw [r.any k]
  split
  · have g:∀ {xs:List TX} {ys:List (List Leaf × Addr × Value)},KTx xs ys→KTx (xs.map fun x=>if x.1=k then (x.1,x.2.1,v) else x) (ys.map (putAt k u)):=by
      intro xs ys r
      induction r with
      | nil=>exact .nil
      | @cons p q ps qs h t ih =>
        obtain ⟨h1,h2,h3⟩:=h
        rw [List.map_cons,List.map_cons]
        refine .cons ?_ ih
        unfold putAt
        by_cases e:p.1=k
        · rw [if_pos e,if_pos (h1.symm.trans e)]; exact ⟨h1,h2,ru⟩
        · rw [if_neg e,if_neg (fun z=>e (h1.trans z))]; exact ⟨h1,h2,h3⟩
    exact g r
  · exact Paired.append r (.cons ⟨rfl,rfl,ru⟩ .nil)
theorem Y85 {P:Program} {w:World} (hw:w=HasW.w) (x:List Leaf × Addr × Value):entryOfKey (tupleKind (leafKind P w)) x=(⟨W0u x.1, .ref x.2.1,x.2.2⟩:DictEntry):=by
  subst hw
  rfl
section
variable {X:Cx} {pins:List (Addr × Obj)} {σ:L2.St} {H:Hp} {s:Shared} {a b:Addr} {y v:V} {u r:Value} {A:Around} {E:Value→Shared→Prop} {xs:List TX} {k:List Leaf}
theorem Y2x (I:Inv X pins σ H s) (t:Y6v X.K H b k):(tupleKind (leafKind X.prog X.w)).is s.heap k b:=by
  obtain ⟨vs,q,l⟩:=t
  obtain ⟨its,rv,⟨o,ho,hc,n,hd⟩,_⟩:=I.tuple q
  exact ⟨o,its.toArray,n,ho,hc,hd,by simpa using Y9l l rv⟩
theorem Y5i (hw:X.w=HasW.w) (I:Inv X pins σ H s) (d:DTat X.K H a xs):(a == sysModules)=false∧∃ ys,KTx xs ys∧s.heap.DictOfH (tupleKind (leafKind X.prog X.w)) a ys:=by
  have ok:ObjOk X.prog X.w H s.heap a (TDo a xs):=d.at_.ok I.hok
  obtain ⟨⟨hd,ys,rel,o,es,ep,h1,h2,h3,h4,h5⟩,_⟩:=ok
  refine ⟨hd,ys,rel,o,es,ep,h1,h2,h3,?_,fun x hx=>?_,h5⟩
  · rw [h4]
    exact List.map_congr_left fun x _=>(Y85 hw x).symm
  · have all:∀ {l:List TX} {m:List (List Leaf × Addr × Value)},KTx l m→(∀ q ∈ l,Y6v X.K H q.2.1 q.1)→∀ x ∈ m,(tupleKind (leafKind X.prog X.w)).is s.heap x.1 x.2.1:=by
      intro l m q
      induction q with
      | nil=>intro _ x hx; exact nomatch hx
      | @cons p q ps qs hq t ih =>
        intro hk x hx
        rcases List.mem_cons.mp hx with e | hx
        · subst e
          rw [← hq.1,← hq.2.1]
          exact Y2x I (hk p (List.mem_cons_self ..))
        · exact ih (fun z hz=>hk z (List.mem_cons_of_mem _ hz)) x hx
    exact all rel d.keys x hx
theorem X4z {Q:Value→Shared→Prop} (hw:X.w=HasW.w) (hu:A.units + 1 < cLine) (I:Inv X pins σ H s) (d:DTat X.K H a xs) (t:Y6v X.K H b k) (l:atT xs k=some v) (h:∀ w' s',Inv X pins σ H s'→RelV v w'→Q w' s') :
    wpAny (model X.prog X.w) A (getItem (.ref a) (.ref b)) Q E s:=by
  obtain ⟨hd,ys,rel,dd⟩:=Y5i hw I d
  obtain ⟨w',hw',rw'⟩:=RelO.some_of (v:=v) (o:=(atKey ys k).map (·.2)) (by rw [← l]; exact rel.val k)
  obtain ⟨p,hp,hp2⟩:=Option.map_eq_some_iff.mp hw'
  refine wpAny_getItem_heap (tupleKind_room_in1 hu) (Y2x I t) dd hp ?_
  rw [hp2]
  exact h w' _ (I.tok _) rw'
theorem W2y {Q:Value→Shared→Prop} (hw:X.w=HasW.w) (hu:A.units + 1 < cLine) (I:Inv X pins σ H s) (d:DTat X.K H a xs) (t:Y6v X.K H b k) (h:∀ s',Inv X pins σ H s'→Q (.bool (!(atT xs k).isSome)) s') :
    wpAny (model X.prog X.w) A (compareOp .NotIn (.ref b) (.ref a)) Q E s:=by
  obtain ⟨hd,ys,rel,dd⟩:=Y5i hw I d
  refine wpAny_notIn_heap (tupleKind_room_in1 hu) (Y2x I t) hd dd ?_
  have q:=(rel.val k).isSome_eq
  rw [Option.isSome_map] at q
  rw [← q]
  exact h _ (I.tok _)
theorem X45 {H':Hp} {h':Heap} {ys:List (List Leaf × Addr × Value)} (hw:X.w=HasW.w) (hd:(a == sysModules)=false) (rel:KTx xs ys) (dd:h'.DictOfH (tupleKind (leafKind X.prog X.w)) a ys):ObjOk X.prog X.w H' h' a (TDo a xs):=by
  obtain ⟨o,es,ep,h1,h2,h3,h4,_,h5⟩:=dd
  have e4:es.toList=ys.map (fun x=>(⟨W0u x.1, .ref x.2.1,x.2.2⟩:DictEntry)):=by
    rw [h4]
    exact List.map_congr_left fun x _=>Y85 hw x
  exact ⟨⟨hd,ys,rel,o,es,ep,h1,h2,h3,e4,h5⟩,⟨o,h1⟩,fun g1 g2 ⟨hd,ys,rel,o,es,ep,h1,h2,h3,h4,h5⟩ st=>⟨hd,ys,rel,o,es,ep,st o h1,h2,h3,h4,h5⟩⟩
theorem X42 {Q:Unit→Shared→Prop} (hw:X.w=HasW.w) (hu:A.units + 1 < cLine) (I:Inv X pins σ H s) (e:H a=some (TDo a xs)) (hk:∀ q ∈ xs,Y6v X.K H q.2.1 q.1) (t:Y6v X.K H b k) (hl:xs.length < sizeLine) (rv:RelV v r)
    (h:∀ s',Inv X pins σ (upd H a (TDo a (Y59 xs k b v))) s'→Q () s'):wpAny (model X.prog X.w) A (setItem (.ref a) (.ref b) r) Q E s:=by
  obtain ⟨hd,ys,rel,dd⟩:=Y5i hw I ⟨.inl e,hk⟩
  have hz:ys.length ≤ sizeLine:=by rw [← Paired.length rel]; omega
  refine wpAny_setItem_heap (hsz:=hz) (tupleKind_room_in1 hu) (Y2x I t) dd fun h' dd' hs=>h _ ?_
  have he:∃ q,h'.get? a=some q:=let ⟨q,_,_,hq,_⟩:=dd'; ⟨q,hq⟩
  exact d_write I (by rw [e]; exact True.intro) hs he (X45 hw hd (rel.put k b rv) dd')
end
def W8q (K:PySem.W.Frag) (td ty:TE):TE:=fun σ H Q=>td σ H fun x H1=>ty σ H1 fun y H2=>∃ a b xs k v,x = .ref a∧y = .ref b∧DTat K H2 a xs∧Y6v K H2 b k∧atT xs k=some v∧Q v H2
def W9j (K:PySem.W.Frag) (neg:Bool) (ty td:TE):TE:=fun σ H Q=>ty σ H fun y H1=>td σ H1 fun x H2=>∃ a b xs k,x = .ref a∧y = .ref b∧DTat K H2 a xs∧Y6v K H2 b k∧Q (.bl ((atT xs k).isSome ^^ neg)) H2
def W8n (K:PySem.W.Frag) (td ty tv:TE):TS:=fun D σ H=>tv σ H fun v H1=>td σ H1 fun x H2=>ty σ H2 fun y H3=>∃ a b xs k,x = .ref a∧y = .ref b∧H3 a=some (TDo a xs)∧(∀ q ∈ xs,Y6v K H3 q.2.1 q.1)∧Y6v K H3 b k∧xs.length < sizeLine∧D.nx σ (upd H3 a (TDo a (Y59 xs k b v)))
def W8r (K:PySem.W.Frag) (tk tv:TE):TE:=fun σ H Q=>∀ p,H p=none→tk σ (upd H p (TDo p [])) fun y H1=>tv σ H1 fun v H2=>∃ b k,y = .ref b∧H2 p=some (TDo p [])∧Y6v K H2 b k∧Q (.ref p) (upd H2 p (TDo p [(k,b,v)]))
section
variable {X:Cx} {o i e f value:Expr} {pos pos' tpos apos cpos:Pos} {td ty tv tx:TE}
theorem X5v {pins:List (Addr × Obj)} {σ:L2.St} {H:Hp} {s:Shared} {a:Addr} {xs:List TX} (hw:X.w=HasW.w) (I:Inv X pins σ H s) (d:DTat X.K H a xs):s.TypeIs (.ref a) "dict" ∧ (∀ b,Value.ref a = .ref b→∃ ob,s.heap.get? b=some ob∧ob.dict=none):=by
  obtain ⟨_,ys,rel,dd⟩:=Y5i hw I d
  refine ⟨dd.typeIs,fun b q=>?_⟩
  cases q
  obtain ⟨ob,_,_,h1,h2,_⟩:=dd
  exact ⟨ob,h1,h2.2.1⟩
theorem W1u (hw:X.w=HasW.w) (hu:X.A.units + 1 < cLine) (ho:PE X o td) (hi:PE X i ty) (hs:NoSl i):PE X (.Subscript o i pos) (W8q X.K td ty):=by
  refine ⟨fun pins s σ H Q I h=>?_⟩
  refine subD_of PySem.F.slot_dict_getitem.lookup hs (thn (ho.run pins s σ H _ I h) fun u s1 ⟨x,H1,I1,rx,q1⟩=>thn (hi.run pins s1 σ H1 _ I1 q1) fun iv s2 ⟨y,H2,I2,ry,a,b,xs,k,v,ex,ey,d,t,l,q2⟩=>?_)
  subst ex ey
  obtain rfl:u=Value.ref a:=rx
  obtain rfl:iv=Value.ref b:=ry
  exact ⟨(X5v hw I2 d).1,X4z hw hu I2 d t l fun w' s3 I3 rw'=>⟨v,H2,I3,rw',q2⟩⟩
theorem X4a (hw:X.w=HasW.w) (hu:X.A.units + 1 < cLine) (hi:PE X i ty) (ho:PE X o td):PC X .NotIn i o (W9j X.K true ty td):=by
  refine ⟨fun pins s σ H Q I h=>?_⟩
  refine thn (hi.run pins s σ H _ I h) fun iv s1 ⟨y,H1,I1,ry,q1⟩=>thn (ho.run pins s1 σ H1 _ I1 q1) fun u s2 ⟨x,H2,I2,rx,a,b,xs,k,ex,ey,d,t,q2⟩=>?_
  subst ex ey
  obtain rfl:u=Value.ref a:=rx
  obtain rfl:iv=Value.ref b:=ry
  rw [Bool.xor_true] at q2
  exact W2y hw hu I2 d t fun s3 I3=>⟨.bl _,H2,I3,rfl,q2⟩
theorem W10 (hw:X.w=HasW.w) (hu:X.A.units + 1 < cLine) (ho:PE X o td) (hi:PE X i ty) (hv:PE X value tv) (hs:swapsWith value (some (.Subscript o i pos')) pos.line X.env=pure false) :
    PS X (.Assign [.Subscript o i pos'] value pos) (W8n X.K td ty tv):=by
  refine ⟨fun pins s σ H D I h=>?_⟩
  refine wpAny_Assign_Subscript (thn (hv.run pins s σ H _ I h) fun r s1 ⟨v,H1,I1,rv,q1⟩=>thn (ho.run pins s1 σ H1 _ I1 q1) fun u s2 ⟨x,H2,I2,rx,q2⟩=>thn (hi.run pins s2 σ H2 _ I2 q2) fun iv s3 ⟨y,H3,I3,ry,a,b,xs,k,ex,ey,ea,hk,t,hl,q3⟩=>?_) hs
  subst ex ey
  obtain rfl:u=Value.ref a:=rx
  obtain rfl:iv=Value.ref b:=ry
  exact X42 hw hu I3 ea hk t hl rv fun s4 I4=>⟨σ,_,I4,q3⟩
theorem X44 {H:Hp} {P:Program} {w:World} (h:Heap) (hb:sysModules < h.objs.size):ObjOk P w H (h.push { cls := .type "dict",data := .dict #[] }) h.objs.size (TDo h.objs.size []) :=
  ⟨⟨beq_eq_false_iff_ne.mpr (Ne.symm (Nat.ne_of_lt hb)),[], .nil,_,#[],0,Heap.get?_push_size _ rfl,⟨rfl,rfl,rfl⟩,rfl,rfl,List.nodup_nil⟩,⟨_,Heap.get?_push_size _ rfl⟩,fun g1 g2 ⟨hd,ys,rel,o,es,ep,h1,h2,h3,h4,h5⟩ st=>⟨hd,ys,rel,o,es,ep,st o h1,h2,h3,h4,h5⟩⟩
theorem W1v {kx:Expr} {tk:TE} (hw:X.w=HasW.w) (hu:X.A.units + 1 < cLine) (hk:PE X kx tk) (hv:PE X value tv):PE X (.Dict [some kx] [value] pos) (W8r X.K tk tv):=by
  refine ⟨fun pins s σ H Q I q=>?_⟩
  have hn:=I.hok.fresh (Nat.le_refl s.heap.objs.size)
  have I1:=I.laid (a:=s.heap.objs.size) (o:=TDo s.heap.objs.size []) (h':=s.heap.push { cls := .type "dict",data := .dict #[] }) (t':=s.toks) (fun _ _ q=>Heap.get?_push_of_some _ q) (Nat.le_refl _) (X44 s.heap I.big)
  refine wpAny_Dict_any rfl rfl (by simp) (by simp) (pairTrees_cons_walk (thn (hk.run pins _ σ _ _ I1 (q _ hn)) fun u s1 ⟨y,H1,J1,ry,q1⟩=>thn (hv.run pins s1 σ H1 _ J1 q1) fun w2 s2 ⟨v,H2,I2,rv,b,k,ey,e,t,q2⟩=>pairTrees_nil_walk ?_))
  subst ey
  obtain rfl:u=Value.ref b:=ry
  obtain ⟨hd,ys,rel,dd⟩:=Y5i hw I2 ⟨.inl e,fun _ h=>nomatch h⟩
  cases rel
  unfold storeAll
  rw [List.forIn_cons]
  refine wpAny_bind (wpAny_bind (wpAny_dictSet_heap (hsz:=Nat.zero_le _) (knd:=tupleKind (leafKind X.prog X.w)) (show X.A.units < cLine by omega) (Y2x I2 t) dd fun h' dd' hs=>wpAny_pure ?_))
  dsimp only
  rw [List.forIn_nil]
  refine wpAny_pure ⟨.ref s.heap.objs.size,_,?_,rfl,q2⟩
  have he:∃ q,h'.get? s.heap.objs.size=some q:=let ⟨q,_,_,hq,_⟩:=dd'; ⟨q,hq⟩
  exact d_write I2 (by rw [e]; exact True.intro) hs he (X45 hw hd (.cons ⟨rfl,rfl,rv⟩ .nil) dd')
end
end Bv
namespace Bv
open PySem PySem.Spec L2
open PyProof.Rows hiding St
variable [HasW]
section
variable {α:Type}
def Z6a (kvs:List (D × α)) (q:List Leaf):Option α:=(kvs.find? fun p=>decide (p.1.tkey?=some q)).map (·.2)
def X4d (kvs:List (D × α)) (k:D) (q:List Leaf) (v:α):List (D × α):=if (kvs.any fun p=>decide (p.1.tkey?=some q))=true then kvs.map (fun p=>if p.1.tkey?=some q then (p.1,v) else p) else kvs++[(k,v)]
end
def tdX (S:Sto):X→Option (List (D × X))
  | .d _=>none
  | .r n=>match S[n]? with
    | some (.tdc kvs)=>some kvs
    | some (.tfc kvs)=>some kvs
    | _=>none
def tkX (S:Sto) (x y:X):Option (List (D × X) × D × List Leaf):=(tdX S x).bind fun kvs=>match y with
  | .d k=>(k.tkey?).map fun q=>(kvs,k,q)
  | .r _=>none
def tdW (S:Sto):X→Option (List (D × X))
  | .d _=>none
  | .r n=>match S[n]? with
    | some (.tdc kvs)=>some kvs
    | _=>none
def tkW (S:Sto) (x y:X):Option (List (D × X) × D × List Leaf):=(tdW S x).bind fun kvs=>match y with
  | .d k=>(k.tkey?).map fun q=>(kvs,k,q)
  | .r _=>none
abbrev KVT (K:PySem.W.Frag) (W:Wd) (ρ:List Addr) (H:Hp):List (D × X)→List TX→Prop:=Paired fun (p:D × X) (q:TX)=>p.1.tkey?=some q.1∧AV K W H p.1 (.ref q.2.1)∧AX K W ρ H p.2 q.2.2
theorem X8r {K:PySem.W.Frag} {W:Wd} {H:Hp}:∀ {ds:List D} {vs:List V} {ks:List Leaf},AVs K W H ds vs→leafs? ds=some ks→LVs ks vs
  | _,_,_, .nil,e=>by cases e; exact .nil
  | d :: ds,v :: vs,ks, .cons h t,e=>by
    have e:(match d.leaf?,leafs? ds with
      | some k,some l=>some (k :: l)
      | _,_=>none)=some ks:=e
    cases q:d.leaf? with
    | none=>rw [q] at e; cases e
    | some k =>
      cases q2:leafs? ds with
      | none=>rw [q,q2] at e; cases e
      | some l =>
        rw [q,q2] at e
        cases e
        refine .cons ?_ (X8r t q2)
        cases h with
        | non=>cases q; rfl
        | bl b=>cases q; exact .inr ⟨b,rfl,rfl⟩
        | int i=>cases q; exact .inl rfl
        | str _=>cases q; rfl
        | _=>cases q
theorem Y44 {K:PySem.W.Frag} {W:Wd} {H:Hp} {k:D} {q:List Leaf} {v:V} (h:k.tkey?=some q) (a:AV K W H k v):∃ b,v = .ref b∧Y6v K H b q:=by
  cases k with
  | tup ds =>
    cases a with
    | tup t hs=>exact ⟨_,rfl,_,t.sq,X8r hs h⟩
  | _=>cases h
section
variable {K:PySem.W.Frag} {W W':Wd} {ρ ρ':List Addr} {H H':Hp} {kvs:List (D × X)} {xs:List TX} {q:List Leaf}
theorem KVT.mv (m:Mv W H W' H') (p:ρ <+: ρ') (h:KVT K W ρ H kvs xs):KVT K W' ρ' H' kvs xs:=Paired.mapP h fun _ _ z=>⟨z.1,z.2.1.mv m,z.2.2.mv m p⟩
theorem KVT.keys (h:KVT K W ρ H kvs xs):∀ t ∈ xs,Y6v K H t.2.1 t.1:=by
  induction h with
  | nil=>intro t ht; exact nomatch ht
  | @cons p x ps ys h1 _ ih =>
    intro t ht
    rcases List.mem_cons.mp ht with e | ht
    · subst e
      obtain ⟨b,e,tk⟩:=Y44 h1.1 h1.2.1
      cases e
      exact tk
    · exact ih t ht
theorem X46 {p:D × X} {x:TX} (h:p.1.tkey?=some x.1):decide (p.1.tkey?=some q)=decide (x.1=q):=by
  rw [h]
  by_cases e:x.1=q
  · rw [decide_eq_true e,decide_eq_true (by rw [e])]
  · rw [decide_eq_false e,decide_eq_false fun z=>e (Option.some.inj z)]
theorem KVT.look (h:KVT K W ρ H kvs xs) (q:List Leaf):(∃ d v,Z6a kvs q=some d∧atT xs q=some v∧AX K W ρ H d v) ∨ (Z6a kvs q=none∧atT xs q=none):=by
  induction h with
  | nil=>exact .inr ⟨rfl,rfl⟩
  | @cons p x ps ys h1 _ ih =>
    have e:=X46 (q:=q) h1.1
    unfold Z6a atT at *
    rw [List.find?_cons,List.find?_cons,e]
    cases c:decide (x.1=q) with
    | true=>exact .inl ⟨_,_,rfl,rfl,h1.2.2⟩
    | false=>exact ih
theorem KVT.put {k:D} {b:Addr} {d:X} {v:V} (h:KVT K W ρ H kvs xs) (hk:k.tkey?=some q) (ak:AV K W H k (.ref b)) (av:AX K W ρ H d v):KVT K W ρ H (X4d kvs k q d) (Y59 xs q b v):=by
  have ha:(kvs.any fun p=>decide (p.1.tkey?=some q))=(xs.any fun x=>decide (x.1=q)):=by
    induction h with
    | nil=>rfl
    | @cons p x ps ys h1 _ ih=>rw [List.any_cons,List.any_cons,ih,X46 h1.1]
  unfold X4d Y59
  rw [ha]
  split
  · have g:∀ {kvs:List (D × X)} {xs:List TX},KVT K W ρ H kvs xs→KVT K W ρ H (kvs.map fun p=>if p.1.tkey?=some q then (p.1,d) else p) (xs.map fun x=>if x.1=q then (x.1,x.2.1,v) else x):=by
      intro kvs xs h
      induction h with
      | nil=>exact .nil
      | @cons p x ps ys h1 _ ih =>
        rw [List.map_cons,List.map_cons]
        refine .cons ?_ ih
        have e:=X46 (q:=q) h1.1
        by_cases c:x.1=q
        · rw [if_pos c,if_pos (of_decide_eq_true (e.trans (decide_eq_true c)))]; exact ⟨h1.1,h1.2.1,av⟩
        · rw [if_neg c,if_neg (of_decide_eq_false (e.trans (decide_eq_false c)))]; exact h1
    exact g h
  · exact Paired.append h (.cons ⟨hk,ak,av⟩ .nil)
end
theorem W23 {S:Sto} {x y:X} {p:List (D × X) × D × List Leaf} (h:tkX S x y=some p):∃ n,x = .r n∧(S[n]?=some (.tdc p.1) ∨ S[n]?=some (.tfc p.1))∧y = .d p.2.1∧p.2.1.tkey?=some p.2.2:=by
  obtain ⟨kvs,h1,h2⟩:=Option.bind_eq_some_iff.mp h
  cases y with
  | r _=>cases h2
  | d k =>
    obtain ⟨q,hq,e⟩:=Option.map_eq_some_iff.mp (show (k.tkey?).map (fun q=>(kvs,k,q))=some p from h2)
    subst e
    cases x with
    | d _=>cases h1
    | r n =>
      refine ⟨n,rfl,?_,rfl,hq⟩
      unfold tdX at h1
      cases q2:S[n]? with
      | none=>simp only [q2] at h1; cases h1
      | some o =>
        simp only [q2] at h1
        cases o with
        | tdc kvs'=>cases h1; exact .inl rfl
        | tfc kvs'=>cases h1; exact .inr rfl
        | _=>cases h1
theorem W6k {K:PySem.W.Frag} {Z:Wd} {ρ:List Addr} {S:Sto} {H:Hp} {x y:Bv.X} {v u:V} {p:List (D × Bv.X) × D × List Leaf} (st:Sta K Z ρ S H) (a:AX K (Wn Z ρ) ρ H x v) (b:AX K (Wn Z ρ) ρ H y u) (h:tkX S x y=some p) :
    ∃ n c d xs,x = .r n∧ρ[n]?=some c∧(S[n]?=some (.tdc p.1) ∨ S[n]?=some (.tfc p.1))∧v = .ref c∧u = .ref d∧Rd H c (TDo c xs)∧KVT K (Wn Z ρ) ρ H p.1 xs∧Y6v K H d p.2.2∧AV K (Wn Z ρ) H p.2.1 (.ref d)∧p.2.1.tkey?=some p.2.2:=by
  obtain ⟨n,rfl,hS,rfl,hq⟩:=W23 h
  cases a with
  | r e =>
    rename_i c
    cases b with
    | d b =>
      obtain ⟨d,rfl,tk⟩:=Y44 hq b
      rcases hS with hS | hS
      · obtain ⟨xs,h1,kv⟩:=st.ob n _ _ hS e
        exact ⟨n,c,d,xs,rfl,e, .inl hS,rfl,rfl, .inl h1,kv,tk,b,hq⟩
      · obtain ⟨ob,xs,h1,kv⟩:=st.ob n _ _ hS e
        exact ⟨n,c,d,xs,rfl,e, .inr hS,rfl,rfl, .inr ⟨ob,h1⟩,kv,tk,b,hq⟩
theorem W22 {S:Sto} {x y:X} {p:List (D × X) × D × List Leaf} (h:tkW S x y=some p):∃ n,x = .r n∧S[n]?=some (.tdc p.1)∧y = .d p.2.1∧p.2.1.tkey?=some p.2.2:=by
  obtain ⟨kvs,h1,h2⟩:=Option.bind_eq_some_iff.mp h
  cases y with
  | r _=>cases h2
  | d k =>
    obtain ⟨q,hq,e⟩:=Option.map_eq_some_iff.mp (show (k.tkey?).map (fun q=>(kvs,k,q))=some p from h2)
    subst e
    cases x with
    | d _=>cases h1
    | r n =>
      refine ⟨n,rfl,?_,rfl,hq⟩
      unfold tdW at h1
      cases q2:S[n]? with
      | none=>simp only [q2] at h1; cases h1
      | some o =>
        simp only [q2] at h1
        cases o with
        | tdc kvs'=>cases h1; rfl
        | _=>cases h1
theorem W6j {K:PySem.W.Frag} {Z:Wd} {ρ:List Addr} {S:Sto} {H:Hp} {x y:Bv.X} {v u:V} {p:List (D × Bv.X) × D × List Leaf} (st:Sta K Z ρ S H) (a:AX K (Wn Z ρ) ρ H x v) (b:AX K (Wn Z ρ) ρ H y u) (h:tkW S x y=some p) :
    ∃ n c d xs,x = .r n∧ρ[n]?=some c∧S[n]?=some (.tdc p.1)∧v = .ref c∧u = .ref d∧H c=some (TDo c xs)∧KVT K (Wn Z ρ) ρ H p.1 xs∧Y6v K H d p.2.2∧AV K (Wn Z ρ) H p.2.1 (.ref d)∧p.2.1.tkey?=some p.2.2:=by
  obtain ⟨n,rfl,hS,rfl,hq⟩:=W22 h
  cases a with
  | r e =>
    rename_i c
    obtain ⟨xs,h1,kv⟩:=st.ob n _ _ hS e
    cases b with
    | d b =>
      obtain ⟨d,rfl,tk⟩:=Y44 hq b
      exact ⟨n,c,d,xs,rfl,e,hS,rfl,rfl,h1,kv,tk,b,hq⟩
def Y5v (mo mi:M):M:=fun e S=>(mo e S).bind fun x S1=>(mi e S1).bind fun y S2=>Z04 ((tkX S2 x y).bind fun p=>Z6a p.1 p.2.2) S2
def Y7n (neg:Bool) (mi mo:M):M:=fun e S=>(mi e S).bind fun y S1=>(mo e S1).bind fun x S2=>Z04 ((tkX S2 x y).map fun p => .d (.bl ((Z6a p.1 p.2.2).isSome ^^ neg))) S2
def W6v (y v:X) (S:Sto):R X:=match y with
  | .d k=>if k.tkey?.isSome then .ok (.r S.length) (S++[.tdc [(k,v)]]) else .bad
  | .r _ => .bad
def Y7o (mk mv:M):M:=fun e S=>(mk e S).ne.bind fun y S1=>(mv e S1).ne.bind fun v S2=>W6v y v S2
def X1l (S:Sto) (x y:X):Option (Nat × List (D × X) × D × List Leaf):=match x with
  | .r n=>(tkW S x y).bind fun p=>if decide (p.1.length < sizeLine) then some (n,p) else none
  | .d _=>none
def Y6c (mo mi mv:M):MS:=fun e S=>(mv e S).so e fun z S1=>(mo e S1).so e fun x S2=>(mi e S2).so e fun y S3=>match X1l S3 x y with
  | some p => .go (.nx e) (S3.set p.1 (.tdc (X4d p.2.1 p.2.2.1 p.2.2.2 z)))
  | none => .bad
section
variable {X:Cx} {Wx:WX} {pos pos' apos cpos:Pos} {o i e f value kx:Expr} {mo mi mx mv mk:M}
theorem W02 (hw:X.w=HasW.w) (hu:X.A.units + 1 < cLine) (ho:ME X Wx o mo) (hi:ME X Wx i mi) (hs:NoSl i:=by intro _ _; rfl):ME X Wx (.Subscript o i pos) (Y5v mo mi) :=
  PE.of (W1u hw hu ho hi hs) fun σ H Q ⟨Z,ρ,e,S,st,ev,p⟩=>X6 (rel:=AX X.K) st ev p fun ρ1 H1 v x S1 st1 g1 ev1 a1 p1=>X6 (rel:=AX X.K) st1 ev1 p1 fun ρ2 H2 u y S2 st2 g2 ev2 a2 p2=>by
    have ax:=a1.mv (g2.mv st1) g2.pre
    obtain ⟨d,hl,p3⟩:=(show Z55 X.K Z ρ2 H2 Wx σ Q (Z04 ((tkX S2 x y).bind fun p=>Z6a p.1 p.2.2) S2) from p2).opt
    obtain ⟨p,h1,h2⟩:=Option.bind_eq_some_iff.mp hl
    obtain ⟨n,c,b,xs,rfl,_,_,rfl,rfl,hc,kv,tk,_,_⟩:=W6k st2 ax a2 h1
    rcases kv.look p.2.2 with ⟨d2,w,e1,e2,aw⟩ | ⟨e1,_⟩
    · rw [h2] at e1; cases e1
      exact ⟨c,b,xs,p.2.2,w,rfl,rfl,⟨hc,kv.keys⟩,tk,e2,W5.ret0 p3 st2 aw⟩
    · rw [h2] at e1; cases e1
theorem W21 {neg:Bool} {σ:L2.St} {H:Hp} {Q:VK} (h:RE X.K Wx (Y7n neg mi mo) σ H Q):W9j X.K neg (RE X.K Wx mi) (RE X.K Wx mo) σ H Q:=by
  obtain ⟨Z,ρ,e,S,st,ev,p⟩:=h
  refine X6 (rel:=AX X.K) st ev p fun ρ1 H1 u y S1 st1 g1 ev1 a1 p1=>X6 (rel:=AX X.K) st1 ev1 p1 fun ρ2 H2 v x S2 st2 g2 ev2 a2 p2=>?_
  have ay:=a1.mv (g2.mv st1) g2.pre
  obtain ⟨d,hl,p3⟩:=(show Z55 X.K Z ρ2 H2 Wx σ Q (Z04 ((tkX S2 x y).map fun p => .d (.bl ((Z6a p.1 p.2.2).isSome ^^ neg))) S2) from p2).opt
  obtain ⟨p,h1,rfl⟩:=Option.map_eq_some_iff.mp hl
  obtain ⟨n,c,b,xs,rfl,_,_,rfl,rfl,hc,kv,tk,_,_⟩:=W6k st2 a2 ay h1
  have e:(Z6a p.1 p.2.2).isSome=(atT xs p.2.2).isSome:=by rcases kv.look p.2.2 with ⟨d2,w,e1,e2,_⟩ | ⟨e1,e2⟩ <;> rw [e1,e2] <;> rfl
  rw [e] at p3
  exact ⟨c,b,xs,p.2.2,rfl,rfl,⟨hc,kv.keys⟩,tk,W5.ret0 p3 st2 (.d (.bl _))⟩
theorem X69 (hw:X.w=HasW.w) (hu:X.A.units + 1 < cLine) (hi:ME X Wx i mi) (ho:ME X Wx o mo):PC X .NotIn i o (RE X.K Wx (Y7n true mi mo)):=⟨fun pins s σ H Q I h=>(X4a hw hu hi ho).run pins s σ H Q I (W21 h)⟩
theorem W1c (hw:X.w=HasW.w) (hu:X.A.units + 1 < cLine) (hi:ME X Wx i mi) (ho:ME X Wx o mo) (hb:behindInMarks .NotIn o=false:=by rfl):MT X Wx (.Compare i [.NotIn] [o] pos) (U3 (Y7n true mi mo)):=W76 (X69 hw hu hi ho) hb
theorem W1b (hw:X.w=HasW.w) (hu:X.A.units + 1 < cLine) (ho:ME X Wx o mo) (hi:ME X Wx i mi) (hv:ME X Wx value mv) (hs:swapsWith value (some (.Subscript o i pos')) pos.line X.env=pure false:=by rfl):MP X Wx (.Assign [.Subscript o i pos'] value pos) (Y6c mo mi mv) :=
  PS.of (W10 hw hu ho hi hv hs) fun D σ H ⟨Z,ρ,e,S,st,ev,q⟩=>by
    refine Z1i (rel:=AX X.K) st ev q fun ρ1 H1 w z S1 s1 g1 ev1 a1 q1=>Z1i (rel:=AX X.K) s1 ev1 q1 fun ρ2 H2 v x S2 s2 g2 ev2 a2 q2=>Z1i (rel:=AX X.K) s2 ev2 q2 fun ρ3 H3 u y S3 s3 g3 ev3 a3 q3=>?_
    have az:=(a1.mv (g2.mv s1) g2.pre).mv (g3.mv s2) g3.pre
    have ax:=a2.mv (g3.mv s2) g3.pre
    have q3:Z3j X.K Z ρ3 H3 Wx D (match X1l S3 x y with
      | some p => .go (.nx e) (S3.set p.1 (.tdc (X4d p.2.1 p.2.2.1 p.2.2.2 z)))
      | none => .bad):=q3
    cases h:X1l S3 x y with
    | none=>rw [h] at q3; exact q3.elim
    | some p =>
      rw [h] at q3
      have q9:Z3j X.K Z ρ3 H3 Wx D (.go (.nx e) (S3.set p.1 (.tdc (X4d p.2.1 p.2.2.1 p.2.2.2 z)))):=q3
      cases x with
      | d _=>cases h
      | r n =>
        obtain ⟨p2,h1,h2⟩:=Option.bind_eq_some_iff.mp (show (tkW S3 (.r n) y).bind (fun p=>if decide (p.1.length < sizeLine) then some (n,p) else none)=some p from h)
        obtain ⟨h3,h4⟩:=Z06 h2
        cases h4
        obtain ⟨n',c,b,xs,e0,ha,hS,rfl,rfl,hc,kv,tk,ak,hk⟩:=W6j s3 ax a3 h1
        cases e0
        have kv2:=kv.put hk ak az
        have inρ:c ∈ ρ3:=List.mem_of_getElem? ha
        have m:Mv (Wn Z ρ3) H3 (Wn Z ρ3) (upd H3 c (TDo c (Y59 xs p2.2.2 b w))):=fun b o hb z=>⟨hb,by rw [upd_ne (fun y=>hb (.inr (by rw [y]; exact inρ)))]; exact z⟩
        obtain ⟨s4,g4⟩:=s3.put (o' := .tdc (X4d p2.1 p2.2.1 p2.2.2 z)) (u:=TDo c (Y59 xs p2.2.2 b w)) ha (fun _ _ z=>by rw [hc] at z; cases z) ⟨_,upd_same,KVT.mv m (List.prefix_refl _) kv2⟩
        exact ⟨c,b,xs,p2.2.2,rfl,rfl,hc,kv.keys,tk,by rw [← Paired.length kv]; exact of_decide_eq_true h3,q9 ρ3 _ _ s4 g4 (ev3.mv (g4.mv s3) (List.prefix_refl _))⟩
theorem X6l (hw:X.w=HasW.w) (hu:X.A.units + 1 < cLine) (hk:ME X Wx kx mk) (hv:ME X Wx value mv):ME X Wx (.Dict [some kx] [value] pos) (Y7o mk mv) :=
  PE.of (W1v hw hu hk hv) fun σ H Q ⟨Z,ρ,e,S,st,ev,p⟩=>fun a ha=>by
    have na:¬ Wn Z ρ a:=st.fresh ha
    have m0:Mv (Wn Z ρ) H (Wn (fun c=>Z c ∨ c=a) ρ) (upd H a (TDo a [])):=fun c o hc q=>by
      have ne:c ≠ a:=fun z=>by rw [z,ha] at q; cases q
      exact ⟨fun z=>z.elim (fun z=>z.elim (fun z=>hc (.inl z)) ne) fun z=>hc (.inr z),by rw [upd_ne ne]; exact q⟩
    have k0:=U9 (o:=TDo a []) ha
    have st0:Sta X.K (fun c=>Z c ∨ c=a) ρ S (upd H a (TDo a [])):=⟨st.nd,fun c hc=>by
      rcases hc with hc | rfl
      · obtain ⟨h1,o,h2⟩:=st.z c hc
        exact ⟨h1,o,k0 c o h2⟩
      · exact ⟨fun z=>na (.inr z),_,upd_same⟩,st.len,fun n o c e1 e2=>AO.mv m0 (List.prefix_refl _) (k0 c) (st.ob n o c e1 e2)⟩
    refine ⟨_,ρ,e,S,st0,ev.mv m0 (List.prefix_refl _),?_⟩
    have p:Z55 X.K Z ρ H Wx σ Q ((mk e S).ne.bind fun y S1=>(mv e S1).ne.bind fun v S2=>W6v y v S2):=p
    cases hm:mk e S with
    | err C fs S1=>rw [hm] at p; exact p.elim
    | bad=>rw [hm] at p; exact p.elim
    | ok y S1 =>
      rw [hm] at p
      have p:Z55 X.K Z ρ H Wx σ Q ((mv e S1).ne.bind fun v S2=>W6v y v S2):=p
      intro ρ1 H1 yv s1 g1 a1
      obtain ⟨n1,h1a⟩:=g1.keep a _ (fun z=>na (.inr z)) upd_same
      refine ⟨_,ρ1,e,S1,s1,(ev.mv m0 (List.prefix_refl _)).mv (g1.mv st0) g1.pre,?_⟩
      cases hm2:mv e S1 with
      | err C fs S2=>rw [hm2] at p; exact p.elim
      | bad=>rw [hm2] at p; exact p.elim
      | ok v S2 =>
        rw [hm2] at p
        have p:Z55 X.K Z ρ H Wx σ Q (W6v y v S2):=p
        intro ρ2 H2 w s2 g2 a2
        obtain ⟨n2,h2a⟩:=g2.keep a _ n1 h1a
        cases y with
        | r _=>exact p.elim
        | d k =>
          have p:Z55 X.K Z ρ H Wx σ Q (if k.tkey?.isSome then .ok (.r S2.length) (S2++[.tdc [(k,v)]]) else .bad):=p
          by_cases c:k.tkey?.isSome=true
          case neg=>rw [if_neg c] at p; exact p.elim
          rw [if_pos c] at p
          obtain ⟨q,hq⟩:=Option.isSome_iff_exists.mp c
          have a1':=a1.mv (g2.mv s1) g2.pre
          cases a1' with
          | d ak =>
            obtain ⟨b,rfl,tk⟩:=Y44 hq ak
            refine ⟨b,q,rfl,h2a,tk,?_⟩
            have nZ:∀ c,Z c→c ≠ a:=fun c hc z=>by
              obtain ⟨_,o,h2⟩:=st.z c hc
              rw [z,ha] at h2; cases h2
            have m2:Mv (Wn (fun c=>Z c ∨ c=a) ρ2) H2 (Wn Z (ρ2++[a])) (upd H2 a (TDo a [(q,b,w)])):=fun c o hc z=>by
              have ne:c ≠ a:=fun y=>hc (.inl (.inr y))
              refine ⟨fun y=>y.elim (fun y=>hc (.inl (.inl y))) fun y=>?_,by rw [upd_ne ne]; exact z⟩
              rcases List.mem_append.mp y with y | y
              · exact hc (.inr y)
              · exact ne (by simpa using y)
            have sN:Sta X.K Z (ρ2++[a]) (S2++[.tdc [(k,v)]]) (upd H2 a (TDo a [(q,b,w)])):=by
              refine ⟨?_,fun c hc=>⟨fun z=>?_,?_⟩,by rw [List.length_append,List.length_append,s2.len]; rfl,fun n o c e1 e2=>?_⟩
              · rw [List.nodup_append]
                exact ⟨s2.nd,by simp,fun x hx y hy z=>by
                  have:y=a:=by simpa using hy
                  subst this; subst z; exact n2 hx⟩
              · rcases List.mem_append.mp z with z | z
                · exact (s2.z c (.inl hc)).1 z
                · exact nZ c hc (by simpa using z)
              · obtain ⟨o,h2⟩:=(s2.z c (.inl hc)).2
                exact ⟨o,by rw [upd_ne (nZ c hc)]; exact h2⟩
              · by_cases hn:n < ρ2.length
                · rw [List.getElem?_append_left hn] at e2
                  rw [List.getElem?_append_left (by rw [s2.len]; exact hn)] at e1
                  have ne:c ≠ a:=fun z=>n2 (by rw [← z]; exact List.mem_of_getElem? e2)
                  exact AO.mv m2 (List.prefix_append _ _) (fun u z=>by rw [upd_ne ne]; exact z) (s2.ob n o c e1 e2)
                · rw [List.getElem?_append_right (by omega)] at e2
                  rw [List.getElem?_append_right (by rw [s2.len]; omega)] at e1
                  have hz:n - ρ2.length=0:=by
                    have:=(List.getElem?_eq_some_iff.mp e2).1
                    simp at this; omega
                  rw [hz] at e2
                  rw [s2.len,hz] at e1
                  cases e1; cases e2
                  exact ⟨_,upd_same, .cons ⟨hq,ak.mv m2,a2.mv m2 (List.prefix_append _ _)⟩ .nil⟩
            have gN:Go ρ H (ρ2++[a]) (upd H2 a (TDo a [(q,b,w)])):=by
              refine ⟨(g1.pre.trans g2.pre).trans (List.prefix_append _ _),fun c o hc z=>?_,fun c ob u z=>?_⟩
              · have ne:c ≠ a:=fun y=>by rw [y,ha] at z; cases z
                obtain ⟨h3,h4⟩:=g1.keep c o hc (k0 c o z)
                obtain ⟨h5,h6⟩:=g2.keep c o h3 h4
                exact ⟨fun y=>by
                  rcases List.mem_append.mp y with y | y
                  · exact h5 y
                  · exact ne (by simpa using y),by rw [upd_ne ne]; exact h6⟩
              · have ne:c ≠ a:=fun y=>by rw [y,ha] at z; cases z
                rw [upd_ne ne]
                exact g2.fz c ob u (g1.fz c ob u (k0 c _ z))
            exact p _ _ _ sN gN (.r (by rw [s2.len]; simp))
end
end Bv
namespace Bv
open PySem PySem.Spec L2
open PyProof.Rows hiding St
variable [HasW]
section
variable {P:Program} {w:World} {κ:Type} [DecidableEq κ] {knd:PySem.KeyKind P w κ} {A:Around} {E:Value→Shared→Prop} {s:Shared} {a:Addr} {xs:List κ} {k:κ} {x:Value}
def W60 (knd:PySem.KeyKind P w κ) (e:Int × Value) (k:κ):Prop:=knd.is k e.2=true∧e.1=knd.hash k∧e.2.scannable=true
structure TabOk (knd:PySem.KeyKind P w κ) (es:Array (Int × Value)) (t:SetTable) (ks xs:List κ):Prop where
  good:Paired (W60 knd) es.toList ks
  perm:ks.Perm xs
  nd:xs.Nodup
  few:es.size < scanBound
  fits:t.fits es.size=true
  ris:Ris t.place.toList
  led:w.params.followText "set-order" = true ∨ t.led=true
end
section
variable {P:Program} {w:World} {A:Around} {E:Value→Shared→Prop} {s:Shared} {a:Addr} {xs:List Str}
end
end Bv
namespace Bv
open PySem PySem.Spec L2
open PyProof.Rows hiding St
variable [HasW]
section
variable {X:Cx}
end
end Bv
namespace Bv
open PySem PySem.Spec L2
open PyProof.Rows hiding St
variable [HasW]
section
variable {X:Cx}
end
end Bv
namespace Bv
open PySem PySem.Spec L2
open PyProof.Rows hiding St
variable [HasW]
section
variable {X:Cx} {Wx:WX} {pos p:Pos} {tg iter elt c:Expr} {ifs:List Expr} {mi:MIt} {mt:MG Bool} {me:M} {t:Tg} {vs:List Nat}
end
end Bv
namespace Bv
open PySem PySem.Spec L2
open PyProof.Rows hiding St
section
variable [HasW] {X:Cx} {Wx:WX} {k j n:Nat} {f:Addr} {dxs:List D}
end
end Bv
namespace Bv
open PySem PySem.Spec L2
open PyProof.Rows hiding St
variable [HasW]
def Y6b (ts:List Tg) (ms:MG (List Bv.X)):MS:=fun e S=>(ms e S).so e fun xs S1=>if xs.length ≤ sizeLine then (match Tg.asgs S1 ts xs e with
  | some e1 => .go (.nx e1) S1
  | none => .bad) else .bad
section
variable {X:Cx} {Wx:WX} {pos pt p2:Pos} {es tgs:List Expr} {k1 k2} {ms:MG (List Bv.X)} {ts:List Tg}
theorem W09 (hc:X.calm=true) (ha:MA X Wx es ms) (hg:PGs X tgs (W3j X.K ts)) (hn:(assignEach tgs X.env).length=ts.length:=by rfl) (hst:(assignEach tgs X.env).findIdx? (·.1)=none:=by rfl)
    (hs:swapsWithSole [.Tuple tgs k1 pt] (.Tuple es k2 p2) pos.line X.env=pure false:=by rfl) (hw:swappedStores [.Tuple tgs k1 pt] (.Tuple es k2 p2) X.env=pure none:=by rfl)
    (h1:(assignEach [.Tuple tgs k1 pt] X.env).map (·.2)=[assign (.Tuple tgs k1 pt) X.env]:=by rfl) :
    MP X Wx (.Assign [.Tuple tgs k1 pt] (.Tuple es k2 p2) pos) (Y6b ts ms):=PS.of (ps_asg (pe_tup ha) (pg_tup hc hg hn hst) hs hw h1) fun D σ H ⟨Z,ρ,e,S,st,ev,p⟩ =>
  Z1i (rel:=AXs X.K) st ev p fun ρ1 H1 vs xs S1 s1 g1 ev1 a1 q1=>by
    have q1:Z3j X.K Z ρ1 H1 Wx D (if xs.length ≤ sizeLine then (match Tg.asgs S1 ts xs e with
      | some e1 => .go (.nx e1) S1
      | none => .bad) else .bad):=q1
    by_cases hl:xs.length ≤ sizeLine
    · rw [if_pos hl] at q1
      cases q:Tg.asgs S1 ts xs e with
      | none=>rw [q] at q1; exact q1.elim
      | some e1 =>
        rw [q] at q1
        refine ⟨by rw [← Paired.length a1]; exact hl,fun l hp=>?_⟩
        have k:=U9 (o:=HO.tup vs) hp
        exact ⟨l,vs,rfl, .inl (.inl upd_same),by rw [← Paired.length a1]; exact Y35 q,Z,ρ1,e,S1,xs,e1,s1.grow k,ev1.mv (Z4k k) (List.prefix_refl _),AXs.mv (Z4k k) (List.prefix_refl _) a1,q,fun σ' ev' _=>q1 ρ1 _ σ' (s1.grow k) (Go.grow k) ev'⟩
    · rw [if_neg hl] at q1; exact q1.elim
end
end Bv
namespace Bv
open PySem PySem.Spec L2
open PyProof.Rows hiding St
variable [HasW]
theorem Sta.fill {K:PySem.W.Frag} {Z:Wd} {ρ ρ2:List Addr} {S S2:Sto} {H H2:Hp} {a:Addr} {u0 u:HO} {o':O} (st:Sta K Z ρ S H) (ha:H a=none) (g:Go ρ (upd H a u0) ρ2 H2) (s2:Sta K (fun c=>Z c ∨ c=a) ρ2 S2 H2)
    (new:Mv (Wn (fun c=>Z c ∨ c=a) ρ2) H2 (Wn Z (ρ2++[a])) (upd H2 a u)→AO K (Wn Z (ρ2++[a])) (ρ2++[a]) (upd H2 a u) o' a):Sta K Z (ρ2++[a]) (S2++[o']) (upd H2 a u)∧Go ρ H (ρ2++[a]) (upd H2 a u):=by
  have n2:a ∉ ρ2:=(s2.z a (.inr rfl)).1
  have k0:=U9 (o:=u0) ha
  have nZ:∀ c,Z c→c ≠ a:=fun c hc z=>by
    obtain ⟨_,o,h2⟩:=st.z c hc
    rw [z,ha] at h2; cases h2
  have m2:Mv (Wn (fun c=>Z c ∨ c=a) ρ2) H2 (Wn Z (ρ2++[a])) (upd H2 a u):=fun c o hc z=>by
    have ne:c ≠ a:=fun y=>hc (.inl (.inr y))
    refine ⟨fun y=>y.elim (fun y=>hc (.inl (.inl y))) fun y=>?_,by rw [upd_ne ne]; exact z⟩
    rcases List.mem_append.mp y with y | y
    · exact hc (.inr y)
    · exact ne (by simpa using y)
  refine ⟨⟨?_,fun c hc=>⟨fun z=>?_,?_⟩,by rw [List.length_append,List.length_append,s2.len]; rfl,fun n o c e1 e2=>?_⟩,(g.pre).trans (List.prefix_append _ _),fun c o hc z=>?_,fun c ob w z=>?_⟩
  · rw [List.nodup_append]
    exact ⟨s2.nd,by simp,fun x hx y hy z=>by
      have:y=a:=by simpa using hy
      subst this; subst z; exact n2 hx⟩
  · rcases List.mem_append.mp z with z | z
    · exact (s2.z c (.inl hc)).1 z
    · exact nZ c hc (by simpa using z)
  · obtain ⟨o,h2⟩:=(s2.z c (.inl hc)).2
    exact ⟨o,by rw [upd_ne (nZ c hc)]; exact h2⟩
  · by_cases hn:n < ρ2.length
    · rw [List.getElem?_append_left hn] at e2
      rw [List.getElem?_append_left (by rw [s2.len]; exact hn)] at e1
      have ne:c ≠ a:=fun z=>n2 (by rw [← z]; exact List.mem_of_getElem? e2)
      exact AO.mv m2 (List.prefix_append _ _) (fun u z=>by rw [upd_ne ne]; exact z) (s2.ob n o c e1 e2)
    · rw [List.getElem?_append_right (by omega)] at e2
      rw [List.getElem?_append_right (by rw [s2.len]; omega)] at e1
      have hz:n - ρ2.length=0:=by
        have:=(List.getElem?_eq_some_iff.mp e2).1
        simp at this; omega
      rw [hz] at e2
      rw [s2.len,hz] at e1
      cases e1; cases e2
      exact new m2
  · have ne:c ≠ a:=fun y=>by rw [y,ha] at z; cases z
    obtain ⟨h5,h6⟩:=g.keep c o hc (k0 c o z)
    exact ⟨fun y=>by
      rcases List.mem_append.mp y with y | y
      · exact h5 y
      · exact ne (by simpa using y),by rw [upd_ne ne]; exact h6⟩
  · have ne:c ≠ a:=fun y=>by rw [y,ha] at z; cases z
    rw [upd_ne ne]
    exact g.fz c ob w (k0 c _ z)
theorem Sta.ahead {K:PySem.W.Frag} {Z:Wd} {ρ:List Addr} {S:Sto} {H:Hp} {a:Addr} {u0:HO} (st:Sta K Z ρ S H) (ha:H a=none):Sta K (fun c=>Z c ∨ c=a) ρ S (upd H a u0)∧Mv (Wn Z ρ) H (Wn (fun c=>Z c ∨ c=a) ρ) (upd H a u0):=by
  have na:¬ Wn Z ρ a:=st.fresh ha
  have m0:Mv (Wn Z ρ) H (Wn (fun c=>Z c ∨ c=a) ρ) (upd H a u0):=fun c o hc q=>by
    have ne:c ≠ a:=fun z=>by rw [z,ha] at q; cases q
    exact ⟨fun z=>z.elim (fun z=>z.elim (fun z=>hc (.inl z)) ne) fun z=>hc (.inr z),by rw [upd_ne ne]; exact q⟩
  have k0:=U9 (o:=u0) ha
  exact ⟨⟨st.nd,fun c hc=>by
    rcases hc with hc | rfl
    · obtain ⟨h1,o,h2⟩:=st.z c hc
      exact ⟨h1,o,k0 c o h2⟩
    · exact ⟨fun z=>na (.inr z),_,upd_same⟩,st.len,fun n o c e1 e2=>AO.mv m0 (List.prefix_refl _) (k0 c) (st.ob n o c e1 e2)⟩,m0⟩
def Y5h (k1 k2:Str) (x y:X):List (D × X):=Z6d (Z6d [] (.str k1) x) (.str k2) y
def Y4n (k1 k2:Str) (m1 m2:M):M:=fun e S=>(m1 e S).ne.bind fun x S1=>(m2 e S1).ne.bind fun y S2 => .ok (.r S2.length) (S2++[.dic (Y5h k1 k2 x y)])
section
variable {X:Cx} {Wx:WX} {pos p1 p2:Pos} {n1 n2:Nat} {k1 k2:Str} {v1 v2:Expr} {m1 m2:M}
theorem X6k (q1:ME X Wx (.Constant (.str k1) n1 p1) (m_c (.str k1))) (q2:ME X Wx (.Constant (.str k2) n2 p2) (m_c (.str k2))) (h1:ME X Wx v1 m1) (h2:ME X Wx v2 m2):ME X Wx (.Dict [some (.Constant (.str k1) n1 p1),some (.Constant (.str k2) n2 p2)] [v1,v2] pos) (Y4n k1 k2 m1 m2) :=
  PE.of (pe_disp (pps_cons q1 h1 (pps_cons q2 h2 pps_nil)) rfl rfl (by simp) (by simp)) fun σ H Q ⟨Z,ρ,e,S,st,ev,p⟩=>fun a ha=>by
    obtain ⟨st0,m0⟩:=st.ahead (u0 := .dK []) ha
    have ev0:=ev.mv m0 (List.prefix_refl _)
    refine ⟨_,ρ,e,S,st0,ev0,?_⟩
    intro ρ0 H0 kv1 s0 g0 ak1
    have kv1e:kv1 = .str k1:=by cases ak1 with | d z=>cases z; rfl
    have ev00:=ev0.mv (g0.mv st0) g0.pre
    refine ⟨_,ρ0,e,S,s0,ev00,?_⟩
    have p:Z55 X.K Z ρ H Wx σ Q ((m1 e S).ne.bind fun x S1=>(m2 e S1).ne.bind fun y S2 => .ok (.r S2.length) (S2++[.dic (Y5h k1 k2 x y)])):=p
    cases hm:m1 e S with
    | err C fs S1=>rw [hm] at p; exact p.elim
    | bad=>rw [hm] at p; exact p.elim
    | ok x S1 =>
      rw [hm] at p
      have p:Z55 X.K Z ρ H Wx σ Q ((m2 e S1).ne.bind fun y S2 => .ok (.r S2.length) (S2++[.dic (Y5h k1 k2 x y)])):=p
      intro ρ1 H1 xv s1 g1 a1
      have ev1:=ev00.mv (g1.mv s0) g1.pre
      refine ⟨_,ρ1,e,S1,s1,ev1,?_⟩
      intro ρ1' H1' kv2 s1' g1' ak2
      have kv2e:kv2 = .str k2:=by cases ak2 with | d z=>cases z; rfl
      have ev2:=ev1.mv (g1'.mv s1) g1'.pre
      refine ⟨_,ρ1',e,S1,s1',ev2,?_⟩
      cases hm2:m2 e S1 with
      | err C fs S2=>rw [hm2] at p; exact p.elim
      | bad=>rw [hm2] at p; exact p.elim
      | ok y S2 =>
        rw [hm2] at p
        have p:Z55 X.K Z ρ H Wx σ Q (.ok (.r S2.length) (S2++[.dic (Y5h k1 k2 x y)])):=p
        intro ρ2 H2 yv s2 g2 a2
        have gg:=((g0.trans g1).trans g1').trans g2
        have na:a ∉ ρ:=fun z=>st.fresh ha (.inr z)
        have hH2:H2 a=some (.dK []):=(gg.keep a _ na upd_same).2
        refine ⟨hH2,[(.inr k1,xv),(.inr k2,yv)],by rw [kv1e,kv2e]; rfl,by simp,?_⟩
        have a1':=(a1.mv (g1'.mv s1) g1'.pre).mv (g2.mv s1') g2.pre
        have kv:KVR (AX X.K (Wn (fun c=>Z c ∨ c=a) ρ2) ρ2 H2) (Y5h k1 k2 x y) (mergeK [] [(.inr k1,xv),(.inr k2,yv)]):=KVR.put rfl a2 (KVR.put rfl a1' .nil)
        obtain ⟨sN,gN⟩:=st.fill (u := .dK (mergeK [] [(.inr k1,xv),(.inr k2,yv)])) (o' := .dic (Y5h k1 k2 x y)) ha gg s2 fun m2=>⟨_,upd_same,KVR.mv m2 (List.prefix_append _ _) kv⟩
        exact p _ _ _ sN gN (.r (by rw [s2.len]; simp))
end
end Bv
namespace Bv
open PySem PySem.Spec L2
open PyProof.Rows hiding St
section
open Builtin Builtin.Int
end
section
variable {prog:Program} {w:World} {A:Around} {E:Value→Shared→Prop} {s:Shared} {t:Tok}
end
variable [HasW]
def W8p (te:TE):TE:=fun σ H Q=>te σ H fun x H1=>(∃ y:Str,x = .str y∧y.length ≤ sizeLine∧Q (.str y) H1) ∨ (∃ i:Int,x = .int i∧i.natAbs.log2 < 1920∧Q (.str (toString i)) H1) ∨ ∃ b:Bool,x = .bl b∧Q (.str (if b then "True" else "False" : String)) H1
section
variable {X:Cx} {Wx:WX} {e:Expr} {te:TE} {pos p1 p2:Pos} {n:Nat} {m:M}
theorem W1t (he:PE X e te):PE X (.FormattedValue e (-1) none pos) (W8p te):=⟨fun pins s σ H Q I h=>by
  refine wpAny_FormattedValue_plain (thn (he.run pins s σ H _ I h) fun v s1 ⟨x,H1,I1,r1,q⟩=>?_)
  rcases q with ⟨y,rfl,hz,q⟩ | ⟨i,rfl,hz,q⟩ | ⟨b,rfl,q⟩
  · obtain ⟨t,rfl⟩:=r1; exact wpAny_formatField_str ⟨.str y,H1,I1,⟨t,rfl⟩,q⟩ ⟨.str y,H1,I1.tok _,⟨_,rfl⟩,q⟩ hz
  · obtain ⟨t,rfl⟩:=r1; exact wpAny_formatField_int hz ⟨.str (toString i),H1,I1.tok _,⟨_,rfl⟩,q⟩
  · obtain rfl:v = .bool b:=r1; exact wpAny_formatField_bool ⟨.str (if b then "True" else "False" : String),H1,I1.tok _,⟨_,by cases b <;> rfl⟩,q⟩⟩
def W3b:Bv.X→Option D
  | .d (.str y)=>if decide (y.length ≤ sizeLine) then some (.str y) else none
  | .d (.int i)=>if decide (i.natAbs.log2 < 1920) && PyData.strOk (toString i:String) then some (.str (toString i:String)) else none
  | .d (.bl b)=>some (.str (if b then "True" else "False" : String))
  | _=>none
def Z97 (m:M):M:=fun e S=>(m e S).bind fun x S1=>Z04 ((W3b x).map .d) S1
theorem X3c (h:ME X Wx e m):ME X Wx (.FormattedValue e (-1) none pos) (Z97 m):=PE.of (W1t h) fun σ H Q ⟨Z,ρ,e,S,st,ev,p⟩=>X6 (rel:=AX X.K) st ev p fun ρ1 H1 v x S1 s1 g1 ev1 a1 p1=>by
  obtain ⟨d0,hd0,p2⟩:=W5.opt p1
  obtain ⟨d,hd,rfl⟩:=Option.map_eq_some_iff.mp hd0
  clear hd0
  cases a1 with
  | r _=>cases hd
  | d a =>
    cases a with
    | str hz =>
      obtain ⟨c,hd⟩:=Z06 hd
      cases hd
      exact .inl ⟨_,rfl,of_decide_eq_true c,W5.ret0 p2 s1 (.d (.str hz))⟩
    | int i =>
      obtain ⟨c,hd⟩:=Z06 hd
      cases hd
      obtain ⟨c1,c2⟩:=Bool.and_eq_true_iff.mp c
      exact .inr (.inl ⟨_,rfl,of_decide_eq_true c1,W5.ret0 p2 s1 (.d (.str c2))⟩)
    | bl b=>cases hd; exact .inr (.inr ⟨b,rfl,W5.ret0 p2 s1 (.d (.str (by cases b <;> decide +kernel)))⟩)
    | _=>cases hd
def jsX (acc:Str):Bv.X→Option Str
  | .d (.str y)=>if decide ((acc++y).length ≤ sizeLine) then some (acc++y) else none
  | _=>none
def X1s (acc:Str):List M→M
  | []=>fun _ S=>if PyData.strOk acc then .ok (.d (.str acc)) S else .bad
  | m :: ms=>fun e S=>(m e S).bind fun x S1=>match jsX acc x with
    | some y=>X1s y ms e S1
    | none => .bad
inductive MJ (X:Cx) (Wx:WX):List Expr→List M→Prop where
  | nil:MJ X Wx [] []
  | cons {e:Expr} {m:M} {es:List Expr} {ms:List M} (h:ME X Wx e m) (r:MJ X Wx es ms):MJ X Wx (e :: es) (m :: ms)
theorem MJ.pj {es:List Expr} {ms:List M} (h:MJ X Wx es ms):PJ X es (ms.map fun m=>RE X.K Wx m):=by
  induction h with
  | nil=>exact .nil
  | cons h _ ih=>exact .cons h ih
theorem X8i {K:PySem.W.Frag} {σ:L2.St} {Q:VK}:∀ {ms:List M} {acc:Str} {H:Hp},RE K Wx (X1s acc ms) σ H Q→tJs (ms.map fun m=>RE K Wx m) acc σ H fun out H1=>Q (.str out) H1
  | [],acc,H,⟨Z,ρ,e,S,st,ev,p⟩=>by
    have p:Z55 K Z ρ H Wx σ Q (if PyData.strOk acc then .ok (.d (.str acc)) S else .bad):=p
    by_cases c:PyData.strOk acc=true
    · rw [if_pos c] at p; exact W5.ret0 p st (.d (.str c))
    · rw [if_neg c] at p; exact p.elim
  | m :: ms,acc,H,⟨Z,ρ,e,S,st,ev,p⟩=>X6 (rel:=AX K) st ev p fun ρ1 H1 v x S1 s1 g1 ev1 a1 p1=>by
    have p1:Z55 K Z ρ1 H1 Wx σ Q (match jsX acc x with
      | some y=>X1s y ms e S1
      | none => .bad):=p1
    cases q:jsX acc x with
    | none=>rw [q] at p1; exact p1.elim
    | some y =>
      rw [q] at p1
      cases a1 with
      | r _=>cases q
      | d a =>
        cases a with
        | str hz =>
          obtain ⟨c,q⟩:=Z06 q
          cases q
          exact ⟨_,rfl,of_decide_eq_true c,X8i ⟨Z,ρ1,e,S1,s1,ev1,p1⟩⟩
        | _=>cases q
theorem W72 {v1 v2:Expr} {rest:List Expr} {ms:List M} (h:MJ X Wx (v1 :: v2 :: rest) ms):ME X Wx (.JoinedStr (v1 :: v2 :: rest) pos) (X1s Str.empty ms):=PE.of (pe_joined h.pj) fun σ H Q h=>X8i h
theorem W4s (h:ME X Wx e m):ME X Wx (.JoinedStr [e] pos) m:=pe_joined1 h
end
end Bv
namespace Bv
open PySem PySem.Spec L2
open PyProof.Rows hiding St
variable [HasW]
section
variable {K:PySem.W.Frag}
end
section
variable {K:PySem.W.Frag}
end
section
variable {X:Cx} {Wx:WX} {apos cpos tpos pos p1 p2 p3 p:Pos} {e tg:Expr} {m:M} {n:Nat}
def X2t (S:Sto) (x:Bv.X):R Bv.X:=if V8 S x then (match items S x with
  | some ys => .ok (.r S.length) (S++[.lst ys.reverse])
  | none => .bad) else .bad
def Y5u (m:M):M:=fun e S=>(m e S).bind fun x S1=>X2t S1 x
theorem X9q {K:PySem.W.Frag} {W:Wd} {ρ:List Addr} {H:Hp} {xs:List Bv.X} {vs:List V} (h:AXs K W ρ H xs vs):AXs K W ρ H xs.reverse vs.reverse:=by
  induction h with
  | nil=>exact .nil
  | cons a _ ih=>rw [List.reverse_cons,List.reverse_cons]; exact Paired.append ih (.cons a .nil)
theorem W01 (h:ME X Wx e m):ME X Wx (.Subscript e (.Slice none none (some (.UnaryOp .USub (.Constant (.int 1) n p1) p2)) p3) pos) (Y5u m):=PE.of (pe_revL h) fun σ H Q ⟨Z,ρ,e,S,st,ev,p⟩=>X6 (rel:=AX X.K) st ev p fun ρ1 H1 v x S1 s1 g1 ev1 a1 q1=>by
  have q1:W5 (AX X.K) X.K Z ρ1 H1 Wx σ Q (X2t S1 x):=q1
  unfold X2t at q1
  split at q1
  · rename_i hl
    cases q:items S1 x with
    | none=>rw [q] at q1; exact q1.elim
    | some ys =>
      rw [q] at q1
      obtain ⟨b,us,rfl,hq,hp⟩:=a1.itemsL s1 q hl
      refine ⟨b,us,rfl, .inl (.inl hq),fun l hl=>?_⟩
      obtain ⟨s5,g5⟩:=s1.pushL hl (X9q hp)
      exact q1 _ _ _ s5 g5 (.r (by rw [s1.len]; simp))
  · exact q1.elim
end
end Bv
namespace Bv
open PySem PySem.Spec L2
open PyProof.Rows hiding St
variable [HasW]
section
variable {X:Cx} {Wx:WX} {tg a b c:Expr} {p pos:Pos} {ms:MG (List Bv.X)}
end
end Bv
namespace Bv
open PySem PySem.Spec L2
open PyProof.Rows hiding St
variable [HasW]
def W52:V→Option Str
  | .non=>some "None"
  | .bl b=>some (if b then "True" else "False")
  | .int i=>if decide (i.natAbs.log2 < 1920) then some (toString i:String) else none
  | .str x=>if decide ((reprText x).length ≤ sizeLine) then some (reprText x) else none
  | _=>none
abbrev X89:List V→Hp→VK→Prop:=fun xs H Q=>∃ v z,xs=[v]∧W52 v=some z∧Q (.str z) H
theorem X9v {X:Cx}:CallR X (.builtin "repr") X89:=fun pins s σ H xs us Q I r h=>by
  obtain ⟨v,z,rfl,e,q⟩:=h
  cases r with
  | cons r t =>
    cases t
    cases v with
    | non =>
      cases e
      rw [show _=Value.none from r]
      exact PySem.P.repr_of_none ⟨.str _,H,I.tok _,⟨_,rfl⟩,q⟩
    | bl b =>
      cases e
      rw [show _=Value.bool b from r]
      exact PySem.P.repr_of_bool ⟨.str _,H,I.tok _,⟨_,rfl⟩,by cases b <;> exact q⟩
    | int i =>
      obtain ⟨t,rfl⟩:=r
      obtain ⟨h1,h2⟩:=Z06 e
      cases h2
      exact PySem.P.repr_of_int (of_decide_eq_true h1) ⟨.str _,H,I.tok _,⟨_,rfl⟩,q⟩
    | str x =>
      obtain ⟨t,rfl⟩:=r
      obtain ⟨h1,h2⟩:=Z06 e
      cases h2
      exact PySem.P.repr_of_str ⟨.str _,H,I.tok _,⟨_,rfl⟩,q⟩ (of_decide_eq_true h1)
    | _=>cases e
def W5y:D→Option Str
  | .non=>some "None"
  | .bl b=>some (if b then "True" else "False")
  | .int i=>if decide (i.natAbs.log2 < 1920) then some (toString i:String) else none
  | .str x=>if decide ((reprText x).length ≤ sizeLine) then some (reprText x) else none
  | _=>none
def Y0e (d:D):Option Str:=(if X22 d then Y41 d else W5y d).bind fun z=>if PyData.strOk z then some z else none
def Z68:List Bv.X→Sto→R Bv.X
  | [x],S=>(match (x.get S).bind Y0e with
    | some z => .ok (.d (.str z)) S
    | none => .bad)
  | _,_ => .bad
abbrev X9a (K:PySem.W.Frag):List V→Hp→VK→Prop:=fun xs H Q=>X88 K xs H Q ∨ X89 xs H Q
theorem X14 {X:Cx} (gu:X.A.guards=some []) (room:Room 0 X.A):CallR X (.builtin "repr") (X9a X.K):=CallR.or (W3r gu room) X9v
theorem X7h {K:PySem.W.Frag} {W:Wd} {H:Hp} {d:D} {v:V} (h:AV K W H d v) {z:Str} (e:W5y d=some z):W52 v=some z:=by
  cases h with
  | non=>exact e
  | bl b=>exact e
  | int i=>exact e
  | str hx=>exact e
  | _=>cases e
theorem X10 {K:PySem.W.Frag}:Y6x K (X9a K) Z68:=fun Z ρ S H Wx σ xs vs Q st a h=>by
  unfold Z68 at h
  split at h
  · rename_i x
    cases a with
    | cons ha t =>
      cases t
      cases q:x.get S with
      | none=>rw [q] at h; exact h.elim
      | some d =>
        rw [q] at h
        have h:W5 (AX K) K Z ρ H Wx σ Q (match Y0e d with
          | some z => .ok (.d (.str z)) S
          | none => .bad):=h
        cases q2:Y0e d with
        | none=>rw [q2] at h; exact h.elim
        | some z =>
          rw [q2] at h
          have w:=ha.get st q
          unfold Y0e at q2
          obtain ⟨z2,q2,q4⟩:=Option.bind_eq_some_iff.mp q2
          obtain ⟨c5,e⟩:=Z06 q4
          cases e
          by_cases hb:X22 d=true
          · rw [if_pos hb] at q2
            obtain ⟨a,rfl⟩:=w.is_ref hb
            unfold Y41 at q2
            cases q3:d.py with
            | none=>rw [q3] at q2; cases q2
            | some p =>
              rw [q3] at q2
              obtain ⟨h1,h2⟩:=Z06 q2
              cases h2
              simp only [Bool.and_eq_true,decide_eq_true_eq] at h1
              obtain ⟨⟨⟨⟨c1,c2⟩,c3⟩,c4⟩,_⟩:=h1
              obtain ⟨dp,_⟩:=w.dp q3
              exact .inl ⟨a,p,rfl,dp,c1,by simpa using c2,of_decide_eq_true c3,c4,W5.ret0 h st (.d (.str c5))⟩
          · rw [if_neg hb] at q2
            cases w with
            | av w=>exact .inr ⟨_,_,rfl,X7h w q2,W5.ret0 h st (.d (.str c5))⟩
            | lst _ _=>cases q2
            | fdc _ _=>cases q2
  · exact h.elim
end Bv
namespace Bv
open PySem PySem.Spec L2
open PyProof.Rows hiding St
variable [HasW]
section
variable {X:Cx} {Wx:WX} {pos pt:Pos} {k1:Nat} {a:Expr} {tgs:List Expr} {ts:List Tg} {ma:M}
end
theorem X5d {K:PySem.W.Frag} {a b:Addr} {xs ys:List V}:Walk (RZ.ItzT K a b) (min xs.length ys.length) (fun H=>SqT K H a xs∧SqT K H b ys) (YPair (fun i=>xs[i]?) (fun i=>ys[i]?)) :=
  ⟨fun i _ hi q=>⟨xs,ys,xs[i]'(by omega),ys[i]'(by omega),q.1,q.2,by simp [show i < xs.length by omega],by simp [show i < ys.length by omega]⟩,fun _ q=>⟨xs,ys,q.1,q.2,by omega⟩,
    fun i H v H' _ q ⟨T,x,y,h1,h2,h3,h4,h5⟩=>⟨T,x,y,h1,h2,h3,h4 xs q.1,h5 ys q.2⟩⟩
def X7u:List Bv.X→Option (List Bv.X × Lk)
  | [.d (.tup ds), .d (.tup es)]=>some (Z8p ds es, .free)
  | [.d (.lst ds), .d (.lst es)]=>some (Z8p ds es, .free)
  | _=>none
def Y3l (ms:MG (List Bv.X)):MIt:=fun e S=>(ms e S).bind fun xs S1=>Z04 (X7u xs) S1
theorem X4u {K:PySem.W.Frag} {W:Wd} {ρ:List Addr} {H:Hp} {J:It} {G:Hp→Prop} {us ws:List V} {ds es:List D} (hs1:AVs K W H ds us) (hs2:AVs K W H es ws) (w:Walk J (min us.length ws.length) G (YPair (fun i=>us[i]?) (fun i=>ws[i]?)))
    (hg:∀ (Z2:Wd) (ρ2:List Addr) (H2:Hp),Mv W H (Wn Z2 ρ2) H2→G H2):Srv K W ρ H (Z8p ds es, .free) J :=
  ⟨G,_,by rw [show (Z8p ds es,Lk.free).1.length=min us.length ws.length by simp [Z8p,hs1.length,hs2.length]]; exact w,fun Z2 ρ2 S2 H2 st m p fz k=>⟨hg Z2 ρ2 H2 m,fun i x H3 y=>by
    obtain ⟨T,u,v,rfl,hT,rfl,q1,q2⟩:=y
    obtain ⟨d1,q3,q4⟩:=(hs1.mv m).at_ q1
    obtain ⟨d2,q5,q6⟩:=(hs2.mv m).at_ q2
    have kp:=U9 (o:=HO.tup [u,v]) hT
    exact ⟨kp, .d (.tup [d1,d2]),by simp [Z8p,List.getElem?_zipWith,q3,q5], .d (.tup (.inl ⟨st.fresh hT,upd_same⟩) (.cons (q4.mv (Z4k kp)) (.cons (q6.mv (Z4k kp)) .nil)))⟩⟩⟩
theorem W07 {X:Cx} {Wx:WX} {e e2:Expr} {ms:MG (List Bv.X)} {p pos tpos:Pos} {elts:List Expr} {kk:Nat} (hg:Gl X "zip") (hm:X.mg "zip" = none) (ha:MA X Wx [e,e2] ms) (hs:starEach [e,e2] X.env=(false,eval e X.env) :: starEach [e2] X.env:=by rfl) (hpl:(backTo pos (starEach [e2] X.env)).any (·.1)=false:=by rfl) :
    MI X Wx (.Tuple elts kk tpos) (.Call (.Name "zip" p) [e,e2] [] pos) (Y3l ms):=PI.of (RZ.pi_zipA hg hm ha hs hpl) fun σ H R ⟨Z,ρ,e,S,st,ev,p⟩=>X6 st ev p fun ρ1 H1 v xs S1 st1 g1 ev1 a1 p1=>by
  obtain ⟨w,hw,p2⟩:=p1.opt
  unfold X7u at hw
  split at hw
  · rename_i ds es
    cases hw
    cases a1 with
    | cons h1 t =>
      cases t with
      | cons h2 t =>
        cases t
        cases h1 with
        | d h1 =>
          cases h2 with
          | d h2 =>
            cases h1 with
            | tup t1 hs1 =>
              cases h2 with
              | tup t2 hs2 =>
                exact ⟨_,_,_,_,rfl, .inr ⟨t1.sq,t2.sq,W5.ret0 p2 st1 (X4u hs1 hs2 X5d fun Z2 ρ2 H2 m=>⟨(m.tp t1).sq,(m.tp t2).sq⟩)⟩⟩
  · rename_i ds es
    cases hw
    cases a1 with
    | cons h1 t =>
      cases t with
      | cons h2 t =>
        cases t
        cases h1 with
        | d h1 =>
          cases h2 with
          | d h2 =>
            cases h1 with
            | lst w1 r1 hs1 =>
              cases h2 with
              | lst w2 r2 hs2 =>
                exact ⟨_,_,_,_,rfl, .inl ⟨.inl (.inl r1), .inl (.inl r2),W5.ret0 p2 st1 (X4u hs1 hs2 (walk_zip rfl) fun Z2 ρ2 H2 m=>⟨.inl (.inl (m _ _ w1 r1).2), .inl (.inl (m _ _ w2 r2).2)⟩)⟩⟩
  · cases hw
end Bv
namespace Bv
open PySem PySem.Spec L2
open PyProof.Rows hiding St
variable [HasW]
def Y7f:List Bv.X→Sto→R Bv.X
  | [.d (.dic kvs)],S=>if kvs.all (fun p=>Z7n p.1) then .ok (.d (.lst (kvs.map (·.1)))) S else .bad
  | _,_ => .bad
abbrev W5u:List V→Hp→VK→Prop:=fun xs H Q=>∃ (a:Addr) (kvs:List (Key × V)),xs=[.ref a]∧Rd H a (.dK kvs)∧∀ p,H p=none→Q (.ref p) (upd H p (.lst (kvs.map fun kv=>kV kv.1)))
theorem Y9n {K:PySem.W.Frag} {W:Wd} {H:Hp}:∀ {kvs:List (D × D)} {ks:List (Key × V)},AVk K W H kvs ks→kvs.all (fun p=>Z7n p.1)=true→AVs K W H (kvs.map (·.1)) (ks.map fun kv=>kV kv.1)
  | _,_, .nil,_ => .nil
  | _,_, .cons h _ t,ok=>by
    rw [List.all_cons,Bool.and_eq_true] at ok
    exact .cons (W4f h ok.1) (Y9n t ok.2)
theorem X9u {K:PySem.W.Frag}:Y6x K W5u Y7f:=fun Z ρ S H Wx σ xs vs Q st a h=>by
  unfold Y7f at h
  split at h
  · rename_i kvs
    cases a with
    | cons ha t =>
      cases t
      cases ha with
      | d ha =>
        cases ha with
        | dic nw hf hk =>
          by_cases c:kvs.all (fun p=>Z7n p.1)=true
          · rw [if_pos c] at h
            exact ⟨_,_,rfl, .inr ⟨_,hf⟩,fun l hl=>W5.ret h st (U9 hl) (.d (Z81 (fun z hz=>st.thereW hz) hl (Y9n hk c)))⟩
          · rw [if_neg c] at h; exact h.elim
  · exact h.elim
end Bv
namespace Bv
open PySem PySem.Spec L2
open PyProof.Rows hiding St
variable [HasW]
section
variable {X:Cx} {Wx:WX} {st1 st2:Stmt} {rest:List Stmt} {m1 m2 m3:MS}
end
end Bv
namespace Bv
open PySem PySem.Spec L2
open PyProof.Rows hiding St
variable [HasW]
section
variable {X:Cx} {Wx:WX} {pos p1 p2 p3 p4:Pos} {n1 n2 n3 n4:Nat} {k1 k2 k3 k4:Str} {v1 v2 v3 v4:Expr} {m1 m2 m3 m4:M}
end
end Bv
namespace Bv
open PySem PySem.Spec L2
open PyProof.Rows hiding St
variable [HasW]
def W4p (m:M):M:=fun e S=>(m e S).bind fun x S1=>match X51 S1 x with
  | some p => .ok x p.2
  | none => .bad
section
variable {X:Cx} {Wx:WX} {pos p apos cpos:Pos} {a o e:Expr} {m mo mi:M}
theorem W70 (h:ME X Wx a m):ME X Wx a (W4p m):=PE.of (X7a h) fun σ H Q ⟨Z,ρ,e,S,st,ev,p⟩=>X6 (rel:=AX X.K) st ev p fun ρ1 H1 v x S1 st1 g1 ev1 a1 p1=>by
  have p1:Z55 X.K Z ρ1 H1 Wx σ Q (match X51 S1 x with
    | some p => .ok x p.2
    | none => .bad):=p1
  cases hq:X51 S1 x with
  | none=>rw [hq] at p1; exact p1.elim
  | some pr =>
    rw [hq] at p1
    obtain ⟨c,ks,rfl,kv,r⟩:=X8a st1 a1 hq
    rcases r with ⟨e0,od,hc⟩ | ⟨hc,r⟩
    · have p1:Z55 X.K Z ρ1 H1 Wx σ Q (.ok x pr.2):=p1
      rw [e0] at p1
      exact .inl (W5.ret0 p1 st1 a1)
    · refine .inr ⟨c, .dK ks,hc,trivial,fun od=>?_⟩
      obtain ⟨s4,g4,mm⟩:=r od
      exact p1 ρ1 _ _ s4 g4 (a1.mv mm (List.prefix_refl _))
end
section
variable {K:PySem.W.Frag}
end
end Bv
namespace Bv
open PySem PySem.Spec L2
open PyProof.Rows hiding St
variable [HasW]
mutual
inductive NV (K:PySem.W.Frag) (H:Hp):NestedKey→V→Prop
  | none:NV K H .none .non
  | bl {b:Bool} {i:Int}:i=(if b=true then 1 else 0)→NV K H (.num i) (.bl b)
  | int (i:Int):NV K H (.num i) (.int i)
  | str (x:Str):NV K H (.text x) (.str x)
  | tup {b:Addr} {vs:List V} {ks:List NestedKey}:SqT K H b vs→NVs K H ks vs→NV K H (.tup ks) (.ref b)
inductive NVs (K:PySem.W.Frag) (H:Hp):List NestedKey→List V→Prop
  | nil:NVs K H [] []
  | cons {k:NestedKey} {v:V} {ks:List NestedKey} {vs:List V}:NV K H k v→NVs K H ks vs→NVs K H (k :: ks) (v :: vs)
end
theorem W1p {A:Around} (hu:A.units + 65 < cLine) {prog:Program} {w:World}:(nestedKind prog w).room A.in1:=by show A.units + 1 + 8 < cLine; omega
section
variable {X:Cx} {pins:List (Addr × Obj)} {σ:L2.St} {H:Hp} {s:Shared}
mutual
theorem W48 (I:Inv X pins σ H s):∀ {k:NestedKey} {v:V} {u:Value},NV X.K H k v→RelV v u→NestedIs s.heap k u
  | _,_,_, .none,r=>by cases (show _=Value.none from r); exact .none
  | _,_,_, .bl e,r=>by cases (show _=Value.bool _ from r); exact .bool e
  | _,_,_, .int i,r=>by obtain ⟨t,rfl⟩:=(show ∃ t,_=Value.int i t from r); exact .int i t
  | _,_,_, .str x,r=>by obtain ⟨t,rfl⟩:=(show ∃ t,_=Value.str x t from r); exact .text x t
  | _,_,_, .tup q l,r=>by
    cases (show _=Value.ref _ from r)
    obtain ⟨its,rv,⟨o,ho,hc,n,hd⟩,_⟩:=I.tuple q
    exact .tup ho hc hd (by simpa using X8w I l rv)
theorem X8w (I:Inv X pins σ H s):∀ {ks:List NestedKey} {vs:List V} {us:List Value},NVs X.K H ks vs→Vals vs us→NestedAll s.heap ks us
  | _,_,_, .nil,r=>by cases r; exact .nil
  | _,_,_, .cons h t,r=>by
    cases r with
    | cons a b=>exact .cons (W48 I h a) (X8w I t b)
end
end
def Z8q (K:PySem.W.Frag) (H:Hp) (b:Addr) (k:NestedKey):Prop:=NV K H k (.ref b)∧k.depth ≤ 8
abbrev NTX:=NestedKey × Addr × V
structure NDTat (K:PySem.W.Frag) (H:Hp) (a:Addr) (xs:List NTX):Prop where
  at_:Rd H a (NDo a xs)
  keys:∀ q ∈ xs,Z8q K H q.2.1 q.1
abbrev X1r:List NTX→List (NestedKey × Addr × Value)→Prop:=Paired fun p q=>p.1=q.1∧p.2.1=q.2.1∧RelV p.2.2 q.2.2
def Y0a (xs:List NTX) (k:NestedKey):Option V:=(xs.find? fun x=>decide (x.1=k)).map (·.2.2)
def Z7i (xs:List NTX) (k:NestedKey) (b:Addr) (v:V):List NTX:=if (xs.any fun x=>decide (x.1=k))=true then xs.map (fun x=>if x.1=k then (x.1,x.2.1,v) else x) else xs++[(k,b,v)]
theorem X1r.val {xs:List NTX} {ys:List (NestedKey × Addr × Value)} (r:X1r xs ys) (k:NestedKey):RelO (Y0a xs k) ((atKey ys k).map (·.2)):=by
  induction r with
  | nil=>exact True.intro
  | @cons p q ps qs h t ih =>
    obtain ⟨h1,_,h2⟩:=h
    by_cases e:p.1=k
    · have e':q.1=k:=h1.symm.trans e
      have b:atKey (q :: qs) k=some q.2:=by simp [atKey,List.find?_cons,e']
      have a:Y0a (p :: ps) k=some p.2.2:=by simp [Y0a,List.find?_cons,e]
      rw [a,b]; exact h2
    · have e':¬ q.1=k:=fun z=>e (h1.trans z)
      have b:atKey (q :: qs) k=atKey qs k:=by simp [atKey,List.find?_cons,e']
      have a:Y0a (p :: ps) k=Y0a ps k:=by simp [Y0a,List.find?_cons,e]
      rw [a,b]; exact ih
theorem X1r.any {xs:List NTX} {ys:List (NestedKey × Addr × Value)} (r:X1r xs ys) (k:NestedKey):(xs.any fun x=>decide (x.1=k))=(atKey ys k).isSome:=by
  induction r with
  | nil=>rfl
  | @cons p q ps qs h t ih =>
    obtain ⟨h1,_,h2⟩:=h
    rw [List.any_cons,ih]
    by_cases e:p.1=k
    · have e':q.1=k:=h1.symm.trans e
      have b:atKey (q :: qs) k=some q.2:=by simp [atKey,List.find?_cons,e']
      rw [b,decide_eq_true e]; rfl
    · have e':¬ q.1=k:=fun z=>e (h1.trans z)
      have b:atKey (q :: qs) k=atKey qs k:=by simp [atKey,List.find?_cons,e']
      rw [b,decide_eq_false e]; rfl
theorem X1r.put {xs:List NTX} {ys:List (NestedKey × Addr × Value)} (r:X1r xs ys) (k:NestedKey) (b:Addr) {v:V} {u:Value} (ru:RelV v u):X1r (Z7i xs k b v) (storedH ys k b u):=by
  unfold Z7i storedH
  rw [r.any k]
  split
  · have g:∀ {xs:List NTX} {ys:List (NestedKey × Addr × Value)},X1r xs ys→X1r (xs.map fun x=>if x.1=k then (x.1,x.2.1,v) else x) (ys.map (putAt k u)):=by
      intro xs ys r
      induction r with
      | nil=>exact .nil
      | @cons p q ps qs h t ih =>
        obtain ⟨h1,h2,h3⟩:=h
        rw [List.map_cons,List.map_cons]
        refine .cons ?_ ih
        unfold putAt
        by_cases e:p.1=k
        · rw [if_pos e,if_pos (h1.symm.trans e)]; exact ⟨h1,h2,ru⟩
        · rw [if_neg e,if_neg (fun z=>e (h1.trans z))]; exact ⟨h1,h2,h3⟩
    exact g r
  · exact Paired.append r (.cons ⟨rfl,rfl,ru⟩ .nil)
theorem Y3p {P:Program} {w:World} (hw:w=HasW.w) (x:NestedKey × Addr × Value):entryOfKey (nestedKind P w) x=(⟨x.1.hash HasW.w, .ref x.2.1,x.2.2⟩:DictEntry):=by
  subst hw
  rfl
section
variable {X:Cx} {pins:List (Addr × Obj)} {σ:L2.St} {H:Hp} {s:Shared} {a b:Addr} {y v:V} {u r:Value} {A:Around} {E:Value→Shared→Prop} {xs:List NTX} {k:NestedKey}
theorem Z9m (I:Inv X pins σ H s) (t:Z8q X.K H b k):(nestedKind X.prog X.w).is s.heap k b:=⟨W48 I t.1 rfl,t.2⟩
theorem Y08 (hw:X.w=HasW.w) (I:Inv X pins σ H s) (d:NDTat X.K H a xs):(a == sysModules)=false∧∃ ys,X1r xs ys∧s.heap.DictOfH (nestedKind X.prog X.w) a ys:=by
  have ok:ObjOk X.prog X.w H s.heap a (NDo a xs):=d.at_.ok I.hok
  obtain ⟨⟨hd,ys,rel,o,es,ep,h1,h2,h3,h4,h5⟩,_⟩:=ok
  refine ⟨hd,ys,rel,o,es,ep,h1,h2,h3,?_,fun x hx=>?_,h5⟩
  · rw [h4]
    exact List.map_congr_left fun x _=>(Y3p hw x).symm
  · have all:∀ {l:List NTX} {m:List (NestedKey × Addr × Value)},X1r l m→(∀ q ∈ l,Z8q X.K H q.2.1 q.1)→∀ x ∈ m,(nestedKind X.prog X.w).is s.heap x.1 x.2.1:=by
      intro l m q
      induction q with
      | nil=>intro _ x hx; exact nomatch hx
      | @cons p q ps qs hq t ih =>
        intro hk x hx
        rcases List.mem_cons.mp hx with e | hx
        · subst e
          rw [← hq.1,← hq.2.1]
          exact Z9m I (hk p (List.mem_cons_self ..))
        · exact ih (fun z hz=>hk z (List.mem_cons_of_mem _ hz)) x hx
    exact all rel d.keys x hx
theorem Y7q {Q:Value→Shared→Prop} (hw:X.w=HasW.w) (hu:A.units + 65 < cLine) (I:Inv X pins σ H s) (d:NDTat X.K H a xs) (t:Z8q X.K H b k) (l:Y0a xs k=some v) (h:∀ w' s',Inv X pins σ H s'→RelV v w'→Q w' s') :
    wpAny (model X.prog X.w) A (getItem (.ref a) (.ref b)) Q E s:=by
  obtain ⟨hd,ys,rel,dd⟩:=Y08 hw I d
  obtain ⟨w',hw',rw'⟩:=RelO.some_of (v:=v) (o:=(atKey ys k).map (·.2)) (by rw [← l]; exact rel.val k)
  obtain ⟨p,hp,hp2⟩:=Option.map_eq_some_iff.mp hw'
  refine wpAny_getItem_heap (W1p hu) (Z9m I t) dd hp ?_
  rw [hp2]
  exact h w' _ (I.tok _) rw'
theorem X6t {d2:V} {Q:Value→Shared→Prop} (hw:X.w=HasW.w) (hu:A.units + 65 < cLine) (I:Inv X pins σ H s) (d:NDTat X.K H a xs) (t:Z8q X.K H b k) (rd:RelV d2 r) (h:∀ w' s',Inv X pins σ H s'→RelV ((Y0a xs k).getD d2) w'→Q w' s') :
    wpAny (model X.prog X.w) A (call (.builtin "dict.get") [.ref a, .ref b,r]) Q E s:=by
  obtain ⟨hd,ys,rel,dd⟩:=Y08 hw I d
  exact call_meetsIn PySem.F.slot_dict_get dd.typeIs PySem.F.entry_dict_get (PySem.F.args_dict_get_3 _ _ _) (meetsH_dict_get_default (nestedKind X.prog X.w) a b hd r) ⟨W1p hu,k,ys,Z9m I t,dd,h _ _ (I.tok _) ((rel.val k).getD rd)⟩
theorem X3v {H':Hp} {h':Heap} {ys:List (NestedKey × Addr × Value)} (hw:X.w=HasW.w) (hd:(a == sysModules)=false) (rel:X1r xs ys) (dd:h'.DictOfH (nestedKind X.prog X.w) a ys):ObjOk X.prog X.w H' h' a (NDo a xs):=by
  obtain ⟨o,es,ep,h1,h2,h3,h4,_,h5⟩:=dd
  have e4:es.toList=ys.map (fun x=>(⟨x.1.hash HasW.w, .ref x.2.1,x.2.2⟩:DictEntry)):=by
    rw [h4]
    exact List.map_congr_left fun x _=>Y3p hw x
  exact ⟨⟨hd,ys,rel,o,es,ep,h1,h2,h3,e4,h5⟩,⟨o,h1⟩,fun g1 g2 ⟨hd,ys,rel,o,es,ep,h1,h2,h3,h4,h5⟩ st=>⟨hd,ys,rel,o,es,ep,st o h1,h2,h3,h4,h5⟩⟩
theorem Y7r {Q:Unit→Shared→Prop} (hw:X.w=HasW.w) (hu:A.units + 65 < cLine) (I:Inv X pins σ H s) (e:H a=some (NDo a xs)) (hk:∀ q ∈ xs,Z8q X.K H q.2.1 q.1) (t:Z8q X.K H b k) (hl:xs.length < sizeLine) (rv:RelV v r)
    (h:∀ s',Inv X pins σ (upd H a (NDo a (Z7i xs k b v))) s'→Q () s'):wpAny (model X.prog X.w) A (setItem (.ref a) (.ref b) r) Q E s:=by
  obtain ⟨hd,ys,rel,dd⟩:=Y08 hw I ⟨.inl e,hk⟩
  have hz:ys.length ≤ sizeLine:=by rw [← Paired.length rel]; omega
  refine wpAny_setItem_heap (hsz:=hz) (W1p hu) (Z9m I t) dd fun h' dd' hs=>h _ ?_
  have he:∃ q,h'.get? a=some q:=let ⟨q,_,_,hq,_⟩:=dd'; ⟨q,hq⟩
  exact d_write I (by rw [e]; exact True.intro) hs he (X3v hw hd (rel.put k b rv) dd')
end
def W1e (K:PySem.W.Frag) (td ty:TE):TE:=fun σ H Q=>td σ H fun x H1=>ty σ H1 fun y H2=>∃ a b xs k v,x = .ref a∧y = .ref b∧NDTat K H2 a xs∧Z8q K H2 b k∧Y0a xs k=some v∧Q v H2
def W1d (K:PySem.W.Frag) (td ty tv:TE):TS:=fun D σ H=>tv σ H fun v H1=>td σ H1 fun x H2=>ty σ H2 fun y H3=>∃ a b xs k,x = .ref a∧y = .ref b∧H3 a=some (NDo a xs)∧(∀ q ∈ xs,Z8q K H3 q.2.1 q.1)∧Z8q K H3 b k∧xs.length < sizeLine∧D.nx σ (upd H3 a (NDo a (Z7i xs k b v)))
def X6s (K:PySem.W.Frag) (td ty tx:TE):TE:=fun σ H Q=>td σ H fun x H1=>∃ a,x = .ref a∧(∃ xs,NDTat K H1 a xs)∧ty σ H1 fun y H2=>tx σ H2 fun z H3=>∃ b xs k,y = .ref b∧NDTat K H3 a xs∧Z8q K H3 b k∧Q ((Y0a xs k).getD z) H3
def W1f:TE:=fun _ H Q=>∀ p,H p=none→Q (.ref p) (upd H p (NDo p []))
section
variable {X:Cx} {o i e f value:Expr} {pos pos' tpos apos cpos:Pos} {td ty tv tx:TE}
theorem Y3o {pins:List (Addr × Obj)} {σ:L2.St} {H:Hp} {s:Shared} {a:Addr} {xs:List NTX} (hw:X.w=HasW.w) (I:Inv X pins σ H s) (d:NDTat X.K H a xs):s.TypeIs (.ref a) "dict" ∧ (∀ b,Value.ref a = .ref b→∃ ob,s.heap.get? b=some ob∧ob.dict=none):=by
  obtain ⟨_,ys,rel,dd⟩:=Y08 hw I d
  refine ⟨dd.typeIs,fun b q=>?_⟩
  cases q
  obtain ⟨ob,_,_,h1,h2,_⟩:=dd
  exact ⟨ob,h1,h2.2.1⟩
theorem X3q (hw:X.w=HasW.w) (hu:X.A.units + 65 < cLine) (ho:PE X o td) (hi:PE X i ty) (hs:NoSl i):PE X (.Subscript o i pos) (W1e X.K td ty):=by
  refine ⟨fun pins s σ H Q I h=>?_⟩
  refine subD_of PySem.F.slot_dict_getitem.lookup hs (thn (ho.run pins s σ H _ I h) fun u s1 ⟨x,H1,I1,rx,q1⟩=>thn (hi.run pins s1 σ H1 _ I1 q1) fun iv s2 ⟨y,H2,I2,ry,a,b,xs,k,v,ex,ey,d,t,l,q2⟩=>?_)
  subst ex ey
  obtain rfl:u=Value.ref a:=rx
  obtain rfl:iv=Value.ref b:=ry
  exact ⟨(Y3o hw I2 d).1,Y7q hw hu I2 d t l fun w' s3 I3 rw'=>⟨v,H2,I3,rw',q2⟩⟩
theorem X3s (hw:X.w=HasW.w) (hu:X.A.units + 65 < cLine) (ho:PE X o td) (hi:PE X i ty) (hv:PE X value tv) (hs:swapsWith value (some (.Subscript o i pos')) pos.line X.env=pure false) :
    PS X (.Assign [.Subscript o i pos'] value pos) (W1d X.K td ty tv):=by
  refine ⟨fun pins s σ H D I h=>?_⟩
  refine wpAny_Assign_Subscript (thn (hv.run pins s σ H _ I h) fun r s1 ⟨v,H1,I1,rv,q1⟩=>thn (ho.run pins s1 σ H1 _ I1 q1) fun u s2 ⟨x,H2,I2,rx,q2⟩=>thn (hi.run pins s2 σ H2 _ I2 q2) fun iv s3 ⟨y,H3,I3,ry,a,b,xs,k,ex,ey,ea,hk,t,hl,q3⟩=>?_) hs
  subst ex ey
  obtain rfl:u=Value.ref a:=rx
  obtain rfl:iv=Value.ref b:=ry
  exact Y7r hw hu I3 ea hk t hl rv fun s4 I4=>⟨σ,_,I4,q3⟩
theorem X0q (hw:X.w=HasW.w) (hu:X.A.units + 65 < cLine) (ho:PE X o td) (he:PE X e ty) (hf:PE X f tx) (m:M2 X o "get" apos e f cpos):PE X (.Call (.Attribute o "get" apos) [e,f] [] cpos) (X6s X.K td ty tx):=by
  refine ⟨fun pins s σ H Q I h=>?_⟩
  refine wpAny_Call_method m.base m.few m.line PySem.F.plainAttrs_dict PySem.F.slot_dict_get PySem.F.type_dict_get (thn (ho.run pins s σ H _ I h) fun u s1 ⟨x,H1,I1,rx,a,ex,⟨xs0,d⟩,q1⟩=>?_)
  subst ex
  obtain rfl:u=Value.ref a:=rx
  obtain ⟨t1,t2⟩:=Y3o hw I1 d
  refine ⟨t1,t2,?_⟩
  rw [m.trees]
  refine Calls.callWith_builtin rfl (Calls.evalArgs_plain (Calls.spliced_cons (thn (he.run pins s1 σ H1 _ I1 q1) fun iv s2 ⟨y,H2,I2,ry,q2⟩ =>
    Calls.spliced_cons (thn (hf.run pins s2 σ H2 _ I2 q2) fun fv s3 ⟨z,H3,I3,rz,b,xs,k,ey,d3,t,q3⟩=>Calls.spliced_nil ?_))))
  subst ey
  obtain rfl:iv=Value.ref b:=ry
  exact X6t hw hu I3 d3 t rz fun w' s4 I4 rw'=>⟨_,H3,I4,rw',q3⟩
theorem Y7s {H:Hp} {P:Program} {w:World} (h:Heap) (hb:sysModules < h.objs.size):ObjOk P w H (h.push { cls := .type "dict",data := .dict #[] }) h.objs.size (NDo h.objs.size []) :=
  ⟨⟨beq_eq_false_iff_ne.mpr (Ne.symm (Nat.ne_of_lt hb)),[], .nil,_,#[],0,Heap.get?_push_size _ rfl,⟨rfl,rfl,rfl⟩,rfl,rfl,List.nodup_nil⟩,⟨_,Heap.get?_push_size _ rfl⟩,fun g1 g2 ⟨hd,ys,rel,o,es,ep,h1,h2,h3,h4,h5⟩ st=>⟨hd,ys,rel,o,es,ep,st o h1,h2,h3,h4,h5⟩⟩
theorem X3r:PE X (.Dict [] [] pos) W1f:=⟨fun pins s σ H Q I h =>
  wpAny_Dict_empty ⟨.ref s.heap.objs.size,_,I.laid (a:=s.heap.objs.size) (o:=NDo s.heap.objs.size []) (t':=s.toks) (fun _ _ q=>Heap.get?_push_of_some _ q) (Nat.le_refl _) (Y7s s.heap I.big),rfl,h _ (I.hok.fresh (Nat.le_refl _))⟩⟩
end
section
variable {α:Type}
def Z1l (kvs:List (D × α)) (q:NestedKey):Option α:=(kvs.find? fun p=>decide (p.1.nkey?=some q)).map (·.2)
def Z40 (kvs:List (D × α)) (k:D) (q:NestedKey) (v:α):List (D × α):=if (kvs.any fun p=>decide (p.1.nkey?=some q))=true then kvs.map (fun p=>if p.1.nkey?=some q then (p.1,v) else p) else kvs++[(k,v)]
end
def Y0y (S:Sto):X→Option (List (D × X))
  | .d _=>none
  | .r n=>match S[n]? with
    | some (.ndc kvs)=>some kvs
    | _=>none
def Y2f (S:Sto) (x y:X):Option (List (D × X) × D × NestedKey):=(Y0y S x).bind fun kvs=>match y with
  | .d k=>(k.nkey?).map fun q=>(kvs,k,q)
  | .r _=>none
def W1g (S:Sto):X→Option (List (D × X))
  | .d _=>none
  | .r n=>match S[n]? with
    | some (.ndc kvs)=>some kvs
    | _=>none
def X3w (S:Sto) (x y:X):Option (List (D × X) × D × NestedKey):=(W1g S x).bind fun kvs=>match y with
  | .d k=>(k.nkey?).map fun q=>(kvs,k,q)
  | .r _=>none
abbrev Y6u (K:PySem.W.Frag) (W:Wd) (ρ:List Addr) (H:Hp):List (D × X)→List NTX→Prop:=Paired fun (p:D × X) (q:NTX)=>p.1.nkey?=some q.1∧AV K W H p.1 (.ref q.2.1)∧AX K W ρ H p.2 q.2.2
theorem X8v {K:PySem.W.Frag} {W:Wd} {H:Hp} {f:D→Option NestedKey} (hf:∀ (d:D) (k:NestedKey) (v:V),f d=some k→AV K W H d v→NV K H k v):∀ {ds:List D} {vs:List V} {ks:List NestedKey},AVs K W H ds vs→Y0z f ds=some ks→NVs K H ks vs
  | _,_,_, .nil,e=>by cases e; exact .nil
  | d :: ds,v :: vs,ks, .cons h t,e=>by
    have e:(match f d,Y0z f ds with
      | some k,some l=>some (k :: l)
      | _,_=>none)=some ks:=e
    cases q:f d with
    | none=>rw [q] at e; cases e
    | some k =>
      cases q2:Y0z f ds with
      | none=>rw [q,q2] at e; cases e
      | some l =>
        rw [q,q2] at e
        cases e
        exact .cons (hf d k v q h) (X8v hf t q2)
theorem W49 {K:PySem.W.Frag} {W:Wd} {H:Hp}:∀ (n:Nat) (d:D) (k:NestedKey) (v:V),Z9n n d=some k→AV K W H d v→NV K H k v
  | n, .non,k,v,e,a=>by cases n <;> (cases e; cases a; exact .none)
  | n, .bl b,k,v,e,a=>by cases n <;> (cases e; cases a; exact .bl rfl)
  | n, .int i,k,v,e,a=>by cases n <;> (cases e; cases a; exact .int i)
  | n, .str x,k,v,e,a=>by cases n <;> (cases e; cases a; exact .str x)
  | 0, .tup ds,k,v,e,a=>by cases e
  | n + 1, .tup ds,k,v,e,a=>by
    obtain ⟨l,h1,rfl⟩:=Option.map_eq_some_iff.mp (show (Y0z (Z9n n) ds).map NestedKey.tup=some k from e)
    cases a with
    | tup t hs=>exact .tup t.sq (X8v (W49 n) hs h1)
  | n, .lst _,k,v,e,a=>by cases n <;> cases e
  | n, .dic _,k,v,e,a=>by cases n <;> cases e
  | n, .obj _ _,k,v,e,a=>by cases n <;> cases e
  | n, .gl _,k,v,e,a=>by cases n <;> cases e
  | n, .scr _,k,v,e,a=>by cases n <;> cases e
theorem Y2g {K:PySem.W.Frag} {W:Wd} {H:Hp} {k:D} {q:NestedKey} {v:V} (h:k.nkey?=some q) (a:AV K W H k v):∃ b,v = .ref b∧Z8q K H b q:=by
  cases k with
  | tup ds =>
    obtain ⟨k,h1,h2⟩:=Option.bind_eq_some_iff.mp (show (Z9n 8 (.tup ds)).bind (fun k=>if decide (k.depth ≤ 8) then some k else none)=some q from h)
    obtain ⟨h3,h4⟩:=Z06 h2
    cases h4
    have nv:=W49 8 _ _ _ h1 a
    cases a with
    | tup t hs=>exact ⟨_,rfl,nv,of_decide_eq_true h3⟩
  | _=>cases h
section
variable {K:PySem.W.Frag} {W W':Wd} {ρ ρ':List Addr} {H H':Hp} {kvs:List (D × X)} {xs:List NTX} {q:NestedKey}
theorem Y6u.mv (m:Mv W H W' H') (p:ρ <+: ρ') (h:Y6u K W ρ H kvs xs):Y6u K W' ρ' H' kvs xs:=Paired.mapP h fun _ _ z=>⟨z.1,z.2.1.mv m,z.2.2.mv m p⟩
theorem Y6u.keys (h:Y6u K W ρ H kvs xs):∀ t ∈ xs,Z8q K H t.2.1 t.1:=by
  induction h with
  | nil=>intro t ht; exact nomatch ht
  | @cons p x ps ys h1 _ ih =>
    intro t ht
    rcases List.mem_cons.mp ht with e | ht
    · subst e
      obtain ⟨b,e,tk⟩:=Y2g h1.1 h1.2.1
      cases e
      exact tk
    · exact ih t ht
theorem Y4r {p:D × X} {x:NTX} (h:p.1.nkey?=some x.1):decide (p.1.nkey?=some q)=decide (x.1=q):=by
  rw [h]
  by_cases e:x.1=q
  · rw [decide_eq_true e,decide_eq_true (by rw [e])]
  · rw [decide_eq_false e,decide_eq_false fun z=>e (Option.some.inj z)]
theorem Y6u.look (h:Y6u K W ρ H kvs xs) (q:NestedKey):(∃ d v,Z1l kvs q=some d∧Y0a xs q=some v∧AX K W ρ H d v) ∨ (Z1l kvs q=none∧Y0a xs q=none):=by
  induction h with
  | nil=>exact .inr ⟨rfl,rfl⟩
  | @cons p x ps ys h1 _ ih =>
    have e:=Y4r (q:=q) h1.1
    unfold Z1l Y0a at *
    rw [List.find?_cons,List.find?_cons,e]
    cases c:decide (x.1=q) with
    | true=>exact .inl ⟨_,_,rfl,rfl,h1.2.2⟩
    | false=>exact ih
theorem Y6u.put {k:D} {b:Addr} {d:X} {v:V} (h:Y6u K W ρ H kvs xs) (hk:k.nkey?=some q) (ak:AV K W H k (.ref b)) (av:AX K W ρ H d v):Y6u K W ρ H (Z40 kvs k q d) (Z7i xs q b v):=by
  have ha:(kvs.any fun p=>decide (p.1.nkey?=some q))=(xs.any fun x=>decide (x.1=q)):=by
    induction h with
    | nil=>rfl
    | @cons p x ps ys h1 _ ih=>rw [List.any_cons,List.any_cons,ih,Y4r h1.1]
  unfold Z40 Z7i
  rw [ha]
  split
  · have g:∀ {kvs:List (D × X)} {xs:List NTX},Y6u K W ρ H kvs xs→Y6u K W ρ H (kvs.map fun p=>if p.1.nkey?=some q then (p.1,d) else p) (xs.map fun x=>if x.1=q then (x.1,x.2.1,v) else x):=by
      intro kvs xs h
      induction h with
      | nil=>exact .nil
      | @cons p x ps ys h1 _ ih =>
        rw [List.map_cons,List.map_cons]
        refine .cons ?_ ih
        have e:=Y4r (q:=q) h1.1
        by_cases c:x.1=q
        · rw [if_pos c,if_pos (of_decide_eq_true (e.trans (decide_eq_true c)))]; exact ⟨h1.1,h1.2.1,av⟩
        · rw [if_neg c,if_neg (of_decide_eq_false (e.trans (decide_eq_false c)))]; exact h1
    exact g h
  · exact Paired.append h (.cons ⟨hk,ak,av⟩ .nil)
end
theorem X3y {S:Sto} {x y:X} {p:List (D × X) × D × NestedKey} (h:Y2f S x y=some p):∃ n,x = .r n∧S[n]?=some (.ndc p.1)∧y = .d p.2.1∧p.2.1.nkey?=some p.2.2:=by
  obtain ⟨kvs,h1,h2⟩:=Option.bind_eq_some_iff.mp h
  cases y with
  | r _=>cases h2
  | d k =>
    obtain ⟨q,hq,e⟩:=Option.map_eq_some_iff.mp (show (k.nkey?).map (fun q=>(kvs,k,q))=some p from h2)
    subst e
    cases x with
    | d _=>cases h1
    | r n =>
      refine ⟨n,rfl,?_,rfl,hq⟩
      unfold Y0y at h1
      cases q2:S[n]? with
      | none=>simp only [q2] at h1; cases h1
      | some o =>
        simp only [q2] at h1
        cases o with
        | ndc kvs'=>cases h1; rfl
        | _=>cases h1
theorem X3z {K:PySem.W.Frag} {Z:Wd} {ρ:List Addr} {S:Sto} {H:Hp} {x y:Bv.X} {v u:V} {p:List (D × Bv.X) × D × NestedKey} (st:Sta K Z ρ S H) (a:AX K (Wn Z ρ) ρ H x v) (b:AX K (Wn Z ρ) ρ H y u) (h:Y2f S x y=some p) :
    ∃ n c d xs,x = .r n∧ρ[n]?=some c∧S[n]?=some (.ndc p.1)∧v = .ref c∧u = .ref d∧Rd H c (NDo c xs)∧Y6u K (Wn Z ρ) ρ H p.1 xs∧Z8q K H d p.2.2∧AV K (Wn Z ρ) H p.2.1 (.ref d)∧p.2.1.nkey?=some p.2.2:=by
  obtain ⟨n,rfl,hS,rfl,hq⟩:=X3y h
  cases a with
  | r e =>
    rename_i c
    cases b with
    | d b =>
      obtain ⟨d,rfl,tk⟩:=Y2g hq b
      obtain ⟨xs,h1,kv⟩:=st.ob n _ _ hS e
      exact ⟨n,c,d,xs,rfl,e,hS,rfl,rfl, .inl h1,kv,tk,b,hq⟩
theorem X3x {S:Sto} {x y:X} {p:List (D × X) × D × NestedKey} (h:X3w S x y=some p):∃ n,x = .r n∧S[n]?=some (.ndc p.1)∧y = .d p.2.1∧p.2.1.nkey?=some p.2.2:=by
  obtain ⟨kvs,h1,h2⟩:=Option.bind_eq_some_iff.mp h
  cases y with
  | r _=>cases h2
  | d k =>
    obtain ⟨q,hq,e⟩:=Option.map_eq_some_iff.mp (show (k.nkey?).map (fun q=>(kvs,k,q))=some p from h2)
    subst e
    cases x with
    | d _=>cases h1
    | r n =>
      refine ⟨n,rfl,?_,rfl,hq⟩
      unfold W1g at h1
      cases q2:S[n]? with
      | none=>simp only [q2] at h1; cases h1
      | some o =>
        simp only [q2] at h1
        cases o with
        | ndc kvs'=>cases h1; rfl
        | _=>cases h1
theorem X6v {K:PySem.W.Frag} {Z:Wd} {ρ:List Addr} {S:Sto} {H:Hp} {x y:Bv.X} {v u:V} {p:List (D × Bv.X) × D × NestedKey} (st:Sta K Z ρ S H) (a:AX K (Wn Z ρ) ρ H x v) (b:AX K (Wn Z ρ) ρ H y u) (h:X3w S x y=some p) :
    ∃ n c d xs,x = .r n∧ρ[n]?=some c∧S[n]?=some (.ndc p.1)∧v = .ref c∧u = .ref d∧H c=some (NDo c xs)∧Y6u K (Wn Z ρ) ρ H p.1 xs∧Z8q K H d p.2.2∧AV K (Wn Z ρ) H p.2.1 (.ref d)∧p.2.1.nkey?=some p.2.2:=by
  obtain ⟨n,rfl,hS,rfl,hq⟩:=X3x h
  cases a with
  | r e =>
    rename_i c
    obtain ⟨xs,h1,kv⟩:=st.ob n _ _ hS e
    cases b with
    | d b =>
      obtain ⟨d,rfl,tk⟩:=Y2g hq b
      exact ⟨n,c,d,xs,rfl,e,hS,rfl,rfl,h1,kv,tk,b,hq⟩
def Z72 (mo mi:M):M:=fun e S=>(mo e S).bind fun x S1=>(mi e S1).bind fun y S2=>Z04 ((Y2f S2 x y).bind fun p=>Z1l p.1 p.2.2) S2
def Z7h (mo mi mx:M):M:=fun e S=>(mo e S).bind fun x S1=>if (Y0y S1 x).isSome then (mi e S1).bind fun y S2=>(mx e S2).bind fun z S3=>Z04 ((Y2f S3 x y).map fun p=>(Z1l p.1 p.2.2).getD z) S3 else .bad
def Y2e:M:=fun _ S => .ok (.r S.length) (S++[.ndc []])
def Y0b (S:Sto) (x y:X):Option (Nat × List (D × X) × D × NestedKey):=match x with
  | .r n=>(X3w S x y).bind fun p=>if decide (p.1.length < sizeLine) then some (n,p) else none
  | .d _=>none
def Z9l (mo mi mv:M):MS:=fun e S=>(mv e S).so e fun z S1=>(mo e S1).so e fun x S2=>(mi e S2).so e fun y S3=>match Y0b S3 x y with
  | some p => .go (.nx e) (S3.set p.1 (.ndc (Z40 p.2.1 p.2.2.1 p.2.2.2 z)))
  | none => .bad
section
variable {X:Cx} {Wx:WX} {pos pos' apos cpos:Pos} {o i e f value kx:Expr} {mo mi mx mv mk:M}
theorem X3o (hw:X.w=HasW.w) (hu:X.A.units + 65 < cLine) (ho:ME X Wx o mo) (hi:ME X Wx i mi) (hs:NoSl i:=by intro _ _; rfl):ME X Wx (.Subscript o i pos) (Z72 mo mi) :=
  PE.of (X3q hw hu ho hi hs) fun σ H Q ⟨Z,ρ,e,S,st,ev,p⟩=>X6 (rel:=AX X.K) st ev p fun ρ1 H1 v x S1 st1 g1 ev1 a1 p1=>X6 (rel:=AX X.K) st1 ev1 p1 fun ρ2 H2 u y S2 st2 g2 ev2 a2 p2=>by
    have ax:=a1.mv (g2.mv st1) g2.pre
    obtain ⟨d,hl,p3⟩:=(show Z55 X.K Z ρ2 H2 Wx σ Q (Z04 ((Y2f S2 x y).bind fun p=>Z1l p.1 p.2.2) S2) from p2).opt
    obtain ⟨p,h1,h2⟩:=Option.bind_eq_some_iff.mp hl
    obtain ⟨n,c,b,xs,rfl,_,_,rfl,rfl,hc,kv,tk,_,_⟩:=X3z st2 ax a2 h1
    rcases kv.look p.2.2 with ⟨d2,w,e1,e2,aw⟩ | ⟨e1,_⟩
    · rw [h2] at e1; cases e1
      exact ⟨c,b,xs,p.2.2,w,rfl,rfl,⟨hc,kv.keys⟩,tk,e2,W5.ret0 p3 st2 aw⟩
    · rw [h2] at e1; cases e1
theorem X6u {S:Sto} {x:Bv.X} {kvs:List (D × Bv.X)} (h:Y0y S x=some kvs):∃ n,x = .r n∧S[n]?=some (.ndc kvs):=by
  cases x with
  | d _=>exact nomatch h
  | r n =>
    refine ⟨n,rfl,?_⟩
    unfold Y0y at h
    cases q2:S[n]? with
    | none=>simp only [q2] at h; cases h
    | some o =>
      simp only [q2] at h
      cases o with
      | ndc kvs'=>cases h; rfl
      | _=>cases h
theorem X3u {Z:Wd} {ρ:List Addr} {S:Sto} {H:Hp} {K:PySem.W.Frag} {x:Bv.X} {v:V} (st:Sta K Z ρ S H) (a:AX K (Wn Z ρ) ρ H x v) (h:(Y0y S x).isSome=true):∃ c xs,v = .ref c∧NDTat K H c xs:=by
  obtain ⟨kvs,h⟩:=Option.isSome_iff_exists.mp h
  obtain ⟨n,rfl,q⟩:=X6u h
  cases a with
  | r e =>
    obtain ⟨xs,h1,kv⟩:=st.ob n _ _ q e
    exact ⟨_,xs,rfl, .inl h1,Y6u.keys kv⟩
theorem X0o (hw:X.w=HasW.w) (hu:X.A.units + 65 < cLine) (ho:ME X Wx o mo) (hi:ME X Wx e mi) (hx:ME X Wx f mx) (m:M2 X o "get" apos e f cpos:=by exact ⟨by rfl,by rfl,by rfl,by rfl⟩):ME X Wx (.Call (.Attribute o "get" apos) [e,f] [] cpos) (Z7h mo mi mx) :=
  PE.of (X0q hw hu ho hi hx m) fun σ H Q ⟨Z,ρ,e,S,st,ev,p⟩=>X6 (rel:=AX X.K) st ev p fun ρ1 H1 v x S1 st1 g1 ev1 a1 p1=>by
    have p1:Z55 X.K Z ρ1 H1 Wx σ Q (if (Y0y S1 x).isSome then (mi e S1).bind fun y S2=>(mx e S2).bind fun z S3=>Z04 ((Y2f S3 x y).map fun p=>(Z1l p.1 p.2.2).getD z) S3 else .bad):=p1
    by_cases c:(Y0y S1 x).isSome=true
    case neg=>rw [if_neg c] at p1; exact p1.elim
    rw [if_pos c] at p1
    obtain ⟨c1,xs1,rfl,d1⟩:=X3u st1 a1 c
    refine ⟨c1,rfl,⟨xs1,d1⟩,X6 (rel:=AX X.K) st1 ev1 p1 fun ρ2 H2 u y S2 st2 g2 ev2 a2 p2=>X6 (rel:=AX X.K) st2 ev2 p2 fun ρ3 H3 t z S3 st3 g3 ev3 a3 p3=>?_⟩
    have ax:=(a1.mv (g2.mv st1) g2.pre).mv (g3.mv st2) g3.pre
    have ay:=a2.mv (g3.mv st2) g3.pre
    obtain ⟨d,hl,p4⟩:=(show Z55 X.K Z ρ3 H3 Wx σ Q (Z04 ((Y2f S3 x y).map fun p=>(Z1l p.1 p.2.2).getD z) S3) from p3).opt
    obtain ⟨p,h1,rfl⟩:=Option.map_eq_some_iff.mp hl
    obtain ⟨n,c2,b,xs,rfl,_,_,e0,rfl,hc,kv,tk,_,_⟩:=X3z st3 ax ay h1
    cases e0
    refine ⟨b,xs,p.2.2,rfl,⟨hc,kv.keys⟩,tk,?_⟩
    rcases kv.look p.2.2 with ⟨d2,w,e1,e2,aw⟩ | ⟨e1,e2⟩
    · rw [e1] at p4; rw [e2]; exact W5.ret0 p4 st3 aw
    · rw [e1] at p4; rw [e2]; exact W5.ret0 p4 st3 a3
theorem X0p:ME X Wx (.Dict [] [] pos) Y2e:=PE.of X3r fun σ H Q ⟨Z,ρ,e,S,st,ev,p⟩=>fun a ha=>by
  have k:=U9 (o:=NDo a []) ha
  obtain ⟨s1,g1⟩:=st.push (o' := .ndc []) ha k ⟨[],upd_same, .nil⟩
  exact p _ _ _ s1 g1 (.r (by rw [st.len]; simp))
theorem X3p (hw:X.w=HasW.w) (hu:X.A.units + 65 < cLine) (ho:ME X Wx o mo) (hi:ME X Wx i mi) (hv:ME X Wx value mv) (hs:swapsWith value (some (.Subscript o i pos')) pos.line X.env=pure false:=by rfl):MP X Wx (.Assign [.Subscript o i pos'] value pos) (Z9l mo mi mv) :=
  PS.of (X3s hw hu ho hi hv hs) fun D σ H ⟨Z,ρ,e,S,st,ev,q⟩=>by
    refine Z1i (rel:=AX X.K) st ev q fun ρ1 H1 w z S1 s1 g1 ev1 a1 q1=>Z1i (rel:=AX X.K) s1 ev1 q1 fun ρ2 H2 v x S2 s2 g2 ev2 a2 q2=>Z1i (rel:=AX X.K) s2 ev2 q2 fun ρ3 H3 u y S3 s3 g3 ev3 a3 q3=>?_
    have az:=(a1.mv (g2.mv s1) g2.pre).mv (g3.mv s2) g3.pre
    have ax:=a2.mv (g3.mv s2) g3.pre
    have q3:Z3j X.K Z ρ3 H3 Wx D (match Y0b S3 x y with
      | some p => .go (.nx e) (S3.set p.1 (.ndc (Z40 p.2.1 p.2.2.1 p.2.2.2 z)))
      | none => .bad):=q3
    cases h:Y0b S3 x y with
    | none=>rw [h] at q3; exact q3.elim
    | some p =>
      rw [h] at q3
      have q9:Z3j X.K Z ρ3 H3 Wx D (.go (.nx e) (S3.set p.1 (.ndc (Z40 p.2.1 p.2.2.1 p.2.2.2 z)))):=q3
      cases x with
      | d _=>cases h
      | r n =>
        obtain ⟨p2,h1,h2⟩:=Option.bind_eq_some_iff.mp (show (X3w S3 (.r n) y).bind (fun p=>if decide (p.1.length < sizeLine) then some (n,p) else none)=some p from h)
        obtain ⟨h3,h4⟩:=Z06 h2
        cases h4
        obtain ⟨n',c,b,xs,e0,ha,hS,rfl,rfl,hc,kv,tk,ak,hk⟩:=X6v s3 ax a3 h1
        cases e0
        have kv2:=kv.put hk ak az
        have inρ:c ∈ ρ3:=List.mem_of_getElem? ha
        have m:Mv (Wn Z ρ3) H3 (Wn Z ρ3) (upd H3 c (NDo c (Z7i xs p2.2.2 b w))):=fun b o hb z=>⟨hb,by rw [upd_ne (fun y=>hb (.inr (by rw [y]; exact inρ)))]; exact z⟩
        obtain ⟨s4,g4⟩:=s3.put (o' := .ndc (Z40 p2.1 p2.2.1 p2.2.2 z)) (u:=NDo c (Z7i xs p2.2.2 b w)) ha (fun _ _ z=>by rw [hc] at z; cases z) ⟨_,upd_same,Y6u.mv m (List.prefix_refl _) kv2⟩
        exact ⟨c,b,xs,p2.2.2,rfl,rfl,hc,kv.keys,tk,by rw [← Paired.length kv]; exact of_decide_eq_true h3,q9 ρ3 _ _ s4 g4 (ev3.mv (g4.mv s3) (List.prefix_refl _))⟩
end
end Bv
namespace Lw
open PySem PySem.Spec L2 Bv
open PyProof.Rows hiding St
structure Facts (K:PySem.W.Frag) (mg:Str→Option Value):Prop where
  f_len:mg "len" = none
  f_min:mg "min" = none
  f_max:mg "max" = none
  f_range:mg "range" = none
  f_int:mg "int" = none
  f_abs:mg "abs" = none
  g__law_source:mg "_law_source" = some (.ref (He.ga K "_law_source"))
  g__law_draw:mg "_law_draw" = some (.ref (He.ga K "_law_draw"))
  g__law_pick:mg "_law_pick" = some (.ref (He.ga K "_law_pick"))
  g__law_row:mg "_law_row" = some (.ref (He.ga K "_law_row"))
  f_tuple:mg "tuple" = none
  g__law_tool:mg "_law_tool" = some (.ref (He.ga K "_law_tool"))
  f_list:mg "list" = none
  g__law_doubled:mg "_law_doubled" = some (.ref (He.ga K "_law_doubled"))
  f_enumerate:mg "enumerate" = none
  g__law_becomes:mg "_law_becomes" = some (.ref (He.ga K "_law_becomes"))
  f_dict:mg "dict" = none
  g__law_heads:mg "_law_heads" = some (.ref (He.ga K "_law_heads"))
  v_HEADS:Y27 "HEADS" ["marks", "shown", "asked"] K=true
  g_HEADS:mg "HEADS" = some (.ref (He.ga K "HEADS"))
  f_isinstance:mg "isinstance" = none
  is_str:IsT K (.type "str") (Y02 "str") [("Row",false),("Tool",false)]
  f_str:mg "str" = none
  v_BARRED:Y27 "BARRED" ["any", "same", "take", "keep", "to"] K=true
  g_BARRED:mg "BARRED" = some (.ref (He.ga K "BARRED"))
  i_MOST_LETTERS:∃ t,mg "MOST_LETTERS" = some (.int 5 t)
  s_LETTERS:∃ t,mg "LETTERS" = some (.str "abcdefghijklmnopqrstuvwxyz" t)
  f_all:mg "all" = none
  g_is_name:mg "is_name" = some (.ref (He.ga K "is_name"))
  g_names_in:mg "names_in" = some (.ref (He.ga K "names_in"))
  v_TAKINGS:Y27 "TAKINGS" ["keep", "take"] K=true
  g_TAKINGS:mg "TAKINGS" = some (.ref (He.ga K "TAKINGS"))
  v_HAPPENINGS:Y27 "HAPPENINGS" ["give", "carry", "drop", "back", "right", "wrong"] K=true
  g_HAPPENINGS:mg "HAPPENINGS" = some (.ref (He.ga K "HAPPENINGS"))
  g_is_word:mg "is_word" = some (.ref (He.ga K "is_word"))
  is_bool:IsT K (.type "bool") (Y02 "bool") [("Row",false),("Tool",false)]
  f_bool:mg "bool" = none
  at_Row_word:Z6w K ["Row"] "word"
  at_Row_old:Z6w K ["Row"] "old"
  at_Row_then:Z6w K ["Row"] "then"
  at_Row_take:Z6w K ["Row"] "take"
  M_Row:Mk K (He.ga K "Row") (He.ma K (He.ga K "Row") "__init__")
  g_Row:mg "Row" = some (.ref (He.ga K "Row"))
  cm_Row_read:ClsM K "Row" "read"
  iss_list_tuple:IsTs K [.type "list", .type "tuple"] (X43 ["list", "tuple"]) [("Row",false),("Tool",false)]
  g_is_sequence:mg "is_sequence" = some (.ref (He.ga K "is_sequence"))
  f_set:mg "set" = none
  g_are_unlike:mg "are_unlike" = some (.ref (He.ga K "are_unlike"))
  g_are_names:mg "are_names" = some (.ref (He.ga K "are_names"))
  is_Row:IsT K (.ref (He.ga K "Row")) Z5k [("Row",true),("Tool",false)]
  f_any:mg "any" = none
  at_Tool_marks:Z6w K ["Tool"] "marks"
  at_Tool_shown:Z6w K ["Tool"] "shown"
  at_Tool_asked:Z6w K ["Tool"] "asked"
  at_Tool_rows:Z6w K ["Tool"] "rows"
  at_Tool_blank:Z6w K ["Tool"] "blank"
  M_Tool:Mk K (He.ga K "Tool") (He.ma K (He.ga K "Tool") "__init__")
  g_Tool:mg "Tool" = some (.ref (He.ga K "Tool"))
  f_zip:mg "zip" = none
  g__law_row_line:mg "_law_row_line" = some (.ref (He.ga K "_law_row_line"))
  g__law_tool_lines:mg "_law_tool_lines" = some (.ref (He.ga K "_law_tool_lines"))
  cm_Tool_read:ClsM K "Tool" "read"
  g__law_tool_of:mg "_law_tool_of" = some (.ref (He.ga K "_law_tool_of"))
  g__law_once:mg "_law_once" = some (.ref (He.ga K "_law_once"))
  g_told_of:mg "told_of" = some (.ref (He.ga K "told_of"))
  f_repr:mg "repr" = none
  c_Row:Cls K (He.ga K "Row")
  m_Row_fits:Meth K (He.ga K "Row") "fits" (He.ma K (He.ga K "Row") "fits")
  c_Tool:Cls K (He.ga K "Tool")
  m_Tool_row_for:Meth K (He.ga K "Tool") "row_for" (He.ma K (He.ga K "Tool") "row_for")
  m_Tool_becomes:Meth K (He.ga K "Tool") "becomes" (He.ma K (He.ga K "Tool") "becomes")
  g_numbered:mg "numbered" = some (.ref (He.ga K "numbered"))
  g_heads_of:mg "heads_of" = some (.ref (He.ga K "heads_of"))
  g_once_each:mg "once_each" = some (.ref (He.ga K "once_each"))
  g_merged:mg "merged" = some (.ref (He.ga K "merged"))
  str_Row:OwnStr K "Row" (He.ma K (He.ga K "Row") "__str__")
  str_Tool:OwnStr K "Tool" (He.ma K (He.ga K "Tool") "__str__")
  g_parting:mg "parting" = some (.ref (He.ga K "parting"))
  g_alike:mg "alike" = some (.ref (He.ga K "alike"))
  is_Tool:IsT K (.ref (He.ga K "Tool")) Z5k [("Row",false),("Tool",true)]
  eq_Tool:OwnEq K "Tool" (He.ma K (He.ga K "Tool") "__eq__")
  g_law:mg "law" = some (.ref (He.ga K "law"))
section
variable [HasW] {P:Program} {K:PySem.W.Frag} {mg:Str→Option Value} {base:Heap} {f:Addr} {fd:FuncData} {dl:List V} (Fx:Facts K mg)
def Z36:List Str:=["_law_script", "_law_base", "_law_cells", "_law_stirred", "_law_cell"]
theorem Z1n:Z36.Nodup:=by decide +kernel
theorem Y25:FnScope Z36 ["_law_script", "_law_base"] (defScope Z0z):=⟨rfl,rfl,rfl,Z1n,rfl,by decide +kernel,by decide +kernel⟩
def Z43:MS:=Z9 (X2 2 (Z14 (.nm 4) (V7 (Y6 (Z1 0) (X4 (Z1 1)) (X4 (m_c (.int 62))))) (W8) (Z8 (Q7 Z3f) (Z0 (Z8 Z2i (Z0 (Z1 4) (Z7))) (Z7))) [4])) (Z9 (X2 3 (Y2 Z4e (m_c (.int 71283599)) (Y2 X3n (m_c (.int 59)) (Z1 1)))) (Z9 (Z1f (.nm 4) (V7 (Z1 2)) (X2 3 (Y2 Y7p (Z8 Z2i (Z0 (Y2 Z4e (Y2 Z4e (Y2 X3n (Z1 3) (m_c (.int 30323))) (Y2 Y7p (Z8 Z2i (Z0 (Z1 4) (Z7))) (m_c (.int 2147483477)))) (m_c (.int 23))) (Z7))) (m_c (.int 2147483647))))) (Q1 (Y4n "great" "stirred" (Y5u (Z14 (.nm 4) (V7 (Z1 2)) (U3 (Y2 geD (Z1 4) (Y2 W3d (m_c (.int 10)) (m_c (.int 18))))) (Z1 4) [4])) (Z1 3)))))
def g__law_source:List X→Sto→R X:=W8l 5 Z43
include Fx in
theorem Y23  (F:FunD K "_law_source" "_law_source" (defArgs Z0z) (defBody Z0z) (defScope Z0z) dl [] f fd):FnG P HasW.w K mg base 1 f fd ["_law_script", "_law_base"] (spE K 2 g__law_source):=fnR F Y25 fun cdv A outer s H E gu room=>by
  have h:Here (cxB P HasW.w K mg base Z36 "_law_source" (defScope Z0z) f cdv A outer s H E) (wxE E) 0:=Z0b gu room
  unfold Z43
  exact Y1 (Z4q (i:=2) (own:=[("_law_cell",4)]) (t:=(.nm 4)) rfl Z1n rfl rfl rfl (Z00 (Z1k (Z3 0) (Z18 (Z3 1)) (Z18 (X0)))) (blkOk_by (N:=Z36) (sc:=defScope Z0z) (by decide +kernel)) (by decide) (fun _ _ _ _ _=>X8 (i:=4) Z1n rfl (by first | exact Or.inl rfl | exact Or.inr rfl)) (fun _ _ _ _ _=>Z07) (fun _ _ _ _ _=>Z1u call_abs W63 rfl Fx.f_abs (Z4 (Z2w call_int1 Y64 rfl Fx.f_int (Z4 (Z3 4) (Y0))) (Y0)))) (Y1 (Q5 (i:=3) Z1n rfl (by first | exact Or.inl rfl | exact Or.inr rfl) (Z79 h.add (X0) (Z79 h.mul (X0) (Z3 1)))) (Y1 (Z3m Z2z rfl (Z00 (Z3 2)) (X8 (i:=4) Z1n rfl (by first | exact Or.inl rfl | exact Or.inr rfl)) (X1 (Q5 (i:=3) Z1n rfl (by first | exact Or.inl rfl | exact Or.inr rfl) (Z79 h.mod (Z2w call_int1 Y64 rfl Fx.f_int (Z4 (Z79 h.add (Z79 h.add (Z79 h.mul (Z3 3) (X0)) (Z79 h.mod (Z2w call_int1 Y64 rfl Fx.f_int (Z4 (Z3 4) (Y0))) (X0))) (X0)) (Y0))) (X0))))) (X1 (Z9k (X6k X9 X9 (W01 (Z7e (own:=[("_law_cell",4)]) (t:=(.nm 4)) rfl Z1n (Z00 (Z3 2)) (blkOk_by (N:=Z36) (sc:=defScope Z0z) (by decide +kernel)) (by decide) (fun _ _ _ _ _=>X8 (i:=4) Z1n rfl (by first | exact Or.inl rfl | exact Or.inr rfl)) (fun _ _ _ _ _=>Y2d (Z0y (h.blk _ _ _ _ _).ge (Z3 4) (Z79 (h.blk _ _ _ _ _).pow (X0) (X0)))) (fun _ _ _ _ _=>Z3 4))) (Z3 3))))))
def Z8s:List Str:=["_law_deal", "_law_wide", "_law_great", "_law_cell"]
theorem Z7j:Z8s.Nodup:=by decide +kernel
theorem Y6i:FnScope Z8s ["_law_deal", "_law_wide"] (defScope Z2c):=⟨rfl,rfl,rfl,Z7j,rfl,by decide +kernel,by decide +kernel⟩
def Z6o:MS:=Z9 (X2 2 (Z0t (Z1 0) (m_c (.str "great")))) (Z9 (Z7o (W4 (U3 (Y2 neD (Z1 2) (V3 (Z7)))) (U3 (Y2 eqD (V5 (Z1 2) (Y5t (m_c (.int 1)))) (m_c (.int 0))))) (W0 (Z1s V8 Y0l (Z1 2) Z7))) (Z9 (Z0r (U3 (Y2 neD (Z1 2) (V3 (Z7)))) (Z9 (X2 3 (Z1s V8 Y0l (Z1 2) Z7)) (Z9 (W0 (Z1s V8 U4 (Z1 2) (Z0 (Y2 Y7c (Z1 3) (Z1 1)) (Z7)))) (Q1 (Y2 Y7p (Z8 Z2i (Z0 (Z1 3) (Z7))) (Z1 1))))) (W7)) (Z9 (Z42 (Z1 0) (m_c (.str "stirred")) (Y2 Y7p (Z8 Z2i (Z0 (Y2 Z4e (Y2 X3n (Z0t (Z1 0) (m_c (.str "stirred"))) (m_c (.int 30323))) (m_c (.int 47))) (Z7))) (m_c (.int 2147483647)))) (Q1 (Y2 Y7p (Z8 Z2i (Z0 (Y2 Y7c (Z0t (Z1 0) (m_c (.str "stirred"))) (m_c (.int 64))) (Z7))) (Z1 1))))))
def g__law_draw:List X→Sto→R X:=X08 4 Z6o
include Fx in
theorem Y52  (F:FunD K "_law_draw" "_law_draw" (defArgs Z2c) (defBody Z2c) (defScope Z2c) dl [] f fd):FnG P HasW.w K mg base 1 f fd ["_law_deal", "_law_wide"] (spE K 2 g__law_draw):=fnE F Y6i fun cdv A outer s H E gu room=>by
  have h:Here (cxB P HasW.w K mg base Z8s "_law_draw" (defScope Z2c) f cdv A outer s H E) (wxE E) 0:=Z0b gu room
  unfold Z6o
  exact Y1 (Q5 (i:=2) Z7j rfl (by first | exact Or.inl rfl | exact Or.inr rfl) (Z2x h.u1 (Z3 0) (X9))) (Y1 (Y9t Z2z (Y0o (Z6c (Z0y h.ne (Z3 2) (Z2y (Y0))) (Z5f (Z0y h.eq (U8 (Z3 2) (X3e (X0))) (X0))))) (X1 (Z4y (X8t PySem.F.slot_list_pop PySem.F.type_list_pop mt_pop X7y (Z3 2))))) (Y1 (Z2p (Z0y h.ne (Z3 2) (Z2y (Y0))) (Y1 (Q5 (i:=3) Z7j rfl (by first | exact Or.inl rfl | exact Or.inr rfl) (X8t PySem.F.slot_list_pop PySem.F.type_list_pop mt_pop X7y (Z3 2))) (Y1 (Z4y (Y17 PySem.F.slot_list_append PySem.F.type_list_append mt_append Z37 (Z3 2) (Z4 (Z79 h.fdiv (Z3 3) (Z3 1)) (Y0)))) (X1 (Z9k (Z79 h.mod (Z2w call_int1 Y64 rfl Fx.f_int (Z4 (Z3 3) (Y0))) (Z3 1)))))) (Z0c)) (Y1 (Z99 h.u1 (Z3 0) (X9) (Z79 h.mod (Z2w call_int1 Y64 rfl Fx.f_int (Z4 (Z79 h.add (Z79 h.mul (Z2x h.u1 (Z3 0) (X9)) (X0)) (X0)) (Y0))) (X0))) (X1 (Z9k (Z79 h.mod (Z2w call_int1 Y64 rfl Fx.f_int (Z4 (Z79 h.fdiv (Z2x h.u1 (Z3 0) (X9)) (X0)) (Y0))) (Z3 1)))))))
def Z8u:List Str:=["_law_deal", "_law_some"]
theorem Y5x:Z8u.Nodup:=by decide +kernel
theorem Y6k:FnScope Z8u ["_law_deal", "_law_some"] (defScope Z2e):=⟨rfl,rfl,rfl,Y5x,rfl,by decide +kernel,by decide +kernel⟩
def Y1n:MS:=Q1 (V5 (Z1 1) (Z8 (Y8 2 (Y9 [] g__law_draw)) (Z0 (Z1 0) (Z0 (Z8 Z1d (Z0 (Z1 1) (Z7))) (Z7)))))
def g__law_pick:List X→Sto→R X:=X08 2 Y1n
include Fx in
theorem Y54 (K__law_draw:Kept P HasW.w K mg base 1 (He.ga K "_law_draw") (spE K 2 g__law_draw)) (F:FunD K "_law_pick" "_law_pick" (defArgs Z2e) (defBody Z2e) (defScope Z2e) dl [] f fd):FnG P HasW.w K mg base 2 f fd ["_law_deal", "_law_some"] (spE K 2 g__law_pick):=fnE F Y6k fun cdv A outer s H E gu room=>by
  have h:Here (cxB P HasW.w K mg base Z8u "_law_pick" (defScope Z2e) f cdv A outer s H E) (wxE E) 1:=Z0b gu room
  unfold Y1n
  exact X1 (Z9k (U8 (Z3 1) (V6 (h.callE K__law_draw (by decide)) rfl Fx.g__law_draw K__law_draw.kp (Z4 (Z3 0) (Z4 (Z1u Z78 Z77 rfl Fx.f_len (Z4 (Z3 1) (Y0))) (Y0))))))
def Z9y:List Str:=["_law_deal", "_law_marks", "_law_word", "_law_old", "_law_take"]
theorem Z6s:Z9y.Nodup:=by decide +kernel
theorem Y8e:FnScope Z9y ["_law_deal", "_law_marks"] (defScope Z23):=⟨rfl,rfl,rfl,Z6s,rfl,by decide +kernel,by decide +kernel⟩
def Z7v:MS:=Z9 (X2 2 (Z8 (Y8 2 (Y9 [] g__law_pick)) (Z0 (Z1 0) (Z0 (V3 (Z0 (m_c (.str "give")) (Z0 (m_c (.str "give")) (Z0 (m_c (.str "carry")) (Z0 (m_c (.str "drop")) (Z0 (m_c (.str "back")) (Z0 (m_c (.str "right")) (Z0 (m_c (.str "wrong")) (Z7))))))))) (Z7))))) (Z9 (X2 3 (Z8 (Y8 2 (Y9 [] g__law_pick)) (Z0 (Z1 0) (Z0 (Y2 Z4e (V3 (Z0 (m_c (.str "any")) (Z0 (m_c (.str "any")) (Z7)))) (Z1q (U3 (Y2 eqD (Z1 2) (m_c (.str "give")))) (Z1 1) (Y2 Z4e (Y6 (Z1 1) (X4 (m_c (.int 1))) (Z1e)) (V3 (Z0 (m_c (.str "any")) (Z7)))))) (Z7))))) (Z9 (X2 4 (Z25 (Y2 neD (Z1 2) (m_c (.str "give"))) (Y2 gtD (Z8 (Y8 2 (Y9 [] g__law_draw)) (Z0 (Z1 0) (Z0 (m_c (.int 4)) (Z7)))) (m_c (.int 0))))) (Q1 (W1 (Z0 (Z1 2) (Z0 (Z1 3) (Z0 (Z8 (Y8 2 (Y9 [] g__law_pick)) (Z0 (Z1 0) (Z0 (Y2 Z4e (Y2 Z4e (Z1 1) (V3 (Z0 (m_c (.str "same")) (Z7)))) (Y6 (Z1 1) (X4 (m_c (.int 1))) (Z1e))) (Z7)))) (Z0 (Z1 4) (Z7)))))))))
def g__law_row:List X→Sto→R X:=X08 5 Z7v
include Fx in
theorem Y72 (K__law_pick:Kept P HasW.w K mg base 2 (He.ga K "_law_pick") (spE K 2 g__law_pick)) (K__law_draw:Kept P HasW.w K mg base 1 (He.ga K "_law_draw") (spE K 2 g__law_draw)) (F:FunD K "_law_row" "_law_row" (defArgs Z23) (defBody Z23) (defScope Z23) dl [] f fd):FnG P HasW.w K mg base 3 f fd ["_law_deal", "_law_marks"] (spE K 2 g__law_row):=fnE F Y8e fun cdv A outer s H E gu room=>by
  have h:Here (cxB P HasW.w K mg base Z9y "_law_row" (defScope Z23) f cdv A outer s H E) (wxE E) 2:=Z0b gu room
  unfold Z7v
  exact Y1 (Q5 (i:=2) Z6s rfl (by first | exact Or.inl rfl | exact Or.inr rfl) (V6 (h.callE K__law_pick (by decide)) rfl Fx.g__law_pick K__law_pick.kp (Z4 (Z3 0) (Z4 (Z2y (Z4 (X9) (Z4 (X9) (Z4 (X9) (Z4 (X9) (Z4 (X9) (Z4 (X9) (Z4 (X9) (Y0))))))))) (Y0))))) (Y1 (Q5 (i:=3) Z6s rfl (by first | exact Or.inl rfl | exact Or.inr rfl) (V6 (h.callE K__law_pick (by decide)) rfl Fx.g__law_pick K__law_pick.kp (Z4 (Z3 0) (Z4 (Z79 h.add (Z2y (Z4 (X9) (Z4 (X9) (Y0)))) (Y0x (Z0y h.eq (Z3 2) (X9)) (Z3 1) (Z79 h.add (Z1k (Z3 1) (Z18 (X0)) (Z2o)) (Z2y (Z4 (X9) (Y0)))))) (Y0))))) (Y1 (Q5 (i:=4) Z6s rfl (by first | exact Or.inl rfl | exact Or.inr rfl) (W74 (Z4s h.ne (Z3 2) (X9)) (Y0m (Z4s h.gt (V6 (h.callE K__law_draw (by decide)) rfl Fx.g__law_draw K__law_draw.kp (Z4 (Z3 0) (Z4 (X0) (Y0)))) (X0))))) (X1 (Z9k (Z1m (Z4 (Z3 2) (Z4 (Z3 3) (Z4 (V6 (h.callE K__law_pick (by decide)) rfl Fx.g__law_pick K__law_pick.kp (Z4 (Z3 0) (Z4 (Z79 h.add (Z79 h.add (Z3 1) (Z2y (Z4 (X9) (Y0)))) (Z1k (Z3 1) (Z18 (X0)) (Z2o))) (Y0)))) (Z4 (Z3 4) (Y0))))))))))
def Z46:List Str:=["_law_deal", "_law_most", "_law_many", "_law_pools", "_law_marks", "_law_shown", "_law_asked", "_law_good", "_law_weak", "_law_rows", "_law_turn", "_law_at", "_law_mark"]
theorem Z0n:Z46.Nodup:=by decide +kernel
theorem Y6l:FnScope Z46 ["_law_deal", "_law_most", "_law_many"] (defScope Z1o):=⟨rfl,rfl,rfl,Z0n,rfl,by decide +kernel,by decide +kernel⟩
def Z6p:MS:=Z9 (X2 3 (V2 (Z0 (V3 (Z0 (m_c (.str "none")) (Z0 (m_c (.str "doubt")) (Z0 (m_c (.str "good")) (Z0 (m_c (.str "old")) (Z0 (m_c (.str "bad")) (Z7))))))) (Z0 (V3 (Z0 (m_c (.str "a")) (Z0 (m_c (.str "b")) (Z0 (m_c (.str "c")) (Z0 (m_c (.str "d")) (Z0 (m_c (.str "e")) (Z7))))))) (Z7))))) (Z9 (W0 (Z1s V8 U4 (Z1 3) (Z0 (V3 (Z0 (m_c (.str "give")) (Z0 (m_c (.str "drop")) (Z0 (m_c (.str "right")) (Z0 (m_c (.str "back")) (Z0 (m_c (.str "wrong")) (Z7))))))) (Z7)))) (Z9 (X2 4 (Y6 (Z8 (Y8 2 (Y9 [] g__law_pick)) (Z0 (Z1 0) (Z0 (Z1 3) (Z7)))) (Z1e) (X4 (Y2 Z4e (m_c (.int 2)) (Z8 (Y8 2 (Y9 [] g__law_draw)) (Z0 (Z1 0) (Z0 (Y2 W6x (Z1 1) (m_c (.int 1))) (Z7)))))))) (Z9 (X2 5 (Z14 (.nm 12) (V7 (Y6 (Z1 4) (X4 (m_c (.int 1))) (Z1e))) (U2 (U3 (Y2 eqD (Z8 (Y8 2 (Y9 [] g__law_draw)) (Z0 (Z1 0) (Z0 (m_c (.int 2)) (Z7)))) (m_c (.int 0)))) (U3 (Y2 eqD (Z1 12) (V5 (Z1 4) (Y5t (m_c (.int 1))))))) (Z1 12) [12])) (Z9 (X2 6 (Z14 (.nm 12) (V7 (Z1 4)) (U3 (Y2 eqD (Z8 (Y8 2 (Y9 [] g__law_draw)) (Z0 (Z1 0) (Z0 (m_c (.int 3)) (Z7)))) (m_c (.int 0)))) (Z1 12) [12])) (Z9 (Q9 7 8 (Z0 (V5 (Z1 4) (Y5t (m_c (.int 1)))) (Z0 (V5 (Z1 4) (m_c (.int 1))) (Z7)))) (Z9 (X2 9 (V3 (Z0 (W1 (Z0 (m_c (.str "give")) (Z0 (m_c (.str "any")) (Z0 (Z1 7) (Z0 (m_c (.bl true)) (Z7)))))) (Z0 (W1 (Z0 (m_c (.str "carry")) (Z0 (m_c (.str "any")) (Z0 (Z1 8) (Z0 (m_c (.bl true)) (Z7)))))) (Z0 (W1 (Z0 (m_c (.str "right")) (Z0 (m_c (.str "any")) (Z0 (Z1 7) (Z0 (m_c (.bl true)) (Z7)))))) (Z7)))))) (Z9 (X2 9 (Y2 Z4e (Z1 9) (V3 (Z0 (W1 (Z0 (m_c (.str "wrong")) (Z0 (m_c (.str "any")) (Z0 (V5 (Z1 4) (m_c (.int 0))) (Z0 (m_c (.bl true)) (Z7)))))) (Z0 (W1 (Z0 (m_c (.str "drop")) (Z0 (Z1 8) (Z0 (V5 (Z1 4) (m_c (.int 0))) (Z0 (m_c (.bl true)) (Z7)))))) (Z7)))))) (Z9 (X2 9 (Y6 (Z1 9) (Z1e) (X4 (Y2 Z4e (m_c (.int 3)) (Z8 (Y8 2 (Y9 [] g__law_draw)) (Z0 (Z1 0) (Z0 (m_c (.int 3)) (Z7)))))))) (Z9 (Z1f (.nm 10) (Z5p (Z0 (Z8 (Y8 2 (Y9 [] g__law_draw)) (Z0 (Z1 0) (Z0 (m_c (.int 4)) (Z7)))) (Z7))) (Z9 (X2 11 (Z8 (Y8 2 (Y9 [] g__law_draw)) (Z0 (Z1 0) (Z0 (Y2 Z4e (Z8 Z1d (Z0 (Z1 9) (Z7))) (m_c (.int 1))) (Z7))))) (X2 9 (Y2 Z4e (Y2 Z4e (Y6 (Z1 9) (Z1e) (X4 (Z1 11))) (V3 (Z0 (Z8 (Y8 2 (Y9 [] g__law_row)) (Z0 (Z1 0) (Z0 (Z1 4) (Z7)))) (Z7)))) (Y6 (Z1 9) (X4 (Y2 Z4e (Z1 11) (Z8 (Y8 2 (Y9 [] g__law_draw)) (Z0 (Z1 0) (Z0 (m_c (.int 2)) (Z7)))))) (Z1e)))))) (Q1 (W1 (Z0 (Z8 Z75 (Z0 (Z1 4) (Z7))) (Z0 (Z8 Z75 (Z0 (Z1 5) (Z7))) (Z0 (Z8 Z75 (Z0 (Z1 6) (Z7))) (Z0 (Z8 Z75 (Z0 (Y6 (Z1 9) (Z1e) (X4 (Z1 2))) (Z7))) (Z7))))))))))))))))
def g__law_tool:List X→Sto→R X:=X08 13 Z6p
include Fx in
theorem Y55 (K__law_pick:Kept P HasW.w K mg base 2 (He.ga K "_law_pick") (spE K 2 g__law_pick)) (K__law_draw:Kept P HasW.w K mg base 1 (He.ga K "_law_draw") (spE K 2 g__law_draw)) (K__law_row:Kept P HasW.w K mg base 3 (He.ga K "_law_row") (spE K 2 g__law_row)) (F:FunD K "_law_tool" "_law_tool" (defArgs Z1o) (defBody Z1o) (defScope Z1o) dl [] f fd):FnG P HasW.w K mg base 4 f fd ["_law_deal", "_law_most", "_law_many"] (spE K 3 g__law_tool):=fnE F Y6l fun cdv A outer s H E gu room=>by
  have h:Here (cxB P HasW.w K mg base Z46 "_law_tool" (defScope Z1o) f cdv A outer s H E) (wxE E) 3:=Z0b gu room
  unfold Z6p
  exact Y1 (Q5 (i:=3) Z0n rfl (by first | exact Or.inl rfl | exact Or.inr rfl) (Z6r (Z4 (Z2y (Z4 (X9) (Z4 (X9) (Z4 (X9) (Z4 (X9) (Z4 (X9) (Y0))))))) (Z4 (Z2y (Z4 (X9) (Z4 (X9) (Z4 (X9) (Z4 (X9) (Z4 (X9) (Y0))))))) (Y0))))) (Y1 (Z4y (Y17 PySem.F.slot_list_append PySem.F.type_list_append mt_append Z37 (Z3 3) (Z4 (Z2y (Z4 (X9) (Z4 (X9) (Z4 (X9) (Z4 (X9) (Z4 (X9) (Y0))))))) (Y0)))) (Y1 (Q5 (i:=4) Z0n rfl (by first | exact Or.inl rfl | exact Or.inr rfl) (Z1k (V6 (h.callE K__law_pick (by decide)) rfl Fx.g__law_pick K__law_pick.kp (Z4 (Z3 0) (Z4 (Z3 3) (Y0)))) (Z2o) (Z18 (Z79 h.add (X0) (V6 (h.callE K__law_draw (by decide)) rfl Fx.g__law_draw K__law_draw.kp (Z4 (Z3 0) (Z4 (Z79 h.sub (Z3 1) (X0)) (Y0)))))))) (Y1 (Z4q (i:=5) (own:=[("_law_mark",12)]) (t:=(.nm 12)) rfl Z0n rfl rfl rfl (Z00 (Z1k (Z3 4) (Z18 (X0)) (Z2o))) (blkOk_by (N:=Z46) (sc:=defScope Z1o) (by decide +kernel)) (by decide) (fun _ _ _ _ _=>X8 (i:=12) Z0n rfl (by first | exact Or.inl rfl | exact Or.inr rfl)) (fun _ _ _ _ _=>Y2d (Y0o (Z7g (Z0y (h.blk _ _ _ _ _).eq (V6 ((h.blk _ _ _ _ _).callE K__law_draw (by decide)) rfl Fx.g__law_draw K__law_draw.kp (Z4 (Z3 0) (Z4 (X0) (Y0)))) (X0)) (Z5g (Z0y (h.blk _ _ _ _ _).eq (Z3 12) (U8 (Z3 4) (X3e (X0)))))))) (fun _ _ _ _ _=>Z3 12)) (Y1 (Z4q (i:=6) (own:=[("_law_mark",12)]) (t:=(.nm 12)) rfl Z0n rfl rfl rfl (Z00 (Z3 4)) (blkOk_by (N:=Z46) (sc:=defScope Z1o) (by decide +kernel)) (by decide) (fun _ _ _ _ _=>X8 (i:=12) Z0n rfl (by first | exact Or.inl rfl | exact Or.inr rfl)) (fun _ _ _ _ _=>Y2d (Z0y (h.blk _ _ _ _ _).eq (V6 ((h.blk _ _ _ _ _).callE K__law_draw (by decide)) rfl Fx.g__law_draw K__law_draw.kp (Z4 (Z3 0) (Z4 (X0) (Y0)))) (X0))) (fun _ _ _ _ _=>Z3 12)) (Y1 (Y9s rfl Z0n (i:=7) (j:=8) rfl rfl (by decide) rfl rfl (Z4 (U8 (Z3 4) (X3e (X0))) (Z4 (U8 (Z3 4) (X0)) (Y0)))) (Y1 (Q5 (i:=9) Z0n rfl (by first | exact Or.inl rfl | exact Or.inr rfl) (Z2y (Z4 (Z1m (Z4 (X9) (Z4 (X9) (Z4 (Z3 7) (Z4 (Z8a) (Y0)))))) (Z4 (Z1m (Z4 (X9) (Z4 (X9) (Z4 (Z3 8) (Z4 (Z8a) (Y0)))))) (Z4 (Z1m (Z4 (X9) (Z4 (X9) (Z4 (Z3 7) (Z4 (Z8a) (Y0)))))) (Y0)))))) (Y1 (Q5 (i:=9) Z0n rfl (by first | exact Or.inl rfl | exact Or.inr rfl) (Z79 h.add (Z3 9) (Z2y (Z4 (Z1m (Z4 (X9) (Z4 (X9) (Z4 (U8 (Z3 4) (X0)) (Z4 (Z8a) (Y0)))))) (Z4 (Z1m (Z4 (X9) (Z4 (Z3 8) (Z4 (U8 (Z3 4) (X0)) (Z4 (Z8a) (Y0)))))) (Y0)))))) (Y1 (Q5 (i:=9) Z0n rfl (by first | exact Or.inl rfl | exact Or.inr rfl) (Z1k (Z3 9) (Z2o) (Z18 (Z79 h.add (X0) (V6 (h.callE K__law_draw (by decide)) rfl Fx.g__law_draw K__law_draw.kp (Z4 (Z3 0) (Z4 (X0) (Y0)))))))) (Y1 (Z3m Z2z rfl (Y2c rfl Fx.f_range (Z4 (V6 (h.callE K__law_draw (by decide)) rfl Fx.g__law_draw K__law_draw.kp (Z4 (Z3 0) (Z4 (X0) (Y0)))) (Y0))) (X8 (i:=10) Z0n rfl (by first | exact Or.inl rfl | exact Or.inr rfl)) (Y1 (Q5 (i:=11) Z0n rfl (by first | exact Or.inl rfl | exact Or.inr rfl) (V6 (h.callE K__law_draw (by decide)) rfl Fx.g__law_draw K__law_draw.kp (Z4 (Z3 0) (Z4 (Z79 h.add (Z1u Z78 Z77 rfl Fx.f_len (Z4 (Z3 9) (Y0))) (X0)) (Y0))))) (X1 (Q5 (i:=9) Z0n rfl (by first | exact Or.inl rfl | exact Or.inr rfl) (Z79 h.add (Z79 h.add (Z1k (Z3 9) (Z2o) (Z18 (Z3 11))) (Z2y (Z4 (V6 (h.callE K__law_row (by decide)) rfl Fx.g__law_row K__law_row.kp (Z4 (Z3 0) (Z4 (Z3 4) (Y0)))) (Y0)))) (Z1k (Z3 9) (Z18 (Z79 h.add (Z3 11) (V6 (h.callE K__law_draw (by decide)) rfl Fx.g__law_draw K__law_draw.kp (Z4 (Z3 0) (Z4 (X0) (Y0)))))) (Z2o))))))) (X1 (Z9k (Z1m (Z4 (Z2w call_tuple_of Y0u rfl Fx.f_tuple (Z4 (Z3 4) (Y0))) (Z4 (Z2w call_tuple_of Y0u rfl Fx.f_tuple (Z4 (Z3 5) (Y0))) (Z4 (Z2w call_tuple_of Y0u rfl Fx.f_tuple (Z4 (Z3 6) (Y0))) (Z4 (Z2w call_tuple_of Y0u rfl Fx.f_tuple (Z4 (Z1k (Z3 9) (Z2o) (Z18 (Z3 2))) (Y0))) (Y0)))))))))))))))))
def Z4m:List Str:=["_law_deal", "_law_tool_here", "_law_mark", "_law_fresh", "_law_rows", "_law_row_here", "_law_lines", "_law_then", "_law_some"]
theorem Z01:Z4m.Nodup:=by decide +kernel
theorem Y2u:FnScope Z4m ["_law_deal", "_law_tool_here"] (defScope Z02):=⟨rfl,rfl,rfl,Z01,rfl,by decide +kernel,by decide +kernel⟩
def Z4p:MS:=Z9 (Z0r (U3 (Y2 gtD (Z8 Z1d (Z0 (V5 (Z1 1) (m_c (.int 0))) (Z7))) (m_c (.int 4)))) (Q1 (Z1 1)) (W7)) (Z9 (Y6b [(.nm 2),(.nm 3),(.nm 4)] (Z0 (Z8 (Y8 2 (Y9 [] g__law_pick)) (Z0 (Z1 0) (Z0 (Z8 X0l (Z0 (Y6 (V5 (Z1 1) (m_c (.int 0))) (X4 (m_c (.int 1))) (Z1e)) (Z7))) (Z7)))) (Z0 (m_c (.str "twin")) (Z0 (V2 (Z7)) (Z7))))) (Z9 (Z1f (.nm 5) (V7 (V5 (Z1 1) (m_c (.int 3)))) (Z9 (X2 7 (Z1q (U3 (Y2 eqD (V5 (Z1 5) (m_c (.int 2))) (Z1 2))) (Z8 (Y8 2 (Y9 [] g__law_pick)) (Z0 (Z1 0) (Z0 (V3 (Z0 (Z1 2) (Z0 (Z1 3) (Z7)))) (Z7)))) (V5 (Z1 5) (m_c (.int 2))))) (Z9 (W0 (Z1s V8 U4 (Z1 4) (Z0 (W1 (Z0 (V5 (Z1 5) (m_c (.int 0))) (Z0 (V5 (Z1 5) (m_c (.int 1))) (Z0 (Z1 7) (Z0 (V5 (Z1 5) (m_c (.int 3))) (Z7)))))) (Z7)))) (Z0r (U3 (Y2 eqD (V5 (Z1 5) (m_c (.int 1))) (Z1 2))) (Z9 (X2 7 (Z1q (U3 (Y2 eqD (V5 (Z1 5) (m_c (.int 2))) (Z1 2))) (Z8 (Y8 2 (Y9 [] g__law_pick)) (Z0 (Z1 0) (Z0 (V3 (Z0 (Z1 2) (Z0 (Z1 3) (Z7)))) (Z7)))) (V5 (Z1 5) (m_c (.int 2))))) (W0 (Z1s V8 U4 (Z1 4) (Z0 (W1 (Z0 (V5 (Z1 5) (m_c (.int 0))) (Z0 (Z1 3) (Z0 (Z1 7) (Z0 (V5 (Z1 5) (m_c (.int 3))) (Z7)))))) (Z7))))) (W7))))) (Z9 (X2 6 (Z14 (.nm 8) (V7 (Y6 (Z1 1) (Z1e) (X4 (m_c (.int 3))))) (W8) (Y2 Z4e (Z1 8) (Z1q (U3 (Y2 inD (Z1 2) (Z1 8))) (W1 (Z0 (Z1 3) (Z7))) (W1 (Z7)))) [8])) (Q1 (W1 (Z0 (V5 (Z1 6) (m_c (.int 0))) (Z0 (V5 (Z1 6) (m_c (.int 1))) (Z0 (V5 (Z1 6) (m_c (.int 2))) (Z0 (Z8 Z75 (Z0 (Z1 4) (Z7))) (Z7))))))))))
def g__law_doubled:List X→Sto→R X:=X08 9 Z4p
include Fx in
theorem Y2o (K__law_pick:Kept P HasW.w K mg base 2 (He.ga K "_law_pick") (spE K 2 g__law_pick)) (F:FunD K "_law_doubled" "_law_doubled" (defArgs Z02) (defBody Z02) (defScope Z02) dl [] f fd):FnG P HasW.w K mg base 3 f fd ["_law_deal", "_law_tool_here"] (spE K 2 g__law_doubled):=fnE F Y2u fun cdv A outer s H E gu room=>by
  have h:Here (cxB P HasW.w K mg base Z4m "_law_doubled" (defScope Z02) f cdv A outer s H E) (wxE E) 2:=Z0b gu room
  unfold Z4p
  exact Y1 (Z2p (Z0y h.gt (Z1u Z78 Z77 rfl Fx.f_len (Z4 (U8 (Z3 1) (X0)) (Y0))) (X0)) (X1 (Z9k (Z3 1))) (Z0c)) (Y1 (W09 rfl (Z4 (V6 (h.callE K__law_pick (by decide)) rfl Fx.g__law_pick K__law_pick.kp (Z4 (Z3 0) (Z4 (Z2w call_list_of X9t rfl Fx.f_list (Z4 (Z1k (U8 (Z3 1) (X0)) (Z18 (X0)) (Z2o)) (Y0))) (Y0)))) (Z4 (X9) (Z4 (Z6r (Y0)) (Y0)))) (Q6 (X8 (i:=2) Z01 rfl (by first | exact Or.inl rfl | exact Or.inr rfl)) (Q6 (X8 (i:=3) Z01 rfl (by first | exact Or.inl rfl | exact Or.inr rfl)) (Q6 (X8 (i:=4) Z01 rfl (by first | exact Or.inl rfl | exact Or.inr rfl)) (Z4i))))) (Y1 (Z3m Z2z rfl (Z00 (U8 (Z3 1) (X0))) (X8 (i:=5) Z01 rfl (by first | exact Or.inl rfl | exact Or.inr rfl)) (Y1 (Q5 (i:=7) Z01 rfl (by first | exact Or.inl rfl | exact Or.inr rfl) (Y0x (Z0y h.eq (U8 (Z3 5) (X0)) (Z3 2)) (V6 (h.callE K__law_pick (by decide)) rfl Fx.g__law_pick K__law_pick.kp (Z4 (Z3 0) (Z4 (Z2y (Z4 (Z3 2) (Z4 (Z3 3) (Y0)))) (Y0)))) (U8 (Z3 5) (X0)))) (Y1 (Z4y (Y17 PySem.F.slot_list_append PySem.F.type_list_append mt_append Z37 (Z3 4) (Z4 (Z1m (Z4 (U8 (Z3 5) (X0)) (Z4 (U8 (Z3 5) (X0)) (Z4 (Z3 7) (Z4 (U8 (Z3 5) (X0)) (Y0)))))) (Y0)))) (X1 (Z2p (Z0y h.eq (U8 (Z3 5) (X0)) (Z3 2)) (Y1 (Q5 (i:=7) Z01 rfl (by first | exact Or.inl rfl | exact Or.inr rfl) (Y0x (Z0y h.eq (U8 (Z3 5) (X0)) (Z3 2)) (V6 (h.callE K__law_pick (by decide)) rfl Fx.g__law_pick K__law_pick.kp (Z4 (Z3 0) (Z4 (Z2y (Z4 (Z3 2) (Z4 (Z3 3) (Y0)))) (Y0)))) (U8 (Z3 5) (X0)))) (X1 (Z4y (Y17 PySem.F.slot_list_append PySem.F.type_list_append mt_append Z37 (Z3 4) (Z4 (Z1m (Z4 (U8 (Z3 5) (X0)) (Z4 (Z3 3) (Z4 (Z3 7) (Z4 (U8 (Z3 5) (X0)) (Y0)))))) (Y0)))))) (Z0c)))))) (Y1 (Z4q (i:=6) (own:=[("_law_some",8)]) (t:=(.nm 8)) rfl Z01 rfl rfl rfl (Z00 (Z1k (Z3 1) (Z2o) (Z18 (X0)))) (blkOk_by (N:=Z4m) (sc:=defScope Z02) (by decide +kernel)) (by decide) (fun _ _ _ _ _=>X8 (i:=8) Z01 rfl (by first | exact Or.inl rfl | exact Or.inr rfl)) (fun _ _ _ _ _=>Z07) (fun _ _ _ _ _=>Z79 (h.blk _ _ _ _ _).add (Z3 8) (Y0x (Z0y (h.blk _ _ _ _ _).in_ (Z3 2) (Z3 8)) (Z1m (Z4 (Z3 3) (Y0))) (Z1m (Y0))))) (X1 (Z9k (Z1m (Z4 (U8 (Z3 6) (X0)) (Z4 (U8 (Z3 6) (X0)) (Z4 (U8 (Z3 6) (X0)) (Z4 (Z2w call_tuple_of Y0u rfl Fx.f_tuple (Z4 (Z3 4) (Y0))) (Y0)))))))))))
def Z5w:List Str:=["_law_tool_here", "_law_word", "_law_mark", "_law_at", "_law_one", "_law_old", "_law_then", "_law_take", "_law_later"]
theorem Z08:Z5w.Nodup:=by decide +kernel
theorem Y2t:FnScope Z5w ["_law_tool_here", "_law_word", "_law_mark"] (defScope Z1b):=⟨rfl,rfl,rfl,Z08,rfl,by decide +kernel,by decide +kernel⟩
def Z4o:MS:=Z9 (Z0r (W4 (U3 (Y2 eqD (Z1 2) (V5 (V5 (Z1 0) (m_c (.int 0))) (m_c (.int 0))))) (U3 (Y2 neD (Z1 1) (m_c (.str "give"))))) (V4 (Z0 (Z1 2) (Z0 (m_c (.bl false)) (Z0 (m_c .non) (Z7))))) (W7)) (Z9 (Z1f (.tp [(.nm 3),(.tp [(.nm 4),(.nm 5),(.nm 6),(.nm 7)])]) (Z4z (Z0 (V5 (Z1 0) (m_c (.int 3))) (Z7))) (Z0r (W4 (U3 (Y2 eqD (Z1 4) (Z1 1))) (U3 (Y2 inD (Z1 5) (W1 (Z0 (m_c (.str "any")) (Z0 (Z1 2) (Z7))))))) (Z9 (X2 8 (Z1q (U3 (Y2 eqD (Z1 6) (m_c (.str "same")))) (Z1 2) (Z1 6))) (Z9 (Z0r (W4 (U3 (Y2 eqD (Z1 1) (m_c (.str "give")))) (W4 (X7 (Y7 (Z1 7))) (U3 (Y2 eqD (Z1 2) (V5 (V5 (Z1 0) (m_c (.int 0))) (m_c (.int 0))))))) (X2 8 (Z1 2)) (W7)) (V4 (Z0 (Z1 8) (Z0 (Q0 (Y2 eqD (Z1 1) (m_c (.str "give"))) (Q0 (Z1 7) (Y2 neD (Z1 8) (V5 (V5 (Z1 0) (m_c (.int 0))) (m_c (.int 0)))))) (Z0 (Z1 3) (Z7))))))) (W7))) (V4 (Z0 (Z1q (U3 (Y2 eqD (Z1 1) (m_c (.str "carry")))) (V5 (V5 (Z1 0) (m_c (.int 0))) (m_c (.int 0))) (Z1 2)) (Z0 (m_c (.bl false)) (Z0 (m_c .non) (Z7))))))
def g__law_becomes:List D→PR:=Z6e 9 Z4o
include Fx in
theorem Y2n  (F:FunD K "_law_becomes" "_law_becomes" (defArgs Z1b) (defBody Z1b) (defScope Z1b) dl [] f fd):FnG P HasW.w K mg base 1 f fd ["_law_tool_here", "_law_word", "_law_mark"] (spP K 3 g__law_becomes):=fnP F Y2t fun cdv A outer s H E gu room=>by
  have h:Here (cxB P HasW.w K mg base Z5w "_law_becomes" (defScope Z1b) f cdv A outer s H E) (wxE E) 0:=Z0b gu room
  unfold Z4o
  exact Y1 (Z2p (Y0o (Z6c (Z0y h.eq (Z3 2) (U8 (U8 (Z3 0) (X0)) (X0))) (Z5f (Z0y h.ne (Z3 1) (X9))))) (X1 (Z7f (Z4 (Z3 2) (Z4 (Z8a) (Z4 (Z8k) (Y0)))))) (Z0c)) (Y1 (Z3m Z2z rfl (Y4q rfl Fx.f_enumerate (Z4 (U8 (Z3 0) (X0)) (Y0))) (Z6x rfl (Q6 (X8 (i:=3) Z08 rfl (by first | exact Or.inl rfl | exact Or.inr rfl)) (Q6 (Z6x rfl (Q6 (X8 (i:=4) Z08 rfl (by first | exact Or.inl rfl | exact Or.inr rfl)) (Q6 (X8 (i:=5) Z08 rfl (by first | exact Or.inl rfl | exact Or.inr rfl)) (Q6 (X8 (i:=6) Z08 rfl (by first | exact Or.inl rfl | exact Or.inr rfl)) (Q6 (X8 (i:=7) Z08 rfl (by first | exact Or.inl rfl | exact Or.inr rfl)) (Z4i)))))) (Z4i)))) (X1 (Z2p (Y0o (Z6c (Z0y h.eq (Z3 4) (Z3 1)) (Z5f (Z0y h.in_ (Z3 5) (Z1m (Z4 (X9) (Z4 (Z3 2) (Y0)))))))) (Y1 (Q5 (i:=8) Z08 rfl (by first | exact Or.inl rfl | exact Or.inr rfl) (Y0x (Z0y h.eq (Z3 6) (X9)) (Z3 2) (Z3 6))) (Y1 (Z2p (Y0o (Z6c (Z0y h.eq (Z3 1) (X9)) (Z6c (Z3b (Z0x (Z3 7))) (Z5f (Z0y h.eq (Z3 2) (U8 (U8 (Z3 0) (X0)) (X0))))))) (X1 (Q5 (i:=8) Z08 rfl (by first | exact Or.inl rfl | exact Or.inr rfl) (Z3 2))) (Z0c)) (X1 (Z7f (Z4 (Z3 8) (Z4 (Z9f (Z4s h.eq (Z3 1) (X9)) (Z9f (Z3 7) (Y0m (Z4s h.ne (Z3 8) (U8 (U8 (Z3 0) (X0)) (X0)))))) (Z4 (Z3 3) (Y0)))))))) (Z0c)))) (X1 (Z7f (Z4 (Y0x (Z0y h.eq (Z3 1) (X9)) (U8 (U8 (Z3 0) (X0)) (X0)) (Z3 2)) (Z4 (Z8a) (Z4 (Z8k) (Y0)))))))
def Z3u:List Str:=["_law_tool_here", "_law_heap", "_law_mark", "_law_turn", "_law_later", "_law_firsts", "_law_some", "_law_word", "_law_then", "_law_took", "_law_at"]
theorem U6:Z3u.Nodup:=by decide +kernel
theorem Y4z:FnScope Z3u ["_law_tool_here"] (defScope Z03):=⟨rfl,rfl,rfl,U6,rfl,by decide +kernel,by decide +kernel⟩
def Z64:MS:=Z9 (X2 1 (Z5d)) (Z9 (Z1f (.nm 2) (V7 (V5 (Z1 0) (m_c (.int 0)))) (Z42 (Z1 1) (Z1 2) (W1 (Z0 (Y2 eqD (Z1 2) (V5 (V5 (Z1 0) (m_c (.int 0))) (m_c (.int 0)))) (Z0 (Y2 inD (Z1 2) (V5 (Z1 0) (m_c (.int 1)))) (Z0 (Y2 inD (Z1 2) (V5 (Z1 0) (m_c (.int 2)))) (Z7))))))) (Z9 (Z1f (.nm 3) (Z5p (Z0 (Z8 Z1d (Z0 (V5 (Z1 0) (m_c (.int 0))) (Z7))) (Z7))) (Z9 (X2 4 (Z5d)) (Z9 (Z1f (.nm 2) (V7 (V5 (Z1 0) (m_c (.int 0)))) (Z9 (X2 6 (Z14 (.nm 7) (V7 (W1 (Z0 (m_c (.str "give")) (Z0 (m_c (.str "carry")) (Z0 (m_c (.str "drop")) (Z0 (m_c (.str "back")) (Z0 (m_c (.str "right")) (Z0 (m_c (.str "wrong")) (Z7))))))))) (W8) (Z8 (Y8 3 (Y9 [] (callP g__law_becomes))) (Z0 (Z1 0) (Z0 (Z1 7) (Z0 (Z1 2) (Z7))))) [7])) (Z42 (Z1 4) (Z1 2) (Y2 Z4e (W1 (Z0 (Z0t (Z1 1) (Z1 2)) (Z7))) (Z8 Z75 (Z0 (Z14 (.tp [(.nm 8),(.nm 9),(.nm 10)]) (V7 (Z1 6)) (W8) (W1 (Z0 (Z0t (Z1 1) (Z1 8)) (Z0 (Z1 9) (Z7)))) [8,9,10]) (Z7))))))) (Z9 (X2 5 (Y2e)) (Z9 (Z1f (.nm 2) (V7 (V5 (Z1 0) (m_c (.int 0)))) (Z9l (Z1 5) (Z0t (Z1 4) (Z1 2)) (Z7h (Z1 5) (Z0t (Z1 4) (Z1 2)) (Z1 2)))) (X2 1 (Z8 Z96 (Z0 (Z14 (.nm 2) (V7 (V5 (Z1 0) (m_c (.int 0)))) (W8) (W1 (Z0 (Z1 2) (Z0 (Z72 (Z1 5) (Z0t (Z1 4) (Z1 2))) (Z7)))) [2]) (Z7))))))))) (X3 (W4p (Z1 1)))))
def g__law_heads:List D→PR:=Z6e 11 Z64
include Fx in
theorem Y4u (K__law_becomes:Kept P HasW.w K mg base 1 (He.ga K "_law_becomes") (spP K 3 g__law_becomes)) (F:FunD K "_law_heads" "_law_heads" (defArgs Z03) (defBody Z03) (defScope Z03) dl [] f fd):FnG P HasW.w K mg base 2 f fd ["_law_tool_here"] (spP K 1 g__law_heads):=fnP F Y4z fun cdv A outer s H E gu room=>by
  have h:Here (cxB P HasW.w K mg base Z3u "_law_heads" (defScope Z03) f cdv A outer s H E) (wxE E) 1:=Z0b gu room
  unfold Z64
  exact Y1 (Q5 (i:=1) U6 rfl (by first | exact Or.inl rfl | exact Or.inr rfl) (Z9g)) (Y1 (Z3m Z2z rfl (Z00 (U8 (Z3 0) (X0))) (X8 (i:=2) U6 rfl (by first | exact Or.inl rfl | exact Or.inr rfl)) (X1 (Z99 h.u1 (Z3 1) (Z3 2) (Z1m (Z4 (Z4s h.eq (Z3 2) (U8 (U8 (Z3 0) (X0)) (X0))) (Z4 (Z4s h.in_ (Z3 2) (U8 (Z3 0) (X0))) (Z4 (Z4s h.in_ (Z3 2) (U8 (Z3 0) (X0))) (Y0)))))))) (Y1 (Z3m Z2z rfl (Y2c rfl Fx.f_range (Z4 (Z1u Z78 Z77 rfl Fx.f_len (Z4 (U8 (Z3 0) (X0)) (Y0))) (Y0))) (X8 (i:=3) U6 rfl (by first | exact Or.inl rfl | exact Or.inr rfl)) (Y1 (Q5 (i:=4) U6 rfl (by first | exact Or.inl rfl | exact Or.inr rfl) (Z9g)) (Y1 (Z3m Z2z rfl (Z00 (U8 (Z3 0) (X0))) (X8 (i:=2) U6 rfl (by first | exact Or.inl rfl | exact Or.inr rfl)) (Y1 (Z4q (i:=6) (own:=[("_law_word",7)]) (t:=(.nm 7)) rfl U6 rfl rfl rfl (Z00 (Z1m (Z4 (X9) (Z4 (X9) (Z4 (X9) (Z4 (X9) (Z4 (X9) (Z4 (X9) (Y0))))))))) (blkOk_by (N:=Z3u) (sc:=defScope Z03) (by decide +kernel)) (by decide) (fun _ _ _ _ _=>X8 (i:=7) U6 rfl (by first | exact Or.inl rfl | exact Or.inr rfl)) (fun _ _ _ _ _=>Z07) (fun _ _ _ _ _=>V6 ((h.blk _ _ _ _ _).callP K__law_becomes (by decide)) rfl Fx.g__law_becomes K__law_becomes.kp (Z4 (Z3 0) (Z4 (Z3 7) (Z4 (Z3 2) (Y0)))))) (X1 (Z99 h.u1 (Z3 4) (Z3 2) (Z79 h.add (Z1m (Z4 (Z2x h.u1 (Z3 1) (Z3 2)) (Y0))) (Z2w call_tuple_of Y0u rfl Fx.f_tuple (Z4 (Z7e (own:=[("_law_then",8),("_law_took",9),("_law_at",10)]) (t:=(.tp [(.nm 8),(.nm 9),(.nm 10)])) rfl U6 (Z00 (Z3 6)) (blkOk_by (N:=Z3u) (sc:=defScope Z03) (by decide +kernel)) (by decide) (fun _ _ _ _ _=>Z6x rfl (Q6 (X8 (i:=8) U6 rfl (by first | exact Or.inl rfl | exact Or.inr rfl)) (Q6 (X8 (i:=9) U6 rfl (by first | exact Or.inl rfl | exact Or.inr rfl)) (Q6 (X8 (i:=10) U6 rfl (by first | exact Or.inl rfl | exact Or.inr rfl)) (Z4i))))) (fun _ _ _ _ _=>Z07) (fun _ _ _ _ _=>Z1m (Z4 (Z2x (h.blk _ _ _ _ _).u1 (Z3 1) (Z3 8)) (Z4 (Z3 9) (Y0))))) (Y0)))))))) (Y1 (Q5 (i:=5) U6 rfl (by first | exact Or.inl rfl | exact Or.inr rfl) (X0p)) (Y1 (Z3m Z2z rfl (Z00 (U8 (Z3 0) (X0))) (X8 (i:=2) U6 rfl (by first | exact Or.inl rfl | exact Or.inr rfl)) (X1 (X3p rfl h.u65 (Z3 5) (Z2x h.u1 (Z3 4) (Z3 2)) (X0o rfl h.u65 (Z3 5) (Z2x h.u1 (Z3 4) (Z3 2)) (Z3 2))))) (X1 (Q5 (i:=1) U6 rfl (by first | exact Or.inl rfl | exact Or.inr rfl) (X6j rfl rfl Fx.f_dict (Z4 (Z7e (own:=[("_law_mark",2)]) (t:=(.nm 2)) rfl U6 (Z00 (U8 (Z3 0) (X0))) (blkOk_by (N:=Z3u) (sc:=defScope Z03) (by decide +kernel)) (by decide) (fun _ _ _ _ _=>X8 (i:=2) U6 rfl (by first | exact Or.inl rfl | exact Or.inr rfl)) (fun _ _ _ _ _=>Z07) (fun _ _ _ _ _=>Z1m (Z4 (Z3 2) (Z4 (X3o rfl (h.blk _ _ _ _ _).u65 (Z3 5) (Z2x (h.blk _ _ _ _ _).u1 (Z3 4) (Z3 2))) (Y0))))) (Y0)))))))))) (X1 (Z0q (W70 (Z3 1))))))
def Z86:List Str:=["value", "sign"]
theorem Y0c:Z86.Nodup:=by decide +kernel
theorem X1c:FnScope Z86 ["value"] (defScope Z3a):=⟨rfl,rfl,rfl,Y0c,rfl,by decide +kernel,by decide +kernel⟩
def Y47:MS:=Z9 (Z0r (U2 (X7 (Y7 (Z6b (Y02 "str") [("Row",false),("Tool",false)] (Z1 0)))) (U2 (U3 (Y2 inD (Z1 0) (m_c (.tup ((["any", "same", "take", "keep", "to"]:List Str).map D.str))))) (X7 (U3 (W3 leD leD (m_c (.int 1)) (Z8 Z1d (Z0 (Z1 0) (Z7))) (m_c (.int 5))))))) (X3 (m_c (.bl false))) (W7)) (X3 (Z8 (Y3b fun l=>l.all id) (Z0 (Z14 (.nm 1) (V7 (Z1 0)) (W8) (Y2 inD (Z1 1) (m_c (.str "abcdefghijklmnopqrstuvwxyz"))) [1]) (Z7))))
def g_is_name:List D→PR:=Z6e 2 Y47
include Fx in
theorem X0x  (F:FunD K "is_name" "is_name" (defArgs Z3a) (defBody Z3a) (defScope Z3a) dl [] f fd):FnG P HasW.w K mg base 1 f fd ["value"] (spP K 1 g_is_name):=fnP F X1c fun cdv A outer s H E gu room=>by
  have h:Here (cxB P HasW.w K mg base Z86 "is_name" (defScope Z3a) f cdv A outer s H E) (wxE E) 0:=Z0b gu room
  unfold Y47
  exact Y1 (Z2p (Y0o (Z7g (Z3b (Z0x (Y3n rfl Fx.f_isinstance (Z3 0) (W3c rfl Fx.f_str) Fx.is_str (.ty _)))) (Z7g (Z0y h.in_ (Z3 0) (Z9d rfl Fx.g_BARRED Fx.v_BARRED)) (Z5g (Z3b (W2v h.le h.le (X0) (Z1u Z78 Z77 rfl Fx.f_len (Z4 (Z3 0) (Y0))) (W3z rfl Fx.i_MOST_LETTERS))))))) (X1 (Z0q (Z8a))) (Z0c)) (X1 (Z0q (Z1u (cr_all rfl) Y63 rfl Fx.f_all (Z4 (Z7e (own:=[("sign",1)]) (t:=(.nm 1)) rfl Y0c (Z00 (Z3 0)) (blkOk_by (N:=Z86) (sc:=defScope Z3a) (by decide +kernel)) (by decide) (fun _ _ _ _ _=>X8 (i:=1) Y0c rfl (by first | exact Or.inl rfl | exact Or.inr rfl)) (fun _ _ _ _ _=>Z07) (fun _ _ _ _ _=>Z4s (h.blk _ _ _ _ _).in_ (Z3 1) (W30 rfl Fx.s_LETTERS))) (Y0)))))
def Z7s:List Str:=["line", "head", "words", "one"]
theorem Z6t:Z7s.Nodup:=by decide +kernel
theorem Y8g:FnScope Z7s ["line", "head"] (defScope Z2g):=⟨rfl,rfl,rfl,Z6t,rfl,by decide +kernel,by decide +kernel⟩
def Z92:MS:=Z9 (X2 2 (Z2s Z17 (Z1 0) (m_c (.str " ")))) (Z9 (Z0r (U2 (U3 (Y2 neD (V5 (Z1 2) (m_c (.int 0))) (Z1 1))) (X7 (Y7 (Z8 (Y3b fun l=>l.all id) (Z0 (Z14 (.nm 3) (V7 (Y6 (Z1 2) (X4 (m_c (.int 1))) (Z1e))) (W8) (Z8 (Y8 1 (Y9 [] (callP g_is_name))) (Z0 (Z1 3) (Z7))) [3]) (Z7)))))) (X3 (m_c .non)) (W7)) (X3 (Z1q (W4 (U3 (Y2 eqD (Z1 1) (m_c (.str "marks")))) (U3 (Y2 eqD (Z8 Z1d (Z0 (Z1 2) (Z7))) (m_c (.int 1))))) (m_c .non) (Y6 (Z1 2) (X4 (m_c (.int 1))) (Z1e)))))
def g_names_in:List D→PR:=Z6e 4 Z92
include Fx in
theorem Y74 (K_is_name:Kept P HasW.w K mg base 1 (He.ga K "is_name") (spP K 1 g_is_name)) (F:FunD K "names_in" "names_in" (defArgs Z2g) (defBody Z2g) (defScope Z2g) dl [] f fd):FnG P HasW.w K mg base 2 f fd ["line", "head"] (spP K 2 g_names_in):=fnP F Y8g fun cdv A outer s H E gu room=>by
  have h:Here (cxB P HasW.w K mg base Z7s "names_in" (defScope Z2g) f cdv A outer s H E) (wxE E) 1:=Z0b gu room
  unfold Z92
  exact Y1 (Q5 (i:=2) Z6t rfl (by first | exact Or.inl rfl | exact Or.inr rfl) (Z9h (Z3 0) (X9))) (Y1 (Z2p (Y0o (Z7g (Z0y h.ne (U8 (Z3 2) (X0)) (Z3 1)) (Z5g (Z3b (Z0x (Z1u (cr_all rfl) Y63 rfl Fx.f_all (Z4 (Z7e (own:=[("one",3)]) (t:=(.nm 3)) rfl Z6t (Z00 (Z1k (Z3 2) (Z18 (X0)) (Z2o))) (blkOk_by (N:=Z7s) (sc:=defScope Z2g) (by decide +kernel)) (by decide) (fun _ _ _ _ _=>X8 (i:=3) Z6t rfl (by first | exact Or.inl rfl | exact Or.inr rfl)) (fun _ _ _ _ _=>Z07) (fun _ _ _ _ _=>V6 ((h.blk _ _ _ _ _).callP K_is_name (by decide)) rfl Fx.g_is_name K_is_name.kp (Z4 (Z3 3) (Y0)))) (Y0)))))))) (X1 (Z0q (Z8k))) (Z0c)) (X1 (Z0q (Y0x (Y0o (Z6c (Z0y h.eq (Z3 1) (X9)) (Z5f (Z0y h.eq (Z1u Z78 Z77 rfl Fx.f_len (Z4 (Z3 2) (Y0))) (X0))))) (Z8k) (Z1k (Z3 2) (Z18 (X0)) (Z2o))))))
def Y1g:List Str:=["value", "words"]
theorem X0t:Y1g.Nodup:=by decide +kernel
theorem X1d:FnScope Y1g ["value", "words"] (defScope Z31):=⟨rfl,rfl,rfl,X0t,rfl,by decide +kernel,by decide +kernel⟩
def Y48:MS:=X3 (Q0 (Z6b (Y02 "str") [("Row",false),("Tool",false)] (Z1 0)) (Y2 inD (Z1 0) (Z1 1)))
def g_is_word:List D→PR:=Z6e 2 Y48
include Fx in
theorem X0y  (F:FunD K "is_word" "is_word" (defArgs Z31) (defBody Z31) (defScope Z31) dl [] f fd):FnG P HasW.w K mg base 1 f fd ["value", "words"] (spP K 2 g_is_word):=fnP F X1d fun cdv A outer s H E gu room=>by
  have h:Here (cxB P HasW.w K mg base Y1g "is_word" (defScope Z31) f cdv A outer s H E) (wxE E) 0:=Z0b gu room
  unfold Y48
  exact X1 (Z0q (Z9f (Y3n rfl Fx.f_isinstance (Z3 0) (W3c rfl Fx.f_str) Fx.is_str (.ty _)) (Y0m (Z4s h.in_ (Z3 0) (Z3 1)))))
def Z9w:List Str:=["self", "word", "old", "then", "take"]
theorem Y7v:Z9w.Nodup:=by decide +kernel
theorem Y8b:FnScope Z9w ["self", "word", "old", "then", "take"] (defScope Z21):=⟨rfl,rfl,rfl,Y7v,rfl,by decide +kernel,by decide +kernel⟩
def Z7u:MS:=Z9 (Z0r (X7 (Y7 (Z8 (Y8 2 (Y9 [] (callP g_is_word))) (Z0 (Z1 1) (Z0 (m_c (.tup ((["give", "carry", "drop", "back", "right", "wrong"]:List Str).map D.str))) (Z7)))))) (Z4v) (W7)) (Z9 (Z0r (W4 (U3 (Y2 neD (Z1 2) (m_c (.str "any")))) (X7 (Y7 (Z8 (Y8 1 (Y9 [] (callP g_is_name))) (Z0 (Z1 2) (Z7)))))) (Z4v) (W7)) (Z9 (Z0r (W4 (U3 (Y2 neD (Z1 3) (m_c (.str "same")))) (X7 (Y7 (Z8 (Y8 1 (Y9 [] (callP g_is_name))) (Z0 (Z1 3) (Z7)))))) (Z4v) (W7)) (Z9 (Z0r (U2 (X7 (Y7 (Z6b (Y02 "bool") [("Row",false),("Tool",false)] (Z1 4)))) (W4 (U3 (Y2 neD (Z1 1) (m_c (.str "give")))) (X7 (Y7 (Z1 4))))) (Z4v) (W7)) (Z9 (Q4 ["Row"] "word" (Z1 0) (Z1 1)) (Z9 (Q4 ["Row"] "old" (Z1 0) (Z1 2)) (Z9 (Q4 ["Row"] "then" (Z1 0) (Z1 3)) (Q4 ["Row"] "take" (Z1 0) (Z1 4))))))))
def Z28:List X→Sto→R X:=X08 5 Z7u
include Fx in
theorem Y7z (K_is_word:Kept P HasW.w K mg base 1 (He.ga K "is_word") (spP K 2 g_is_word)) (K_is_name:Kept P HasW.w K mg base 1 (He.ga K "is_name") (spP K 1 g_is_name)) (F:FunD K "__init__" "Row.__init__" (defArgs Z21) (defBody Z21) (defScope Z21) dl [] f fd):FnG P HasW.w K mg base 2 f fd ["self", "word", "old", "then", "take"] (spE K 5 Z28):=fnE F Y8b fun cdv A outer s H E gu room=>by
  have h:Here (cxB P HasW.w K mg base Z9w "Row.__init__" (defScope Z21) f cdv A outer s H E) (wxE E) 1:=Z0b gu room
  unfold Z7u
  exact Y1 (Z2p (Z3b (Z0x (V6 (h.callP K_is_word (by decide)) rfl Fx.g_is_word K_is_word.kp (Z4 (Z3 1) (Z4 (Z9d rfl Fx.g_HAPPENINGS Fx.v_HAPPENINGS) (Y0)))))) (X1 (Z5e)) (Z0c)) (Y1 (Z2p (Y0o (Z6c (Z0y h.ne (Z3 2) (X9)) (Z5f (Z3b (Z0x (V6 (h.callP K_is_name (by decide)) rfl Fx.g_is_name K_is_name.kp (Z4 (Z3 2) (Y0)))))))) (X1 (Z5e)) (Z0c)) (Y1 (Z2p (Y0o (Z6c (Z0y h.ne (Z3 3) (X9)) (Z5f (Z3b (Z0x (V6 (h.callP K_is_name (by decide)) rfl Fx.g_is_name K_is_name.kp (Z4 (Z3 3) (Y0)))))))) (X1 (Z5e)) (Z0c)) (Y1 (Z2p (Y0o (Z7g (Z3b (Z0x (Y3n rfl Fx.f_isinstance (Z3 4) (W3c rfl Fx.f_bool) Fx.is_bool (.ty _)))) (Z5g (Y0o (Z6c (Z0y h.ne (Z3 1) (X9)) (Z5f (Z3b (Z0x (Z3 4))))))))) (X1 (Z5e)) (Z0c)) (Y1 (Z9j ["Row"] Fx.at_Row_word (Z3 0) (Z3 1)) (Y1 (Z9j ["Row"] Fx.at_Row_old (Z3 0) (Z3 2)) (Y1 (Z9j ["Row"] Fx.at_Row_then (Z3 0) (Z3 3)) (X1 (Z9j ["Row"] Fx.at_Row_take (Z3 0) (Z3 4)))))))))
def Z9x:List Str:=["cls", "text", "words", "take", "error"]
theorem Z5h:Z9x.Nodup:=by decide +kernel
theorem Y8c:FnScope Z9x ["cls", "text"] (defScope Z22):=⟨rfl,rfl,rfl,Z5h,rfl,by decide +kernel,by decide +kernel⟩
def Z90:MS:=Z9 (X2 2 (Z2s Z17 (Z1 1) (m_c (.str " ")))) (Z9 (X2 3 (m_c (.bl true))) (Z9 (Z0r (W4 (U3 (Y2 eqD (V5 (Z1 2) (m_c (.int 0))) (m_c (.str "give")))) (W4 (U3 (Y2 eqD (Z8 Z1d (Z0 (Z1 2) (Z7))) (m_c (.int 5)))) (U3 (Y2 inD (V5 (Z1 2) (m_c (.int 2))) (m_c (.tup ((["keep", "take"]:List Str).map D.str))))))) (Z9 (X2 3 (Y2 eqD (V5 (Z1 2) (m_c (.int 2))) (m_c (.str "take")))) (X2 2 (V3 (W9 (Y6 (Z1 2) (Z1e) (X4 (m_c (.int 2)))) (W9 (Y6 (Z1 2) (X4 (m_c (.int 3))) (Z1e)) (Z7)))))) (Z0r (U3 (Y2 eqD (V5 (Z1 2) (m_c (.int 0))) (m_c (.str "give")))) (Z4v) (W7))) (Z9 (Z0r (U2 (U3 (Y2 neD (Z8 Z1d (Z0 (Z1 2) (Z7))) (m_c (.int 4)))) (U3 (Y2 neD (V5 (Z1 2) (m_c (.int 2))) (m_c (.str "to"))))) (Z4v) (W7)) (X5g (X3 (Z7c 0 "Row" (Y8 4 (Y9 [] (made "Row" mkF Z28))) (Z0 (V5 (Z1 2) (m_c (.int 0))) (Z0 (V5 (Z1 2) (m_c (.int 1))) (Z0 (V5 (Z1 2) (m_c (.int 3))) (Z0 (Z1 3) (Z7)))))))))))
def Z3w:List D→PR:=Z6e 5 Z90
include Fx in
theorem Y70 (K_Row_init:Kept P HasW.w K mg base 2 (He.ma K (He.ga K "Row") "__init__") (spE K 5 Z28)) (F:FunD K "read" "Row.read" (defArgs Z22) (defBody Z22) (defScope Z22) dl [] f fd):FnG P HasW.w K mg base 4 f fd ["cls", "text"] (spP K 2 Z3w):=fnP F Y8c fun cdv A outer s H E gu room=>by
  have h:Here (cxB P HasW.w K mg base Z9x "Row.read" (defScope Z22) f cdv A outer s H E) (wxE E) 3:=Z0b gu room
  unfold Z90
  exact Y1 (Q5 (i:=2) Z5h rfl (by first | exact Or.inl rfl | exact Or.inr rfl) (Z9h (Z3 1) (X9))) (Y1 (Q5 (i:=3) Z5h rfl (by first | exact Or.inl rfl | exact Or.inr rfl) (Z8a)) (Y1 (Z2p (Y0o (Z6c (Z0y h.eq (U8 (Z3 2) (X0)) (X9)) (Z6c (Z0y h.eq (Z1u Z78 Z77 rfl Fx.f_len (Z4 (Z3 2) (Y0))) (X0)) (Z5f (Z0y h.in_ (U8 (Z3 2) (X0)) (Z9d rfl Fx.g_TAKINGS Fx.v_TAKINGS)))))) (Y1 (Q5 (i:=3) Z5h rfl (by first | exact Or.inl rfl | exact Or.inr rfl) (Z4s h.eq (U8 (Z3 2) (X0)) (X9))) (X1 (Q5 (i:=2) Z5h rfl (by first | exact Or.inl rfl | exact Or.inr rfl) (Z2y (Z6q (Z1k (Z3 2) (Z2o) (Z18 (X0))) (Z6q (Z1k (Z3 2) (Z18 (X0)) (Z2o)) (Y0))))))) (X1 (Z2p (Z0y h.eq (U8 (Z3 2) (X0)) (X9)) (X1 (Z5e)) (Z0c)))) (Y1 (Z2p (Y0o (Z7g (Z0y h.ne (Z1u Z78 Z77 rfl Fx.f_len (Z4 (Z3 2) (Y0))) (X0)) (Z5g (Z0y h.ne (U8 (Z3 2) (X0)) (X9))))) (X1 (Z5e)) (Z0c)) (X1 (X8u (X1 (Z0q (Y9r 0 ((h.nox).make X6p (n:=4) Fx.M_Row K_Row_init (by decide)) Fx.M_Row.kp (Z4 (U8 (Z3 2) (X0)) (Z4 (U8 (Z3 2) (X0)) (Z4 (U8 (Z3 2) (X0)) (Z4 (Z3 3) (Y0)))))))))))))
def Z6k:List Str:=["value"]
theorem Y22:Z6k.Nodup:=by decide +kernel
theorem Y26:FnScope Z6k ["value"] (defScope Z1p):=⟨rfl,rfl,rfl,Y22,rfl,by decide +kernel,by decide +kernel⟩
def Z88:MS:=X3 (Z6b (X43 ["list", "tuple"]) [("Row",false),("Tool",false)] (Z1 0))
def g_is_sequence:List D→PR:=Z6e 1 Z88
include Fx in
theorem Y24  (F:FunD K "is_sequence" "is_sequence" (defArgs Z1p) (defBody Z1p) (defScope Z1p) dl [] f fd):FnG P HasW.w K mg base 1 f fd ["value"] (spP K 1 g_is_sequence):=fnP F Y26 fun cdv A outer s H E gu room=>by
  have h:Here (cxB P HasW.w K mg base Z6k "is_sequence" (defScope Z1p) f cdv A outer s H E) (wxE E) 0:=Z0b gu room
  unfold Z88
  exact X1 (Z0q (W00 rfl Fx.f_isinstance (Z3 0) (W3c rfl Fx.f_list) (W3c rfl Fx.f_tuple) Fx.iss_list_tuple (.ty _) (.ty _)))
def Z63:List Str:=["values"]
theorem Y4t:Z63.Nodup:=by decide +kernel
theorem Y40:FnScope Z63 ["values"] (defScope Z1w):=⟨rfl,rfl,rfl,Y4t,rfl,by decide +kernel,by decide +kernel⟩
def Z65:MS:=X3 (Y2 eqD (Y4o (Z1 0)) (Z8 Z1d (Z0 (Z1 0) (Z7))))
def g_are_unlike:List D→PR:=Z6e 1 Z65
include Fx in
theorem Y4v  (F:FunD K "are_unlike" "are_unlike" (defArgs Z1w) (defBody Z1w) (defScope Z1w) dl [] f fd):FnG P HasW.w K mg base 1 f fd ["values"] (spP K 1 g_are_unlike):=fnP F Y40 fun cdv A outer s H E gu room=>by
  have h:Here (cxB P HasW.w K mg base Z63 "are_unlike" (defScope Z1w) f cdv A outer s H E) (wxE E) 0:=Z0b gu room
  unfold Z65
  exact X1 (Z0q (Z4s h.eq (X3d rfl rfl Fx.f_len rfl Fx.f_set (Z3 0)) (Z1u Z78 Z77 rfl Fx.f_len (Z4 (Z3 0) (Y0)))))
def Z6j:List Str:=["value", "one"]
theorem Z7l:Z6j.Nodup:=by decide +kernel
theorem Y6m:FnScope Z6j ["value"] (defScope Z1v):=⟨rfl,rfl,rfl,Z7l,rfl,by decide +kernel,by decide +kernel⟩
def Z8y:MS:=Z9 (Z0r (U2 (X7 (Y7 (Z8 (Y8 1 (Y9 [] (callP g_is_sequence))) (Z0 (Z1 0) (Z7))))) (X7 (Y7 (Z8 (Y3b fun l=>l.all id) (Z0 (Z14 (.nm 1) (V7 (Z1 0)) (W8) (Z8 (Y8 1 (Y9 [] (callP g_is_name))) (Z0 (Z1 1) (Z7))) [1]) (Z7)))))) (X3 (m_c (.bl false))) (W7)) (X3 (Z8 (Y8 1 (Y9 [] (callP g_are_unlike))) (Z0 (Z1 0) (Z7))))
def g_are_names:List D→PR:=Z6e 2 Z8y
include Fx in
theorem Y56 (K_is_sequence:Kept P HasW.w K mg base 1 (He.ga K "is_sequence") (spP K 1 g_is_sequence)) (K_is_name:Kept P HasW.w K mg base 1 (He.ga K "is_name") (spP K 1 g_is_name)) (K_are_unlike:Kept P HasW.w K mg base 1 (He.ga K "are_unlike") (spP K 1 g_are_unlike)) (F:FunD K "are_names" "are_names" (defArgs Z1v) (defBody Z1v) (defScope Z1v) dl [] f fd):FnG P HasW.w K mg base 2 f fd ["value"] (spP K 1 g_are_names):=fnP F Y6m fun cdv A outer s H E gu room=>by
  have h:Here (cxB P HasW.w K mg base Z6j "are_names" (defScope Z1v) f cdv A outer s H E) (wxE E) 1:=Z0b gu room
  unfold Z8y
  exact Y1 (Z2p (Y0o (Z7g (Z3b (Z0x (V6 (h.callP K_is_sequence (by decide)) rfl Fx.g_is_sequence K_is_sequence.kp (Z4 (Z3 0) (Y0))))) (Z5g (Z3b (Z0x (Z1u (cr_all rfl) Y63 rfl Fx.f_all (Z4 (Z7e (own:=[("one",1)]) (t:=(.nm 1)) rfl Z7l (Z00 (Z3 0)) (blkOk_by (N:=Z6j) (sc:=defScope Z1v) (by decide +kernel)) (by decide) (fun _ _ _ _ _=>X8 (i:=1) Z7l rfl (by first | exact Or.inl rfl | exact Or.inr rfl)) (fun _ _ _ _ _=>Z07) (fun _ _ _ _ _=>V6 ((h.blk _ _ _ _ _).callP K_is_name (by decide)) rfl Fx.g_is_name K_is_name.kp (Z4 (Z3 1) (Y0)))) (Y0)))))))) (X1 (Z0q (Z8a))) (Z0c)) (X1 (Z0q (V6 (h.callP K_are_unlike (by decide)) rfl Fx.g_are_unlike K_are_unlike.kp (Z4 (Z3 0) (Y0)))))
def Z1y:List Str:=["self", "marks", "shown", "asked", "rows", "row", "one"]
theorem Z0f:Z1y.Nodup:=by decide +kernel
theorem Y6g:FnScope Z1y ["self", "marks", "shown", "asked", "rows"] (defScope Z0g):=⟨rfl,rfl,rfl,Z0f,rfl,by decide +kernel,by decide +kernel⟩
def Z6n:MS:=Z9 (Z0r (U2 (X7 (Y7 (Z8 (Y8 1 (Y9 [] (callP g_are_names))) (Z0 (Z1 1) (Z7))))) (U3 (Y2 eqD (Z8 Z1d (Z0 (Z1 1) (Z7))) (m_c (.int 0))))) (Z4v) (W7)) (Z9 (Z0r (U2 (X7 (Y7 (Z8 (Y8 1 (Y9 [] (callP g_are_names))) (Z0 (Z1 2) (Z7))))) (X7 (Y7 (Z8 (Y3b fun l=>l.all id) (Z0 (Z14 (.nm 6) (V7 (Z1 2)) (W8) (Y2 inD (Z1 6) (Y6 (Z1 1) (X4 (m_c (.int 1))) (Z1e))) [6]) (Z7)))))) (Z4v) (W7)) (Z9 (Z0r (U2 (X7 (Y7 (Z8 (Y8 1 (Y9 [] (callP g_are_names))) (Z0 (Z1 3) (Z7))))) (X7 (Y7 (Z8 (Y3b fun l=>l.all id) (Z0 (Z14 (.nm 6) (V7 (Z1 3)) (W8) (Y2 inD (Z1 6) (Z1 1)) [6]) (Z7)))))) (Z4v) (W7)) (Z9 (Z0r (U2 (X7 (Y7 (Z8 (Y8 1 (Y9 [] (callP g_is_sequence))) (Z0 (Z1 4) (Z7))))) (X7 (Y7 (Z8 (Y3b fun l=>l.all id) (Z0 (Z14 (.nm 5) (V7 (Z1 4)) (W8) (Z6b Z5k [("Row",true),("Tool",false)] (Z1 5)) [5]) (Z7)))))) (Z4v) (W7)) (Z9 (Z0r (X7 (Y7 (Z8 (Y3b fun l=>l.all id) (Z0 (Z14 (.nm 5) (V7 (Z1 4)) (W8) (Q0 (Y2 inD (Y4 ["Row"] "old" (Z1 5)) (W1 (Z0 (m_c (.str "any")) (W9 (Z1 1) (Z7))))) (Y2 inD (Y4 ["Row"] "then" (Z1 5)) (W1 (Z0 (m_c (.str "same")) (W9 (Z1 1) (Z7)))))) [5]) (Z7))))) (Z4v) (W7)) (Z9 (Z0r (Y7 (Z8 (Y3b fun l=>l.any id) (Z0 (Z14 (.nm 5) (V7 (Z1 4)) (W8) (Q0 (Y2 neD (Y4 ["Row"] "word" (Z1 5)) (m_c (.str "give"))) (Y2 eqD (Y4 ["Row"] "old" (Z1 5)) (V5 (Z1 1) (m_c (.int 0))))) [5]) (Z7)))) (Z4v) (W7)) (Z9 (Q4 ["Tool"] "marks" (Z1 0) (Z8 Z75 (Z0 (Z1 1) (Z7)))) (Z9 (Q4 ["Tool"] "shown" (Z1 0) (Z8 Z75 (Z0 (Z14 (.nm 6) (V7 (Z1 1)) (U3 (Y2 inD (Z1 6) (Z1 2))) (Z1 6) [6]) (Z7)))) (Z9 (Q4 ["Tool"] "asked" (Z1 0) (Z8 Z75 (Z0 (Z14 (.nm 6) (V7 (Z1 1)) (U3 (Y2 inD (Z1 6) (Z1 3))) (Z1 6) [6]) (Z7)))) (Z9 (Q4 ["Tool"] "rows" (Z1 0) (Z8 Z75 (Z0 (Z1 4) (Z7)))) (Q4 ["Tool"] "blank" (Z1 0) (V5 (Z1 1) (m_c (.int 0)))))))))))))
def Z2f:List X→Sto→R X:=X08 7 Z6n
include Fx in
theorem Y50 (K_are_names:Kept P HasW.w K mg base 2 (He.ga K "are_names") (spP K 1 g_are_names)) (K_is_sequence:Kept P HasW.w K mg base 1 (He.ga K "is_sequence") (spP K 1 g_is_sequence)) (F:FunD K "__init__" "Tool.__init__" (defArgs Z0g) (defBody Z0g) (defScope Z0g) dl [] f fd):FnG P HasW.w K mg base 3 f fd ["self", "marks", "shown", "asked", "rows"] (spE K 5 Z2f):=fnE F Y6g fun cdv A outer s H E gu room=>by
  have h:Here (cxB P HasW.w K mg base Z1y "Tool.__init__" (defScope Z0g) f cdv A outer s H E) (wxE E) 2:=Z0b gu room
  unfold Z6n
  exact Y1 (Z2p (Y0o (Z7g (Z3b (Z0x (V6 (h.callP K_are_names (by decide)) rfl Fx.g_are_names K_are_names.kp (Z4 (Z3 1) (Y0))))) (Z5g (Z0y h.eq (Z1u Z78 Z77 rfl Fx.f_len (Z4 (Z3 1) (Y0))) (X0))))) (X1 (Z5e)) (Z0c)) (Y1 (Z2p (Y0o (Z7g (Z3b (Z0x (V6 (h.callP K_are_names (by decide)) rfl Fx.g_are_names K_are_names.kp (Z4 (Z3 2) (Y0))))) (Z5g (Z3b (Z0x (Z1u (cr_all rfl) Y63 rfl Fx.f_all (Z4 (Z7e (own:=[("one",6)]) (t:=(.nm 6)) rfl Z0f (Z00 (Z3 2)) (blkOk_by (N:=Z1y) (sc:=defScope Z0g) (by decide +kernel)) (by decide) (fun _ _ _ _ _=>X8 (i:=6) Z0f rfl (by first | exact Or.inl rfl | exact Or.inr rfl)) (fun _ _ _ _ _=>Z07) (fun _ _ _ _ _=>Z4s (h.blk _ _ _ _ _).in_ (Z3 6) (Z1k (Z3 1) (Z18 (X0)) (Z2o)))) (Y0)))))))) (X1 (Z5e)) (Z0c)) (Y1 (Z2p (Y0o (Z7g (Z3b (Z0x (V6 (h.callP K_are_names (by decide)) rfl Fx.g_are_names K_are_names.kp (Z4 (Z3 3) (Y0))))) (Z5g (Z3b (Z0x (Z1u (cr_all rfl) Y63 rfl Fx.f_all (Z4 (Z7e (own:=[("one",6)]) (t:=(.nm 6)) rfl Z0f (Z00 (Z3 3)) (blkOk_by (N:=Z1y) (sc:=defScope Z0g) (by decide +kernel)) (by decide) (fun _ _ _ _ _=>X8 (i:=6) Z0f rfl (by first | exact Or.inl rfl | exact Or.inr rfl)) (fun _ _ _ _ _=>Z07) (fun _ _ _ _ _=>Z4s (h.blk _ _ _ _ _).in_ (Z3 6) (Z3 1))) (Y0)))))))) (X1 (Z5e)) (Z0c)) (Y1 (Z2p (Y0o (Z7g (Z3b (Z0x (V6 (h.callP K_is_sequence (by decide)) rfl Fx.g_is_sequence K_is_sequence.kp (Z4 (Z3 4) (Y0))))) (Z5g (Z3b (Z0x (Z1u (cr_all rfl) Y63 rfl Fx.f_all (Z4 (Z7e (own:=[("row",5)]) (t:=(.nm 5)) rfl Z0f (Z00 (Z3 4)) (blkOk_by (N:=Z1y) (sc:=defScope Z0g) (by decide +kernel)) (by decide) (fun _ _ _ _ _=>X8 (i:=5) Z0f rfl (by first | exact Or.inl rfl | exact Or.inr rfl)) (fun _ _ _ _ _=>Z07) (fun _ _ _ _ _=>Y3n rfl Fx.f_isinstance (Z3 5) (W5i rfl Fx.g_Row) Fx.is_Row (.own _))) (Y0)))))))) (X1 (Z5e)) (Z0c)) (Y1 (Z2p (Z3b (Z0x (Z1u (cr_all rfl) Y63 rfl Fx.f_all (Z4 (Z7e (own:=[("row",5)]) (t:=(.nm 5)) rfl Z0f (Z00 (Z3 4)) (blkOk_by (N:=Z1y) (sc:=defScope Z0g) (by decide +kernel)) (by decide) (fun _ _ _ _ _=>X8 (i:=5) Z0f rfl (by first | exact Or.inl rfl | exact Or.inr rfl)) (fun _ _ _ _ _=>Z07) (fun _ _ _ _ _=>Z9f (Z4s (h.blk _ _ _ _ _).in_ (V9 ["Row"] Fx.at_Row_old (Z3 5)) (Z1m (Z4 (X9) (Z6q (Z3 1) (Y0))))) (Y0m (Z4s (h.blk _ _ _ _ _).in_ (V9 ["Row"] Fx.at_Row_then (Z3 5)) (Z1m (Z4 (X9) (Z6q (Z3 1) (Y0)))))))) (Y0))))) (X1 (Z5e)) (Z0c)) (Y1 (Z2p (Z0x (Z1u (cr_any rfl) W64 rfl Fx.f_any (Z4 (Z7e (own:=[("row",5)]) (t:=(.nm 5)) rfl Z0f (Z00 (Z3 4)) (blkOk_by (N:=Z1y) (sc:=defScope Z0g) (by decide +kernel)) (by decide) (fun _ _ _ _ _=>X8 (i:=5) Z0f rfl (by first | exact Or.inl rfl | exact Or.inr rfl)) (fun _ _ _ _ _=>Z07) (fun _ _ _ _ _=>Z9f (Z4s (h.blk _ _ _ _ _).ne (V9 ["Row"] Fx.at_Row_word (Z3 5)) (X9)) (Y0m (Z4s (h.blk _ _ _ _ _).eq (V9 ["Row"] Fx.at_Row_old (Z3 5)) (U8 (Z3 1) (X0)))))) (Y0)))) (X1 (Z5e)) (Z0c)) (Y1 (Z9j ["Tool"] Fx.at_Tool_marks (Z3 0) (Z2w call_tuple_of Y0u rfl Fx.f_tuple (Z4 (Z3 1) (Y0)))) (Y1 (Z9j ["Tool"] Fx.at_Tool_shown (Z3 0) (Z2w call_tuple_of Y0u rfl Fx.f_tuple (Z4 (Z7e (own:=[("one",6)]) (t:=(.nm 6)) rfl Z0f (Z00 (Z3 1)) (blkOk_by (N:=Z1y) (sc:=defScope Z0g) (by decide +kernel)) (by decide) (fun _ _ _ _ _=>X8 (i:=6) Z0f rfl (by first | exact Or.inl rfl | exact Or.inr rfl)) (fun _ _ _ _ _=>Y2d (Z0y (h.blk _ _ _ _ _).in_ (Z3 6) (Z3 2))) (fun _ _ _ _ _=>Z3 6)) (Y0)))) (Y1 (Z9j ["Tool"] Fx.at_Tool_asked (Z3 0) (Z2w call_tuple_of Y0u rfl Fx.f_tuple (Z4 (Z7e (own:=[("one",6)]) (t:=(.nm 6)) rfl Z0f (Z00 (Z3 1)) (blkOk_by (N:=Z1y) (sc:=defScope Z0g) (by decide +kernel)) (by decide) (fun _ _ _ _ _=>X8 (i:=6) Z0f rfl (by first | exact Or.inl rfl | exact Or.inr rfl)) (fun _ _ _ _ _=>Y2d (Z0y (h.blk _ _ _ _ _).in_ (Z3 6) (Z3 3))) (fun _ _ _ _ _=>Z3 6)) (Y0)))) (Y1 (Z9j ["Tool"] Fx.at_Tool_rows (Z3 0) (Z2w call_tuple_of Y0u rfl Fx.f_tuple (Z4 (Z3 4) (Y0)))) (X1 (Z9j ["Tool"] Fx.at_Tool_blank (Z3 0) (U8 (Z3 1) (X0)))))))))))))
def Z8r:List Str:=["cls", "text", "lines", "told", "at", "head", "rows", "line", "names", "error"]
theorem Z2a:Z8r.Nodup:=by decide +kernel
theorem Y6h:FnScope Z8r ["cls", "text"] (defScope Z2b):=⟨rfl,rfl,rfl,Z2a,rfl,by decide +kernel,by decide +kernel⟩
def Z8w:MS:=Z9 (Q9 2 3 (Z0 (Z2s Z17 (Z1 1) (m_c (.str "\n"))) (Z0 (V2 (Z7)) (Z7)))) (Z9 (Z1f (.tp [(.nm 4),(.nm 5)]) (Z4z (Z0 (m_c (.tup ((["marks", "shown", "asked"]:List Str).map D.str))) (Z7))) (Z9 (Z0r (U3 (Y2 geD (Z1 4) (Z8 Z1d (Z0 (Z1 2) (Z7))))) (Z4v) (W7)) (Z9 (X2 8 (Z8 (Y8 2 (Y9 [] (callP g_names_in))) (Z0 (V5 (Z1 2) (Z1 4)) (Z0 (Z1 5) (Z7))))) (Z9 (Z0r (U3 (Y2 isD (Z1 8) (m_c .non))) (Z4v) (W7)) (W0 (Z1s V8 U4 (Z1 3) (Z0 (Z1 8) (Z7)))))))) (Z9 (X2 6 (V2 (Z7))) (Z9 (Z1f (.tp [(.nm 4),(.nm 7)]) (Z4z (Z0 (Y6 (Z1 2) (X4 (Z8 Z1d (Z0 (m_c (.tup ((["marks", "shown", "asked"]:List Str).map D.str))) (Z7)))) (Z1e)) (Z7))) (X5g (W0 (Z1s V8 U4 (Z1 6) (Z0 (Z7d "Row" (Y8 2 (Y9 [] (callP Z3w))) (m_c (.gl "Row")) (Z0 (Z1 7) (Z7))) (Z7)))))) (X3 (Z7c 0 "Tool" (Y8 4 (Y9 [] (made "Tool" mkF Z2f))) (Z0 (V5 (Z1 3) (m_c (.int 0))) (Z0 (V5 (Z1 3) (m_c (.int 1))) (Z0 (V5 (Z1 3) (m_c (.int 2))) (Z0 (Z1 6) (Z7))))))))))
def Z5b:List D→PR:=Z6e 10 Z8w
include Fx in
theorem Y51 (K_names_in:Kept P HasW.w K mg base 2 (He.ga K "names_in") (spP K 2 g_names_in)) (K_Row_read:Kept P HasW.w K mg base 4 (X5q "Row" "read" K) (spP K 2 Z3w)) (K_Tool_init:Kept P HasW.w K mg base 3 (He.ma K (He.ga K "Tool") "__init__") (spE K 5 Z2f)) (F:FunD K "read" "Tool.read" (defArgs Z2b) (defBody Z2b) (defScope Z2b) dl [] f fd):FnG P HasW.w K mg base 5 f fd ["cls", "text"] (spP K 2 Z5b):=fnP F Y6h fun cdv A outer s H E gu room=>by
  have h:Here (cxB P HasW.w K mg base Z8r "Tool.read" (defScope Z2b) f cdv A outer s H E) (wxE E) 4:=Z0b gu room
  unfold Z8w
  exact Y1 (Y9s rfl Z2a (i:=2) (j:=3) rfl rfl (by decide) rfl rfl (Z4 (Z9h (Z3 1) (X9)) (Z4 (Z6r (Y0)) (Y0)))) (Y1 (Z3m Z2z rfl (Y4q rfl Fx.f_enumerate (Z4 (Z9d rfl Fx.g_HEADS Fx.v_HEADS) (Y0))) (Z6x rfl (Q6 (X8 (i:=4) Z2a rfl (by first | exact Or.inl rfl | exact Or.inr rfl)) (Q6 (X8 (i:=5) Z2a rfl (by first | exact Or.inl rfl | exact Or.inr rfl)) (Z4i)))) (Y1 (Z2p (Z0y h.ge (Z3 4) (Z1u Z78 Z77 rfl Fx.f_len (Z4 (Z3 2) (Y0)))) (X1 (Z5e)) (Z0c)) (Y1 (Q5 (i:=8) Z2a rfl (by first | exact Or.inl rfl | exact Or.inr rfl) (V6 (h.callP K_names_in (by decide)) rfl Fx.g_names_in K_names_in.kp (Z4 (U8 (Z3 2) (Z3 4)) (Z4 (Z3 5) (Y0))))) (Y1 (Z2p (Z0y h.is_ (Z3 8) (Z8k)) (X1 (Z5e)) (Z0c)) (X1 (Z4y (Y17 PySem.F.slot_list_append PySem.F.type_list_append mt_append Z37 (Z3 3) (Z4 (Z3 8) (Y0))))))))) (Y1 (Q5 (i:=6) Z2a rfl (by first | exact Or.inl rfl | exact Or.inr rfl) (Z6r (Y0))) (Y1 (Z3m Z2z rfl (Y4q rfl Fx.f_enumerate (Z4 (Z1k (Z3 2) (Z18 (Z1u Z78 Z77 rfl Fx.f_len (Z4 (Z9d rfl Fx.g_HEADS Fx.v_HEADS) (Y0)))) (Z2o)) (Y0))) (Z6x rfl (Q6 (X8 (i:=4) Z2a rfl (by first | exact Or.inl rfl | exact Or.inr rfl)) (Q6 (X8 (i:=7) Z2a rfl (by first | exact Or.inl rfl | exact Or.inr rfl)) (Z4i)))) (X1 (X8u (X1 (Z4y (Y17 PySem.F.slot_list_append PySem.F.type_list_append mt_append Z37 (Z3 6) (Z4 (W4q ((h.nox).callP K_Row_read (by decide)) Fx.cm_Row_read (X71 rfl Fx.g_Row) (Z4 (Z3 7) (Y0))) (Y0)))))))) (X1 (Z0q (Y9r 0 (h.make X6p (n:=4) Fx.M_Tool K_Tool_init (by decide)) Fx.M_Tool.kp (Z4 (U8 (Z3 3) (X0)) (Z4 (U8 (Z3 3) (X0)) (Z4 (U8 (Z3 3) (X0)) (Z4 (Z3 6) (Y0)))))))))))
def Z45:List Str:=["_law_row_here", "_law_words"]
theorem Z6y:Z45.Nodup:=by decide +kernel
theorem Y01:FnScope Z45 ["_law_row_here"] (defScope Z05):=⟨rfl,rfl,rfl,Z6y,rfl,by decide +kernel,by decide +kernel⟩
def Z47:MS:=Z9 (X2 1 (Y2 Z4e (V3 (Z0 (V5 (Z1 0) (m_c (.int 0))) (Z0 (V5 (Z1 0) (m_c (.int 1))) (Z7)))) (Z1q (U3 (Y2 neD (V5 (Z1 0) (m_c (.int 0))) (m_c (.str "give")))) (V3 (Z7)) (V3 (Z0 (Z1q (Y7 (V5 (Z1 0) (m_c (.int 3)))) (m_c (.str "take")) (m_c (.str "keep"))) (Z7)))))) (X3 (Z2s Z2q (m_c (.str " ")) (Y2 Z4e (Z1 1) (V3 (Z0 (m_c (.str "to")) (Z0 (V5 (Z1 0) (m_c (.int 2))) (Z7)))))))
def g__law_row_line:List D→PR:=Z6e 2 Z47
include Fx in
theorem Y00  (F:FunD K "_law_row_line" "_law_row_line" (defArgs Z05) (defBody Z05) (defScope Z05) dl [] f fd):FnG P HasW.w K mg base 1 f fd ["_law_row_here"] (spP K 1 g__law_row_line):=fnP F Y01 fun cdv A outer s H E gu room=>by
  have h:Here (cxB P HasW.w K mg base Z45 "_law_row_line" (defScope Z05) f cdv A outer s H E) (wxE E) 0:=Z0b gu room
  unfold Z47
  exact Y1 (Q5 (i:=1) Z6y rfl (by first | exact Or.inl rfl | exact Or.inr rfl) (Z79 h.add (Z2y (Z4 (U8 (Z3 0) (X0)) (Z4 (U8 (Z3 0) (X0)) (Y0)))) (Y0x (Z0y h.ne (U8 (Z3 0) (X0)) (X9)) (Z2y (Y0)) (Z2y (Z4 (Y0x (Z0x (U8 (Z3 0) (X0))) (X9) (X9)) (Y0)))))) (X1 (Z0q (Z98 (X9) (Z79 h.add (Z3 1) (Z2y (Z4 (X9) (Z4 (U8 (Z3 0) (X0)) (Y0))))))))
def Z15:List Str:=["_law_tool_here", "_law_found", "_law_word", "_law_some", "_law_row_here"]
theorem Z1h:Z15.Nodup:=by decide +kernel
theorem Z9s:FnScope Z15 ["_law_tool_here"] (defScope Q3):=⟨rfl,rfl,rfl,Z1h,rfl,by decide +kernel,by decide +kernel⟩
def Z4g:MS:=Z9 (X2 1 (Z14 (.tp [(.nm 2),(.nm 3)]) (Y3l (Z0 (W1 (Z0 (m_c (.str "marks")) (Z0 (m_c (.str "shown")) (Z0 (m_c (.str "asked")) (Z7))))) (Z0 (Y6 (Z1 0) (Z1e) (X4 (m_c (.int 3)))) (Z7)))) (W8) (Z2s Z2q (m_c (.str " ")) (Y2 Z4e (W1 (Z0 (Z1 2) (Z7))) (Z1 3))) [2,3])) (X3 (Y2 Z4e (Z1 1) (Z14 (.nm 4) (V7 (V5 (Z1 0) (m_c (.int 3)))) (W8) (Z8 (Y8 1 (Y9 [] (callP g__law_row_line))) (Z0 (Z1 4) (Z7))) [4])))
def g__law_tool_lines:List D→PR:=Z6e 5 Z4g
include Fx in
theorem Z9q (K__law_row_line:Kept P HasW.w K mg base 1 (He.ga K "_law_row_line") (spP K 1 g__law_row_line)) (F:FunD K "_law_tool_lines" "_law_tool_lines" (defArgs Q3) (defBody Q3) (defScope Q3) dl [] f fd):FnG P HasW.w K mg base 2 f fd ["_law_tool_here"] (spP K 1 g__law_tool_lines):=fnP F Z9s fun cdv A outer s H E gu room=>by
  have h:Here (cxB P HasW.w K mg base Z15 "_law_tool_lines" (defScope Q3) f cdv A outer s H E) (wxE E) 1:=Z0b gu room
  unfold Z4g
  exact Y1 (Z4q (i:=1) (own:=[("_law_word",2),("_law_some",3)]) (t:=(.tp [(.nm 2),(.nm 3)])) rfl Z1h rfl rfl rfl (W07 rfl Fx.f_zip (Z4 (Z1m (Z4 (X9) (Z4 (X9) (Z4 (X9) (Y0))))) (Z4 (Z1k (Z3 0) (Z2o) (Z18 (X0))) (Y0)))) (blkOk_by (N:=Z15) (sc:=defScope Q3) (by decide +kernel)) (by decide) (fun _ _ _ _ _=>Z6x rfl (Q6 (X8 (i:=2) Z1h rfl (by first | exact Or.inl rfl | exact Or.inr rfl)) (Q6 (X8 (i:=3) Z1h rfl (by first | exact Or.inl rfl | exact Or.inr rfl)) (Z4i)))) (fun _ _ _ _ _=>Z07) (fun _ _ _ _ _=>Z98 (X9) (Z79 (h.blk _ _ _ _ _).add (Z1m (Z4 (Z3 2) (Y0))) (Z3 3)))) (X1 (Z0q (Z79 h.add (Z3 1) (Z7e (own:=[("_law_row_here",4)]) (t:=(.nm 4)) rfl Z1h (Z00 (U8 (Z3 0) (X0))) (blkOk_by (N:=Z15) (sc:=defScope Q3) (by decide +kernel)) (by decide) (fun _ _ _ _ _=>X8 (i:=4) Z1h rfl (by first | exact Or.inl rfl | exact Or.inr rfl)) (fun _ _ _ _ _=>Z07) (fun _ _ _ _ _=>V6 ((h.blk _ _ _ _ _).callP K__law_row_line (by decide)) rfl Fx.g__law_row_line K__law_row_line.kp (Z4 (Z3 4) (Y0)))))))
def Z5x:List Str:=["_law_tool_here"]
theorem Y2h:Z5x.Nodup:=by decide +kernel
theorem Y2v:FnScope Z5x ["_law_tool_here"] (defScope Z1c):=⟨rfl,rfl,rfl,Y2h,rfl,by decide +kernel,by decide +kernel⟩
def Z5z:MS:=X3 (Z7d "Tool" (Y8 2 (Y9 [] (callP Z5b))) (m_c (.gl "Tool")) (Z0 (Z2s Z2q (m_c (.str "\n")) (Z8 (Y8 1 (Y9 [] (callP g__law_tool_lines))) (Z0 (Z1 0) (Z7)))) (Z7)))
def g__law_tool_of:List D→PR:=Z6e 1 Z5z
include Fx in
theorem Y2p (K_Tool_read:Kept P HasW.w K mg base 5 (X5q "Tool" "read" K) (spP K 2 Z5b)) (K__law_tool_lines:Kept P HasW.w K mg base 2 (He.ga K "_law_tool_lines") (spP K 1 g__law_tool_lines)) (F:FunD K "_law_tool_of" "_law_tool_of" (defArgs Z1c) (defBody Z1c) (defScope Z1c) dl [] f fd):FnG P HasW.w K mg base 6 f fd ["_law_tool_here"] (spP K 1 g__law_tool_of):=fnP F Y2v fun cdv A outer s H E gu room=>by
  have h:Here (cxB P HasW.w K mg base Z5x "_law_tool_of" (defScope Z1c) f cdv A outer s H E) (wxE E) 5:=Z0b gu room
  unfold Z5z
  exact X1 (Z0q (W4q (h.callP K_Tool_read (by decide)) Fx.cm_Tool_read (X71 rfl Fx.g_Tool) (Z4 (Z98 (X9) (V6 (h.callP K__law_tool_lines (by decide)) rfl Fx.g__law_tool_lines K__law_tool_lines.kp (Z4 (Z3 0) (Y0)))) (Y0))))
def Z8t:List Str:=["_law_marks", "_law_found", "_law_mark"]
theorem Z7k:Z8t.Nodup:=by decide +kernel
theorem Y6j:FnScope Z8t ["_law_marks"] (defScope Z2d):=⟨rfl,rfl,rfl,Z7k,rfl,by decide +kernel,by decide +kernel⟩
def Z8x:MS:=Z9 (X2 1 (V2 (Z7))) (Z9 (Z1f (.nm 2) (V7 (Z1 0)) (Z0r (U3 (Y2 X32 (Z1 2) (Z1 1))) (W0 (Z1s V8 U4 (Z1 1) (Z0 (Z1 2) (Z7)))) (W7))) (X3 (Z8 Z75 (Z0 (Z1 1) (Z7)))))
def g__law_once:List D→PR:=Z6e 3 Z8x
include Fx in
theorem Y53  (F:FunD K "_law_once" "_law_once" (defArgs Z2d) (defBody Z2d) (defScope Z2d) dl [] f fd):FnG P HasW.w K mg base 1 f fd ["_law_marks"] (spP K 1 g__law_once):=fnP F Y6j fun cdv A outer s H E gu room=>by
  have h:Here (cxB P HasW.w K mg base Z8t "_law_once" (defScope Z2d) f cdv A outer s H E) (wxE E) 0:=Z0b gu room
  unfold Z8x
  exact Y1 (Q5 (i:=1) Z7k rfl (by first | exact Or.inl rfl | exact Or.inr rfl) (Z6r (Y0))) (Y1 (Z3m Z2z rfl (Z00 (Z3 0)) (X8 (i:=2) Z7k rfl (by first | exact Or.inl rfl | exact Or.inr rfl)) (X1 (Z2p (Z0y h.nin (Z3 2) (Z3 1)) (X1 (Z4y (Y17 PySem.F.slot_list_append PySem.F.type_list_append mt_append Z37 (Z3 1) (Z4 (Z3 2) (Y0))))) (Z0c)))) (X1 (Z0q (Z2w call_tuple_of Y0u rfl Fx.f_tuple (Z4 (Z3 1) (Y0))))))
def Y1i:List Str:=["tool", "mark"]
theorem X0u:Y1i.Nodup:=by decide +kernel
theorem X1f:FnScope Y1i ["tool", "mark"] (defScope Z33):=⟨rfl,rfl,rfl,X0u,rfl,by decide +kernel,by decide +kernel⟩
def Y1o:MS:=V4 (Z0 (Y2 eqD (Z1 1) (Y4 ["Tool"] "blank" (Z1 0))) (Z0 (Y2 inD (Z1 1) (Y4 ["Tool"] "shown" (Z1 0))) (Z0 (Y2 inD (Z1 1) (Y4 ["Tool"] "asked" (Z1 0))) (Z7))))
def g_told_of:List D→PR:=Z6e 2 Y1o
include Fx in
theorem X00  (F:FunD K "told_of" "told_of" (defArgs Z33) (defBody Z33) (defScope Z33) dl [] f fd):FnG P HasW.w K mg base 1 f fd ["tool", "mark"] (spP K 2 g_told_of):=fnP F X1f fun cdv A outer s H E gu room=>by
  have h:Here (cxB P HasW.w K mg base Y1i "told_of" (defScope Z33) f cdv A outer s H E) (wxE E) 0:=Z0b gu room
  unfold Y1o
  exact X1 (Z7f (Z4 (Z4s h.eq (Z3 1) (V9 ["Tool"] Fx.at_Tool_blank (Z3 0))) (Z4 (Z4s h.in_ (Z3 1) (V9 ["Tool"] Fx.at_Tool_shown (Z3 0))) (Z4 (Z4s h.in_ (Z3 1) (V9 ["Tool"] Fx.at_Tool_asked (Z3 0))) (Y0)))))
def Z9v:List Str:=["self", "word", "mark"]
theorem Y7u:Z9v.Nodup:=by decide +kernel
theorem Y8a:FnScope Z9v ["self", "word", "mark"] (defScope Z20):=⟨rfl,rfl,rfl,Y7u,rfl,by decide +kernel,by decide +kernel⟩
def Z9z:MS:=X3 (Q0 (Y2 eqD (Y4 ["Row"] "word" (Z1 0)) (Z1 1)) (Y2 inD (Y4 ["Row"] "old" (Z1 0)) (W1 (Z0 (m_c (.str "any")) (Z0 (Z1 2) (Z7))))))
def Z4h:List D→PR:=Z6e 3 Z9z
include Fx in
theorem Y7y  (F:FunD K "fits" "Row.fits" (defArgs Z20) (defBody Z20) (defScope Z20) dl [] f fd):FnG P HasW.w K mg base 1 f fd ["self", "word", "mark"] (spP K 3 Z4h):=fnP F Y8a fun cdv A outer s H E gu room=>by
  have h:Here (cxB P HasW.w K mg base Z9v "Row.fits" (defScope Z20) f cdv A outer s H E) (wxE E) 0:=Z0b gu room
  unfold Z9z
  exact X1 (Z0q (Z9f (Z4s h.eq (V9 ["Row"] Fx.at_Row_word (Z3 0)) (Z3 1)) (Y0m (Z4s h.in_ (V9 ["Row"] Fx.at_Row_old (Z3 0)) (Z1m (Z4 (X9) (Z4 (Z3 2) (Y0))))))))
def Z5v:List Str:=["self", "word", "mark", "at", "row"]
theorem Z5i:Z5v.Nodup:=by decide +kernel
theorem Y2s:FnScope Z5v ["self", "word", "mark"] (defScope Z1a):=⟨rfl,rfl,rfl,Z5i,rfl,by decide +kernel,by decide +kernel⟩
def Z5y:MS:=Z9 (Z0r (W4 (U3 (Y2 eqD (Z1 2) (Y4 ["Tool"] "blank" (Z1 0)))) (U3 (Y2 neD (Z1 1) (m_c (.str "give"))))) (X3 (m_c .non)) (W7)) (Z9 (Z1f (.tp [(.nm 3),(.nm 4)]) (Z4z (Z0 (Y4 ["Tool"] "rows" (Z1 0)) (Z7))) (Z0r (Y7 (Z3l "Row" "fits" (Y8 3 (Y9 [] (callP Z4h))) (Z1 4) (Z0 (Z1 1) (Z0 (Z1 2) (Z7))))) (X3 (Z1 3)) (W7))) (X3 (m_c .non)))
def Z2k:List D→PR:=Z6e 5 Z5y
include Fx in
theorem Y2m (K_Row_fits:Kept P HasW.w K mg base 1 (He.ma K (He.ga K "Row") "fits") (spP K 3 Z4h)) (F:FunD K "row_for" "Tool.row_for" (defArgs Z1a) (defBody Z1a) (defScope Z1a) dl [] f fd):FnG P HasW.w K mg base 2 f fd ["self", "word", "mark"] (spP K 3 Z2k):=fnP F Y2s fun cdv A outer s H E gu room=>by
  have h:Here (cxB P HasW.w K mg base Z5v "Tool.row_for" (defScope Z1a) f cdv A outer s H E) (wxE E) 1:=Z0b gu room
  unfold Z5y
  exact Y1 (Z2p (Y0o (Z6c (Z0y h.eq (Z3 2) (V9 ["Tool"] Fx.at_Tool_blank (Z3 0))) (Z5f (Z0y h.ne (Z3 1) (X9))))) (X1 (Z0q (Z8k))) (Z0c)) (Y1 (Z3m Z2z rfl (Y4q rfl Fx.f_enumerate (Z4 (V9 ["Tool"] Fx.at_Tool_rows (Z3 0)) (Y0))) (Z6x rfl (Q6 (X8 (i:=3) Z5i rfl (by first | exact Or.inl rfl | exact Or.inr rfl)) (Q6 (X8 (i:=4) Z5i rfl (by first | exact Or.inl rfl | exact Or.inr rfl)) (Z4i)))) (X1 (Z2p (Z0x (Y18 (h.callP K_Row_fits (by decide)) Fx.c_Row Fx.m_Row_fits (Z3 4) (Z4 (Z3 1) (Z4 (Z3 2) (Y0))))) (X1 (Z0q (Z3 3))) (Z0c)))) (X1 (Z0q (Z8k))))
def Z5u:List Str:=["self", "word", "mark", "at", "row", "then"]
theorem Z39:Z5u.Nodup:=by decide +kernel
theorem Y2r:FnScope Z5u ["self", "word", "mark"] (defScope Z09):=⟨rfl,rfl,rfl,Z39,rfl,by decide +kernel,by decide +kernel⟩
def Z4n:MS:=Z9 (Z0r (U2 (X7 (Y7 (Z6b (Y02 "str") [("Row",false),("Tool",false)] (Z1 2)))) (U3 (Y2 X32 (Z1 2) (Y4 ["Tool"] "marks" (Z1 0))))) (Z4v) (W7)) (Z9 (X2 3 (Z3l "Tool" "row_for" (Y8 3 (Y9 [] (callP Z2k))) (Z1 0) (Z0 (Z1 1) (Z0 (Z1 2) (Z7))))) (Z9 (Z0r (U3 (Y2 isD (Z1 3) (m_c .non))) (V4 (Z0 (Z1q (U3 (Y2 eqD (Z1 1) (m_c (.str "carry")))) (Y4 ["Tool"] "blank" (Z1 0)) (Z1 2)) (Z0 (m_c (.bl false)) (Z7)))) (W7)) (Z9 (X2 4 (V5 (Y4 ["Tool"] "rows" (Z1 0)) (Z1 3))) (Z9 (Z0r (W4 (U3 (Y2 eqD (Z1 2) (Y4 ["Tool"] "blank" (Z1 0)))) (X7 (Y7 (Y4 ["Row"] "take" (Z1 4))))) (V4 (Z0 (Z1 2) (Z0 (m_c (.bl false)) (Z7)))) (W7)) (Z9 (X2 5 (Z1q (U3 (Y2 eqD (Y4 ["Row"] "then" (Z1 4)) (m_c (.str "same")))) (Z1 2) (Y4 ["Row"] "then" (Z1 4)))) (V4 (Z0 (Z1 5) (Z0 (Q0 (Y2 eqD (Z1 1) (m_c (.str "give"))) (Q0 (Y4 ["Row"] "take" (Z1 4)) (Y2 neD (Z1 5) (Y4 ["Tool"] "blank" (Z1 0))))) (Z7)))))))))
def U7:List D→PR:=Z6e 6 Z4n
include Fx in
theorem Y2l (K_Tool_row_for:Kept P HasW.w K mg base 2 (He.ma K (He.ga K "Tool") "row_for") (spP K 3 Z2k)) (F:FunD K "becomes" "Tool.becomes" (defArgs Z09) (defBody Z09) (defScope Z09) dl [] f fd):FnG P HasW.w K mg base 3 f fd ["self", "word", "mark"] (spP K 3 U7):=fnP F Y2r fun cdv A outer s H E gu room=>by
  have h:Here (cxB P HasW.w K mg base Z5u "Tool.becomes" (defScope Z09) f cdv A outer s H E) (wxE E) 2:=Z0b gu room
  unfold Z4n
  exact Y1 (Z2p (Y0o (Z7g (Z3b (Z0x (Y3n rfl Fx.f_isinstance (Z3 2) (W3c rfl Fx.f_str) Fx.is_str (.ty _)))) (Z5g (Z0y h.nin (Z3 2) (V9 ["Tool"] Fx.at_Tool_marks (Z3 0)))))) (X1 (Z5e)) (Z0c)) (Y1 (Q5 (i:=3) Z39 rfl (by first | exact Or.inl rfl | exact Or.inr rfl) (Y18 (h.callP K_Tool_row_for (by decide)) Fx.c_Tool Fx.m_Tool_row_for (Z3 0) (Z4 (Z3 1) (Z4 (Z3 2) (Y0))))) (Y1 (Z2p (Z0y h.is_ (Z3 3) (Z8k)) (X1 (Z7f (Z4 (Y0x (Z0y h.eq (Z3 1) (X9)) (V9 ["Tool"] Fx.at_Tool_blank (Z3 0)) (Z3 2)) (Z4 (Z8a) (Y0))))) (Z0c)) (Y1 (Q5 (i:=4) Z39 rfl (by first | exact Or.inl rfl | exact Or.inr rfl) (U8 (V9 ["Tool"] Fx.at_Tool_rows (Z3 0)) (Z3 3))) (Y1 (Z2p (Y0o (Z6c (Z0y h.eq (Z3 2) (V9 ["Tool"] Fx.at_Tool_blank (Z3 0))) (Z5f (Z3b (Z0x (V9 ["Row"] Fx.at_Row_take (Z3 4))))))) (X1 (Z7f (Z4 (Z3 2) (Z4 (Z8a) (Y0))))) (Z0c)) (Y1 (Q5 (i:=5) Z39 rfl (by first | exact Or.inl rfl | exact Or.inr rfl) (Y0x (Z0y h.eq (V9 ["Row"] Fx.at_Row_then (Z3 4)) (X9)) (Z3 2) (V9 ["Row"] Fx.at_Row_then (Z3 4)))) (X1 (Z7f (Z4 (Z3 5) (Z4 (Z9f (Z4s h.eq (Z3 1) (X9)) (Z9f (V9 ["Row"] Fx.at_Row_take (Z3 4)) (Y0m (Z4s h.ne (Z3 5) (V9 ["Tool"] Fx.at_Tool_blank (Z3 0)))))) (Y0))))))))))
def Z7t:List Str:=["texts", "short", "text", "mark"]
theorem Z4j:Z7t.Nodup:=by decide +kernel
theorem Y8h:FnScope Z7t ["texts"] (defScope Z2h):=⟨rfl,rfl,rfl,Z4j,rfl,by decide +kernel,by decide +kernel⟩
def Z7x:MS:=Z9 (X2 1 (Z5d)) (Z9 (Z1f (.nm 2) (Y5q (Z1 0)) (Z42 (Z1 1) (Z1 2) (Z3r (Z1 1) (Z1 2) (Z97 (Z8 Z1d (Z0 (Z1 1) (Z7))))))) (Q1 (X0m (.tp [(.nm 3),(.nm 2)]) (Y12 (Z1 0)) (W8) (Z1 3) (Z0t (Z1 1) (Z1 2)) [3,2])))
def g_numbered:List X→Sto→R X:=X08 4 Z7x
include Fx in
theorem Y75  (F:FunD K "numbered" "numbered" (defArgs Z2h) (defBody Z2h) (defScope Z2h) dl [] f fd):FnG P HasW.w K mg base 1 f fd ["texts"] (spE K 1 g_numbered):=fnE F Y8h fun cdv A outer s H E gu room=>by
  have h:Here (cxB P HasW.w K mg base Z7t "numbered" (defScope Z2h) f cdv A outer s H E) (wxE E) 0:=Z0b gu room
  unfold Z7x
  exact Y1 (Q5 (i:=1) Z4j rfl (by first | exact Or.inl rfl | exact Or.inr rfl) (Z9g)) (Y1 (Z3m Z2z rfl (W06 (Z3 0)) (X8 (i:=2) Z4j rfl (by first | exact Or.inl rfl | exact Or.inr rfl)) (X1 (Z99 h.u1 (Z3 1) (Z3 2) (Z71 h.u1 (Z3 1) (Z3 2) (W4s (X3c (Z1u Z78 Z77 rfl Fx.f_len (Z4 (Z3 1) (Y0))))))))) (X1 (Z9k (X6i (own:=[("mark",3),("text",2)]) (t:=(.tp [(.nm 3),(.nm 2)])) rfl Z4j (X6o (Z3 0)) (blkOk_by (N:=Z7t) (sc:=defScope Z2h) (by decide +kernel)) (by decide) (fun _ _ _ _ _=>Z6x rfl (Q6 (X8 (i:=3) Z4j rfl (by first | exact Or.inl rfl | exact Or.inr rfl)) (Q6 (X8 (i:=2) Z4j rfl (by first | exact Or.inl rfl | exact Or.inr rfl)) (Z4i)))) (fun _ _ _ _ _=>Z07) (fun _ _ _ _ _=>Z3 3) (fun _ _ _ _ _=>Z2x (h.blk _ _ _ _ _).u1 (Z3 1) (Z3 2))))))
def Z54:List Str:=["tool", "known", "turn", "firsts", "mark", "later", "words", "word", "then", "took"]
theorem Z0m:Z54.Nodup:=by decide +kernel
theorem Y8f:FnScope Z54 ["tool"] (defScope Z11):=⟨rfl,rfl,rfl,Z0m,rfl,by decide +kernel,by decide +kernel⟩
def Z7w:MS:=Z9 (X2 1 (X0m (.nm 4) (V7 (Y4 ["Tool"] "marks" (Z1 0))) (W8) (Z1 4) (Z8 Z68 (Z0 (Z8 (Y8 2 (Y9 [] (callP g_told_of))) (Z0 (Z1 0) (Z0 (Z1 4) (Z7)))) (Z7))) [4])) (Z9 (Z1f (.nm 2) (Z5p (Z0 (Z8 Z1d (Z0 (Y4 ["Tool"] "marks" (Z1 0)) (Z7))) (Z7))) (Z9 (X2 5 (Z5d)) (Z9 (Z1f (.nm 4) (V7 (Y4 ["Tool"] "marks" (Z1 0))) (Z9 (X2 6 (V2 (Z0 (Z0t (Z1 1) (Z1 4)) (Z7)))) (Z9 (Z1f (.nm 7) (V7 (m_c (.tup ((["give", "carry", "drop", "back", "right", "wrong"]:List Str).map D.str)))) (Z9 (Z0d (.tp [(.nm 8),(.nm 9)]) (Z3l "Tool" "becomes" (Y8 3 (Y9 [] (callP U7))) (Z1 0) (Z0 (Z1 7) (Z0 (Z1 4) (Z7))))) (W0 (Z1s V8 U4 (Z1 6) (Z0 (X1s Str.empty [Z97 (Z0t (Z1 1) (Z1 8)),m_c (.str " "),Z97 (Z1 9)]) (Z7)))))) (Z42 (Z1 5) (Z1 4) (Z8 Z68 (Z0 (Z1 6) (Z7))))))) (X2 1 (Z8 (Y8 1 (Y9 [] g_numbered)) (Z0 (Z1 5) (Z7))))))) (Z9 (X2 3 (Z5d)) (Z9 (Z1f (.nm 4) (V7 (Y4 ["Tool"] "marks" (Z1 0))) (Z42 (Z1 3) (Z0t (Z1 1) (Z1 4)) (Z3r (Z1 3) (Z0t (Z1 1) (Z1 4)) (Z1 4)))) (X3 (X0m (.nm 4) (V7 (Y4 ["Tool"] "marks" (Z1 0))) (W8) (Z1 4) (Z0t (Z1 3) (Z0t (Z1 1) (Z1 4))) [4])))))
def g_heads_of:List D→PR:=Z6e 10 Z7w
include Fx in
theorem Y73 (K_told_of:Kept P HasW.w K mg base 1 (He.ga K "told_of") (spP K 2 g_told_of)) (K_Tool_becomes:Kept P HasW.w K mg base 3 (He.ma K (He.ga K "Tool") "becomes") (spP K 3 U7)) (K_numbered:Kept P HasW.w K mg base 1 (He.ga K "numbered") (spE K 1 g_numbered)) (F:FunD K "heads_of" "heads_of" (defArgs Z11) (defBody Z11) (defScope Z11) dl [] f fd):FnG P HasW.w K mg base 4 f fd ["tool"] (spP K 1 g_heads_of):=fnP F Y8f fun cdv A outer s H E gu room=>by
  have h:Here (cxB P HasW.w K mg base Z54 "heads_of" (defScope Z11) f cdv A outer s H E) (wxE E) 3:=Z0b gu room
  unfold Z7w
  exact Y1 (Q5 (i:=1) Z0m rfl (by first | exact Or.inl rfl | exact Or.inr rfl) (X6i (own:=[("mark",4)]) (t:=(.nm 4)) rfl Z0m (Z00 (V9 ["Tool"] Fx.at_Tool_marks (Z3 0))) (blkOk_by (N:=Z54) (sc:=defScope Z11) (by decide +kernel)) (by decide) (fun _ _ _ _ _=>X8 (i:=4) Z0m rfl (by first | exact Or.inl rfl | exact Or.inr rfl)) (fun _ _ _ _ _=>Z07) (fun _ _ _ _ _=>Z3 4) (fun _ _ _ _ _=>Z1u (X14 (h.blk _ _ _ _ _).gu (h.blk _ _ _ _ _).r0) X10 rfl Fx.f_repr (Z4 (V6 ((h.blk _ _ _ _ _).callP K_told_of (by decide)) rfl Fx.g_told_of K_told_of.kp (Z4 (Z3 0) (Z4 (Z3 4) (Y0)))) (Y0))))) (Y1 (Z3m Z2z rfl (Y2c rfl Fx.f_range (Z4 (Z1u Z78 Z77 rfl Fx.f_len (Z4 (V9 ["Tool"] Fx.at_Tool_marks (Z3 0)) (Y0))) (Y0))) (X8 (i:=2) Z0m rfl (by first | exact Or.inl rfl | exact Or.inr rfl)) (Y1 (Q5 (i:=5) Z0m rfl (by first | exact Or.inl rfl | exact Or.inr rfl) (Z9g)) (Y1 (Z3m Z2z rfl (Z00 (V9 ["Tool"] Fx.at_Tool_marks (Z3 0))) (X8 (i:=4) Z0m rfl (by first | exact Or.inl rfl | exact Or.inr rfl)) (Y1 (Q5 (i:=6) Z0m rfl (by first | exact Or.inl rfl | exact Or.inr rfl) (Z6r (Z4 (Z2x h.u1 (Z3 1) (Z3 4)) (Y0)))) (Y1 (Z3m Z2z rfl (Z00 (Z9d rfl Fx.g_HAPPENINGS Fx.v_HAPPENINGS)) (X8 (i:=7) Z0m rfl (by first | exact Or.inl rfl | exact Or.inr rfl)) (Y1 (X3l (Y18 (h.callP K_Tool_becomes (by decide)) Fx.c_Tool Fx.m_Tool_becomes (Z3 0) (Z4 (Z3 7) (Z4 (Z3 4) (Y0)))) (Z6x rfl (Q6 (X8 (i:=8) Z0m rfl (by first | exact Or.inl rfl | exact Or.inr rfl)) (Q6 (X8 (i:=9) Z0m rfl (by first | exact Or.inl rfl | exact Or.inr rfl)) (Z4i))))) (X1 (Z4y (Y17 PySem.F.slot_list_append PySem.F.type_list_append mt_append Z37 (Z3 6) (Z4 (W72 (.cons (X3c (Z2x h.u1 (Z3 1) (Z3 8))) (.cons (X9) (.cons (X3c (Z3 9)) (.nil))))) (Y0))))))) (X1 (Z99 h.u1 (Z3 5) (Z3 4) (Z1u (X14 h.gu h.r0) X10 rfl Fx.f_repr (Z4 (Z3 6) (Y0)))))))) (X1 (Q5 (i:=1) Z0m rfl (by first | exact Or.inl rfl | exact Or.inr rfl) (V6 (h.callE K_numbered (by decide)) rfl Fx.g_numbered K_numbered.kp (Z4 (Z3 5) (Y0)))))))) (Y1 (Q5 (i:=3) Z0m rfl (by first | exact Or.inl rfl | exact Or.inr rfl) (Z9g)) (Y1 (Z3m Z2z rfl (Z00 (V9 ["Tool"] Fx.at_Tool_marks (Z3 0))) (X8 (i:=4) Z0m rfl (by first | exact Or.inl rfl | exact Or.inr rfl)) (X1 (Z99 h.u1 (Z3 3) (Z2x h.u1 (Z3 1) (Z3 4)) (Z71 h.u1 (Z3 3) (Z2x h.u1 (Z3 1) (Z3 4)) (Z3 4))))) (X1 (Z0q (X6i (own:=[("mark",4)]) (t:=(.nm 4)) rfl Z0m (Z00 (V9 ["Tool"] Fx.at_Tool_marks (Z3 0))) (blkOk_by (N:=Z54) (sc:=defScope Z11) (by decide +kernel)) (by decide) (fun _ _ _ _ _=>X8 (i:=4) Z0m rfl (by first | exact Or.inl rfl | exact Or.inr rfl)) (fun _ _ _ _ _=>Z07) (fun _ _ _ _ _=>Z3 4) (fun _ _ _ _ _=>Z2x (h.blk _ _ _ _ _).u1 (Z3 3) (Z2x (h.blk _ _ _ _ _).u1 (Z3 1) (Z3 4)))))))))
def Z6l:List Str:=["marks", "mark"]
theorem Z7m:Z6l.Nodup:=by decide +kernel
theorem Y6n:FnScope Z6l ["marks"] (defScope Z1x):=⟨rfl,rfl,rfl,Z7m,rfl,by decide +kernel,by decide +kernel⟩
def Z8z:MS:=X3 (Z8 Y7f (Z0 (X0m (.nm 1) (V7 (Z1 0)) (W8) (Z1 1) (m_c (.bl true)) [1]) (Z7)))
def g_once_each:List D→PR:=Z6e 2 Z8z
include Fx in
theorem Y57  (F:FunD K "once_each" "once_each" (defArgs Z1x) (defBody Z1x) (defScope Z1x) dl [] f fd):FnG P HasW.w K mg base 1 f fd ["marks"] (spP K 1 g_once_each):=fnP F Y6n fun cdv A outer s H E gu room=>by
  have h:Here (cxB P HasW.w K mg base Z6l "once_each" (defScope Z1x) f cdv A outer s H E) (wxE E) 0:=Z0b gu room
  unfold Z8z
  exact X1 (Z0q (Z2w (call_listD rfl) X9u rfl Fx.f_list (Z4 (X6i (own:=[("mark",1)]) (t:=(.nm 1)) rfl Z7m (Z00 (Z3 0)) (blkOk_by (N:=Z6l) (sc:=defScope Z1x) (by decide +kernel)) (by decide) (fun _ _ _ _ _=>X8 (i:=1) Z7m rfl (by first | exact Or.inl rfl | exact Or.inr rfl)) (fun _ _ _ _ _=>Z07) (fun _ _ _ _ _=>Z3 1) (fun _ _ _ _ _=>Z8a)) (Y0))))
def Z87:List Str:=["tool", "heads", "rows", "row", "lines", "old", "then", "some", "mark"]
theorem Z4a:Z87.Nodup:=by decide +kernel
theorem X4k:FnScope Z87 ["tool"] (defScope Z4b):=⟨rfl,rfl,rfl,Z4a,rfl,by decide +kernel,by decide +kernel⟩
def Y38:MS:=Z9 (X2 1 (Z8 (Y8 1 (Y9 [] (callP g_heads_of))) (Z0 (Z1 0) (Z7)))) (Z9 (X2 2 (V2 (Z7))) (Z9 (Z1f (.nm 3) (V7 (Y4 ["Tool"] "rows" (Z1 0))) (Z9 (Q9 5 6 (Z0 (Z3r (Z1 1) (Y4 ["Row"] "old" (Z1 3)) (Y4 ["Row"] "old" (Z1 3))) (Z0 (Z3r (Z1 1) (Y4 ["Row"] "then" (Z1 3)) (Y4 ["Row"] "then" (Z1 3))) (Z7)))) (Z0r (U2 (U3 (Y2 eqD (Y4 ["Row"] "word" (Z1 3)) (m_c (.str "give")))) (U3 (Y2 neD (Z1 5) (Y4 ["Tool"] "blank" (Z1 0))))) (W0 (Z1s V8 U4 (Z1 2) (Z0 (Z8 (Y8 4 (Y9 [] (made "Row" mkF Z28))) (Z0 (Y4 ["Row"] "word" (Z1 3)) (Z0 (Z1 5) (Z0 (Z1 6) (Z0 (Y4 ["Row"] "take" (Z1 3)) (Z7)))))) (Z7)))) (W7)))) (Z9 (X2 4 (Z14 (.nm 7) (V7 (W1 (Z0 (Y4 ["Tool"] "marks" (Z1 0)) (Z0 (Y4 ["Tool"] "shown" (Z1 0)) (Z0 (Y4 ["Tool"] "asked" (Z1 0)) (Z7)))))) (W8) (Z8 (Y8 1 (Y9 [] (callP g_once_each))) (Z0 (Z14 (.nm 8) (V7 (Z1 7)) (W8) (Z0t (Z1 1) (Z1 8)) [8]) (Z7))) [7])) (X3 (Z8 (Y8 4 (Y9 [] (made "Tool" mkF Z2f))) (Z0 (V5 (Z1 4) (m_c (.int 0))) (Z0 (V5 (Z1 4) (m_c (.int 1))) (Z0 (V5 (Z1 4) (m_c (.int 2))) (Z0 (Z1 2) (Z7))))))))))
def g_merged:List D→PR:=Z6e 9 Y38
include Fx in
theorem X36 (K_heads_of:Kept P HasW.w K mg base 4 (He.ga K "heads_of") (spP K 1 g_heads_of)) (K_Row_init:Kept P HasW.w K mg base 2 (He.ma K (He.ga K "Row") "__init__") (spE K 5 Z28)) (K_once_each:Kept P HasW.w K mg base 1 (He.ga K "once_each") (spP K 1 g_once_each)) (K_Tool_init:Kept P HasW.w K mg base 3 (He.ma K (He.ga K "Tool") "__init__") (spE K 5 Z2f)) (F:FunD K "merged" "merged" (defArgs Z4b) (defBody Z4b) (defScope Z4b) dl [] f fd):FnG P HasW.w K mg base 5 f fd ["tool"] (spP K 1 g_merged):=fnP F X4k fun cdv A outer s H E gu room=>by
  have h:Here (cxB P HasW.w K mg base Z87 "merged" (defScope Z4b) f cdv A outer s H E) (wxE E) 4:=Z0b gu room
  unfold Y38
  exact Y1 (Q5 (i:=1) Z4a rfl (by first | exact Or.inl rfl | exact Or.inr rfl) (V6 (h.callP K_heads_of (by decide)) rfl Fx.g_heads_of K_heads_of.kp (Z4 (Z3 0) (Y0)))) (Y1 (Q5 (i:=2) Z4a rfl (by first | exact Or.inl rfl | exact Or.inr rfl) (Z6r (Y0))) (Y1 (Z3m Z2z rfl (Z00 (V9 ["Tool"] Fx.at_Tool_rows (Z3 0))) (X8 (i:=3) Z4a rfl (by first | exact Or.inl rfl | exact Or.inr rfl)) (Y1 (Y9s rfl Z4a (i:=5) (j:=6) rfl rfl (by decide) rfl rfl (Z4 (Z71 h.u1 (Z3 1) (V9 ["Row"] Fx.at_Row_old (Z3 3)) (V9 ["Row"] Fx.at_Row_old (Z3 3))) (Z4 (Z71 h.u1 (Z3 1) (V9 ["Row"] Fx.at_Row_then (Z3 3)) (V9 ["Row"] Fx.at_Row_then (Z3 3))) (Y0)))) (X1 (Z2p (Y0o (Z7g (Z0y h.eq (V9 ["Row"] Fx.at_Row_word (Z3 3)) (X9)) (Z5g (Z0y h.ne (Z3 5) (V9 ["Tool"] Fx.at_Tool_blank (Z3 0)))))) (X1 (Z4y (Y17 PySem.F.slot_list_append PySem.F.type_list_append mt_append Z37 (Z3 2) (Z4 (V6 (h.make X6p (n:=4) Fx.M_Row K_Row_init (by decide)) rfl Fx.g_Row Fx.M_Row.kp (Z4 (V9 ["Row"] Fx.at_Row_word (Z3 3)) (Z4 (Z3 5) (Z4 (Z3 6) (Z4 (V9 ["Row"] Fx.at_Row_take (Z3 3)) (Y0)))))) (Y0))))) (Z0c))))) (Y1 (Z4q (i:=4) (own:=[("some",7)]) (t:=(.nm 7)) rfl Z4a rfl rfl rfl (Z00 (Z1m (Z4 (V9 ["Tool"] Fx.at_Tool_marks (Z3 0)) (Z4 (V9 ["Tool"] Fx.at_Tool_shown (Z3 0)) (Z4 (V9 ["Tool"] Fx.at_Tool_asked (Z3 0)) (Y0)))))) (blkOk_by (N:=Z87) (sc:=defScope Z4b) (by decide +kernel)) (by decide) (fun _ _ _ _ _=>X8 (i:=7) Z4a rfl (by first | exact Or.inl rfl | exact Or.inr rfl)) (fun _ _ _ _ _=>Z07) (fun _ _ _ _ _=>V6 ((h.blk _ _ _ _ _).callP K_once_each (by decide)) rfl Fx.g_once_each K_once_each.kp (Z4 (Z7e (own:=[("mark",8)]) (t:=(.nm 8)) rfl Z4a (Z00 (Z3 7)) (blkOk_by (N:=Z87) (by rfl)) (by decide) (fun _ _ _ _ _=>X8 (i:=8) Z4a rfl (by first | exact Or.inl rfl | exact Or.inr rfl)) (fun _ _ _ _ _=>Z07) (fun _ _ _ _ _=>Z2x ((h.blk _ _ _ _ _).blk _ _ _ _ _).u1 (Z3 1) (Z3 8))) (Y0)))) (X1 (Z0q (V6 (h.make X6p (n:=4) Fx.M_Tool K_Tool_init (by decide)) rfl Fx.g_Tool Fx.M_Tool.kp (Z4 (U8 (Z3 4) (X0)) (Z4 (U8 (Z3 4) (X0)) (Z4 (U8 (Z3 4) (X0)) (Z4 (Z3 2) (Y0)))))))))))
def Y1e:List Str:=["self", "words"]
theorem Y3q:Y1e.Nodup:=by decide +kernel
theorem X1a:FnScope Y1e ["self"] (defScope Z3z):=⟨rfl,rfl,rfl,Y3q,rfl,by decide +kernel,by decide +kernel⟩
def Y1l:MS:=Z9 (X2 1 (V2 (Z0 (Y4 ["Row"] "word" (Z1 0)) (Z0 (Y4 ["Row"] "old" (Z1 0)) (Z7))))) (Z9 (Z0r (U3 (Y2 eqD (Y4 ["Row"] "word" (Z1 0)) (m_c (.str "give")))) (W0 (Z1s V8 U4 (Z1 1) (Z0 (V5 (m_c (.tup ((["keep", "take"]:List Str).map D.str))) (Z8 Z2i (Z0 (Y4 ["Row"] "take" (Z1 0)) (Z7)))) (Z7)))) (W7)) (X3 (Z2s Z2q (m_c (.str " ")) (V3 (W9 (Z1 1) (Z0 (m_c (.str "to")) (Z0 (Y4 ["Row"] "then" (Z1 0)) (Z7))))))))
def Z5a:List D→PR:=Z6e 2 Y1l
include Fx in
theorem X0v  (F:FunD K "__str__" "Row.__str__" (defArgs Z3z) (defBody Z3z) (defScope Z3z) dl [] f fd):FnG P HasW.w K mg base 1 f fd ["self"] (spP K 1 Z5a):=fnP F X1a fun cdv A outer s H E gu room=>by
  have h:Here (cxB P HasW.w K mg base Y1e "Row.__str__" (defScope Z3z) f cdv A outer s H E) (wxE E) 0:=Z0b gu room
  unfold Y1l
  exact Y1 (Q5 (i:=1) Y3q rfl (by first | exact Or.inl rfl | exact Or.inr rfl) (Z6r (Z4 (V9 ["Row"] Fx.at_Row_word (Z3 0)) (Z4 (V9 ["Row"] Fx.at_Row_old (Z3 0)) (Y0))))) (Y1 (Z2p (Z0y h.eq (V9 ["Row"] Fx.at_Row_word (Z3 0)) (X9)) (X1 (Z4y (Y17 PySem.F.slot_list_append PySem.F.type_list_append mt_append Z37 (Z3 1) (Z4 (U8 (Z9d rfl Fx.g_TAKINGS Fx.v_TAKINGS) (Z2w call_int1 Y64 rfl Fx.f_int (Z4 (V9 ["Row"] Fx.at_Row_take (Z3 0)) (Y0)))) (Y0))))) (Z0c)) (X1 (Z0q (Z98 (X9) (Z2y (Z6q (Z3 1) (Z4 (X9) (Z4 (V9 ["Row"] Fx.at_Row_then (Z3 0)) (Y0)))))))))
def Z53:List Str:=["self", "lists", "heads", "head", "names", "row"]
theorem Z3s:Z53.Nodup:=by decide +kernel
theorem Y8d:FnScope Z53 ["self"] (defScope Z10):=⟨rfl,rfl,rfl,Z3s,rfl,by decide +kernel,by decide +kernel⟩
def Z91:MS:=Z9 (X2 1 (V3 (Z0 (Y4 ["Tool"] "marks" (Z1 0)) (Z0 (Y4 ["Tool"] "shown" (Z1 0)) (Z0 (Y4 ["Tool"] "asked" (Z1 0)) (Z7)))))) (Z9 (X2 2 (Z14 (.tp [(.nm 3),(.nm 4)]) (X2z (Z0 (m_c (.tup ((["marks", "shown", "asked"]:List Str).map D.str))) (Z0 (Z1 1) (Z7)))) (W8) (Z2s Z2q (m_c (.str " ")) (V3 (Z0 (Z1 3) (W9 (Z1 4) (Z7))))) [3,4])) (X3 (Z2s Z2q (m_c (.str "\n")) (V3 (W9 (Z1 2) (W9 (Z14 (.nm 5) (V7 (Y4 ["Tool"] "rows" (Z1 0))) (W8) (Z8 (Z5c "Row" Z5a) (Z0 (Z1 5) (Z7))) [5]) (Z7)))))))
def Z1g:List D→PR:=Z6e 6 Z91
include Fx in
theorem Y71 (K_Row_str:Kept P HasW.w K mg base 1 (He.ma K (He.ga K "Row") "__str__") (spP K 1 Z5a)) (F:FunD K "__str__" "Tool.__str__" (defArgs Z10) (defBody Z10) (defScope Z10) dl [] f fd):FnG P HasW.w K mg base 4 f fd ["self"] (spP K 1 Z1g):=fnP F Y8d fun cdv A outer s H E gu room=>by
  have h:Here (cxB P HasW.w K mg base Z53 "Tool.__str__" (defScope Z10) f cdv A outer s H E) (wxE E) 3:=Z0b gu room
  unfold Z91
  exact Y1 (Q5 (i:=1) Z3s rfl (by first | exact Or.inl rfl | exact Or.inr rfl) (Z2y (Z4 (V9 ["Tool"] Fx.at_Tool_marks (Z3 0)) (Z4 (V9 ["Tool"] Fx.at_Tool_shown (Z3 0)) (Z4 (V9 ["Tool"] Fx.at_Tool_asked (Z3 0)) (Y0)))))) (Y1 (Z4q (i:=2) (own:=[("head",3),("names",4)]) (t:=(.tp [(.nm 3),(.nm 4)])) rfl Z3s rfl rfl rfl (W4y rfl Fx.f_zip (Z4 (Z9d rfl Fx.g_HEADS Fx.v_HEADS) (Z4 (Z3 1) (Y0)))) (blkOk_by (N:=Z53) (sc:=defScope Z10) (by decide +kernel)) (by decide) (fun _ _ _ _ _=>Z6x rfl (Q6 (X8 (i:=3) Z3s rfl (by first | exact Or.inl rfl | exact Or.inr rfl)) (Q6 (X8 (i:=4) Z3s rfl (by first | exact Or.inl rfl | exact Or.inr rfl)) (Z4i)))) (fun _ _ _ _ _=>Z07) (fun _ _ _ _ _=>Z98 (X9) (Z2y (Z4 (Z3 3) (Z6q (Z3 4) (Y0)))))) (X1 (Z0q (Z98 (X9) (Z2y (Z6q (Z3 2) (Z6q (Z7e (own:=[("row",5)]) (t:=(.nm 5)) rfl Z3s (Z00 (V9 ["Tool"] Fx.at_Tool_rows (Z3 0))) (blkOk_by (N:=Z53) (sc:=defScope Z10) (by decide +kernel)) (by decide) (fun _ _ _ _ _=>X8 (i:=5) Z3s rfl (by first | exact Or.inl rfl | exact Or.inr rfl)) (fun _ _ _ _ _=>Z07) (fun _ _ _ _ _=>(K_Row_str.strO Fx.str_Row (h.blk _ _ _ _ _) (by decide) rfl Fx.f_str (Z4 (Z3 5) (Y0))))) (Y0))))))))
def Y1h:List Str:=["p", "q", "begin", "ways", "waiting", "at", "one", "other", "word", "here", "there", "way", "pair"]
theorem Z2l:Y1h.Nodup:=by decide +kernel
theorem X1e:FnScope Y1h ["p", "q"] (defScope Z32):=⟨rfl,rfl,rfl,Z2l,rfl,by decide +kernel,by decide +kernel⟩
def Z89:MS:=Z9 (X2 2 (W1 (Z0 (Y4 ["Tool"] "blank" (Z1 0)) (Z0 (Y4 ["Tool"] "blank" (Z1 1)) (Z7))))) (Z9 (Z0r (U3 (Y2 neD (Z8 (Y8 2 (Y9 [] (callP g_told_of))) (Z0 (Z1 0) (Z0 (Y4 ["Tool"] "blank" (Z1 0)) (Z7)))) (Z8 (Y8 2 (Y9 [] (callP g_told_of))) (Z0 (Z1 1) (Z0 (Y4 ["Tool"] "blank" (Z1 1)) (Z7)))))) (V4 (Z7)) (W7)) (Z9 (Y3x 3 4 5 (Z0 (Y7o (Z1 2) (W1 (Z7))) (Z0 (V2 (Z0 (Z1 2) (Z7))) (Z0 (m_c (.int 0)) (Z7))))) (Z9 (Z7o (U3 (Y2 ltD (Z1 5) (Z8 Z1d (Z0 (Z1 4) (Z7))))) (Z9 (Z0d (.tp [(.nm 6),(.nm 7)]) (V5 (Z1 4) (Z1 5))) (Z9 (Y78 5 W61 (m_c (.int 1))) (Z1f (.nm 8) (V7 (m_c (.tup ((["give", "carry", "drop", "back", "right", "wrong"]:List Str).map D.str)))) (Z9 (Q9 9 10 (Z0 (Z3l "Tool" "becomes" (Y8 3 (Y9 [] (callP U7))) (Z1 0) (Z0 (Z1 8) (Z0 (Z1 6) (Z7)))) (Z0 (Z3l "Tool" "becomes" (Y8 3 (Y9 [] (callP U7))) (Z1 1) (Z0 (Z1 8) (Z0 (Z1 7) (Z7)))) (Z7)))) (Z9 (X2 11 (W1 (W9 (Y5v (Z1 3) (W1 (Z0 (Z1 6) (Z0 (Z1 7) (Z7))))) (Z0 (Z1 8) (Z7))))) (Z9 (Z0r (U2 (U3 (Y2 neD (V5 (Z1 9) (m_c (.int 1))) (V5 (Z1 10) (m_c (.int 1))))) (U3 (Y2 neD (Z8 (Y8 2 (Y9 [] (callP g_told_of))) (Z0 (Z1 0) (Z0 (V5 (Z1 9) (m_c (.int 0))) (Z7)))) (Z8 (Y8 2 (Y9 [] (callP g_told_of))) (Z0 (Z1 1) (Z0 (V5 (Z1 10) (m_c (.int 0))) (Z7))))))) (X3 (Z1 11)) (W7)) (Z9 (X2 12 (W1 (Z0 (V5 (Z1 9) (m_c (.int 0))) (Z0 (V5 (Z1 10) (m_c (.int 0))) (Z7))))) (Z0r (U3 (Y7n true (Z1 12) (Z1 3))) (Z9 (Y6c (Z1 3) (Z1 12) (Z1 11)) (W0 (Z1s V8 U4 (Z1 4) (Z0 (Z1 12) (Z7))))) (W7)))))))))) (X3 (m_c .non)))))
def g_parting:List D→PR:=Z6e 13 Z89
include Fx in
theorem X0z (K_told_of:Kept P HasW.w K mg base 1 (He.ga K "told_of") (spP K 2 g_told_of)) (K_Tool_becomes:Kept P HasW.w K mg base 3 (He.ma K (He.ga K "Tool") "becomes") (spP K 3 U7)) (F:FunD K "parting" "parting" (defArgs Z32) (defBody Z32) (defScope Z32) dl [] f fd):FnG P HasW.w K mg base 4 f fd ["p", "q"] (spP K 2 g_parting):=fnP F X1e fun cdv A outer s H E gu room=>by
  have h:Here (cxB P HasW.w K mg base Y1h "parting" (defScope Z32) f cdv A outer s H E) (wxE E) 3:=Z0b gu room
  unfold Z89
  exact Y1 (Q5 (i:=2) Z2l rfl (by first | exact Or.inl rfl | exact Or.inr rfl) (Z1m (Z4 (V9 ["Tool"] Fx.at_Tool_blank (Z3 0)) (Z4 (V9 ["Tool"] Fx.at_Tool_blank (Z3 1)) (Y0))))) (Y1 (Z2p (Z0y h.ne (V6 (h.callP K_told_of (by decide)) rfl Fx.g_told_of K_told_of.kp (Z4 (Z3 0) (Z4 (V9 ["Tool"] Fx.at_Tool_blank (Z3 0)) (Y0)))) (V6 (h.callP K_told_of (by decide)) rfl Fx.g_told_of K_told_of.kp (Z4 (Z3 1) (Z4 (V9 ["Tool"] Fx.at_Tool_blank (Z3 1)) (Y0))))) (X1 (Z7f (Y0))) (Z0c)) (Y1 (W1a rfl Z2l (i:=3) (j:=4) (l:=5) rfl rfl rfl (by decide) (by decide) (by decide) rfl rfl rfl (Z4 (X6l rfl h.u1 (Z3 2) (Z1m (Y0))) (Z4 (Z6r (Z4 (Z3 2) (Y0))) (Z4 (X0) (Y0))))) (Y1 (Y9t Z2z (Z0y h.lt (Z3 5) (Z1u Z78 Z77 rfl Fx.f_len (Z4 (Z3 4) (Y0)))) (Y1 (X3l (U8 (Z3 4) (Z3 5)) (Z6x rfl (Q6 (X8 (i:=6) Z2l rfl (by first | exact Or.inl rfl | exact Or.inr rfl)) (Q6 (X8 (i:=7) Z2l rfl (by first | exact Or.inl rfl | exact Or.inr rfl)) (Z4i))))) (Y1 (W4z (i:=5) Z2l rfl (by first | exact Or.inl rfl | exact Or.inr rfl) (X0) ip_add W5d) (X1 (Z3m Z2z rfl (Z00 (Z9d rfl Fx.g_HAPPENINGS Fx.v_HAPPENINGS)) (X8 (i:=8) Z2l rfl (by first | exact Or.inl rfl | exact Or.inr rfl)) (Y1 (Y9s rfl Z2l (i:=9) (j:=10) rfl rfl (by decide) rfl rfl (Z4 (Y18 (h.callP K_Tool_becomes (by decide)) Fx.c_Tool Fx.m_Tool_becomes (Z3 0) (Z4 (Z3 8) (Z4 (Z3 6) (Y0)))) (Z4 (Y18 (h.callP K_Tool_becomes (by decide)) Fx.c_Tool Fx.m_Tool_becomes (Z3 1) (Z4 (Z3 8) (Z4 (Z3 7) (Y0)))) (Y0)))) (Y1 (Q5 (i:=11) Z2l rfl (by first | exact Or.inl rfl | exact Or.inr rfl) (Z1m (Z6q (W02 rfl h.u1 (Z3 3) (Z1m (Z4 (Z3 6) (Z4 (Z3 7) (Y0))))) (Z4 (Z3 8) (Y0))))) (Y1 (Z2p (Y0o (Z7g (Z0y h.ne (U8 (Z3 9) (X0)) (U8 (Z3 10) (X0))) (Z5g (Z0y h.ne (V6 (h.callP K_told_of (by decide)) rfl Fx.g_told_of K_told_of.kp (Z4 (Z3 0) (Z4 (U8 (Z3 9) (X0)) (Y0)))) (V6 (h.callP K_told_of (by decide)) rfl Fx.g_told_of K_told_of.kp (Z4 (Z3 1) (Z4 (U8 (Z3 10) (X0)) (Y0)))))))) (X1 (Z0q (Z3 11))) (Z0c)) (Y1 (Q5 (i:=12) Z2l rfl (by first | exact Or.inl rfl | exact Or.inr rfl) (Z1m (Z4 (U8 (Z3 9) (X0)) (Z4 (U8 (Z3 10) (X0)) (Y0))))) (X1 (Z2p (W1c rfl h.u1 (Z3 12) (Z3 3)) (Y1 (W1b rfl h.u1 (Z3 3) (Z3 12) (Z3 11)) (X1 (Z4y (Y17 PySem.F.slot_list_append PySem.F.type_list_append mt_append Z37 (Z3 4) (Z4 (Z3 12) (Y0)))))) (Z0c)))))))))))) (X1 (Z0q (Z8k))))))
def Y6y:List Str:=["p", "q"]
theorem X6w:Y6y.Nodup:=by decide +kernel
theorem X7l:FnScope Y6y ["p", "q"] (defScope Z5t):=⟨rfl,rfl,rfl,X6w,rfl,by decide +kernel,by decide +kernel⟩
def Y62:MS:=X3 (Y2 isD (Z8 (Y8 2 (Y9 [] (callP g_parting))) (Z0 (Z1 0) (Z0 (Z1 1) (Z7)))) (m_c .non))
def g_alike:List D→PR:=Z6e 2 Y62
include Fx in
theorem X65 (K_parting:Kept P HasW.w K mg base 4 (He.ga K "parting") (spP K 2 g_parting)) (F:FunD K "alike" "alike" (defArgs Z5t) (defBody Z5t) (defScope Z5t) dl [] f fd):FnG P HasW.w K mg base 5 f fd ["p", "q"] (spP K 2 g_alike):=fnP F X7l fun cdv A outer s H E gu room=>by
  have h:Here (cxB P HasW.w K mg base Y6y "alike" (defScope Z5t) f cdv A outer s H E) (wxE E) 4:=Z0b gu room
  unfold Y62
  exact X1 (Z0q (Z4s h.is_ (V6 (h.callP K_parting (by decide)) rfl Fx.g_parting K_parting.kp (Z4 (Z3 0) (Z4 (Z3 1) (Y0)))) (Z8k)))
def Y1f:List Str:=["self", "other"]
theorem X0s:Y1f.Nodup:=by decide +kernel
theorem X1b:FnScope Y1f ["self", "other"] (defScope Z30):=⟨rfl,rfl,rfl,X0s,rfl,by decide +kernel,by decide +kernel⟩
def Y1m:MS:=X3 (Q0 (Z6b Z5k [("Row",false),("Tool",true)] (Z1 1)) (Y2 eqD (Z8 (Z5c "Tool" Z1g) (Z0 (Z1 0) (Z7))) (Z8 (Z5c "Tool" Z1g) (Z0 (Z1 1) (Z7)))))
def Z4t:List D→PR:=Z6e 2 Y1m
include Fx in
theorem X0w (K_Tool_str:Kept P HasW.w K mg base 4 (He.ma K (He.ga K "Tool") "__str__") (spP K 1 Z1g)) (F:FunD K "__eq__" "Tool.__eq__" (defArgs Z30) (defBody Z30) (defScope Z30) dl [] f fd):FnG P HasW.w K mg base 7 f fd ["self", "other"] (spP K 2 Z4t):=fnP F X1b fun cdv A outer s H E gu room=>by
  have h:Here (cxB P HasW.w K mg base Y1f "Tool.__eq__" (defScope Z30) f cdv A outer s H E) (wxE E) 6:=Z0b gu room
  unfold Y1m
  exact X1 (Z0q (Z9f (Y3n rfl Fx.f_isinstance (Z3 1) (W5i rfl Fx.g_Tool) Fx.is_Tool (.own _)) (Y0m (Z4s h.eq ((K_Tool_str.strO Fx.str_Tool h (by decide) rfl Fx.f_str (Z4 (Z3 0) (Y0)))) ((K_Tool_str.strO Fx.str_Tool h (by decide) rfl Fx.f_str (Z4 (Z3 1) (Y0))))))))
def X0c:List Str:=["_law_script", "_law_base", "_law_deal", "_law_turn", "_law_tool_here", "_law_heads_here", "_law_made", "_law_rows", "_law_lines", "_law_due", "_law_told", "_law_row_here", "_law_some", "_law_mark"]
theorem Z41:X0c.Nodup:=by decide +kernel
theorem W51:FnScope X0c ["_law_script"] (defScope Z8n):=⟨rfl,rfl,rfl,Z41,rfl,by decide +kernel,by decide +kernel⟩
def X9s:MS:=Z9 (Z1f (.nm 1) (Z5p (Z0 (Z8 (Q7 Z3h) (Z0 (m_c (.int 1)) (Z0 (Z8 (Q7 Z3i) (Z0 (m_c (.int 2)) (Z0 (Z8 Z1d (Z0 (Z1 0) (Z7))) (Z7)))) (Z7)))) (Z7))) (Z9 (X2 2 (Z8 (Y8 2 (Y9 [] g__law_source)) (Z0 (Z1 0) (Z0 (Z1 1) (Z7))))) (Z1f (.nm 3) (Z5p (Z0 (m_c (.int 4)) (Z7))) (Z9 (X2 4 (Z8 (Y8 3 (Y9 [] g__law_tool)) (Z0 (Z1 2) (Z0 (m_c (.int 5)) (Z0 (m_c (.int 8)) (Z7)))))) (Z9 (X2 4 (Z1q (U3 (Y2 gtD (Z8 (Y8 2 (Y9 [] g__law_draw)) (Z0 (Z1 2) (Z0 (m_c (.int 3)) (Z7)))) (m_c (.int 0)))) (Z8 (Y8 2 (Y9 [] g__law_doubled)) (Z0 (Z1 2) (Z0 (Z1 4) (Z7)))) (Z1 4))) (Z9 (Z0d (.tp [(.nm 5),(.nm 6)]) (W1 (Z0 (Z8 (Y8 1 (Y9 [] (callP g__law_heads))) (Z0 (Z1 4) (Z7))) (Z0 (Z8 (Y8 1 (Y9 [] (callP g__law_tool_of))) (Z0 (Z1 4) (Z7))) (Z7))))) (Z9 (X2 7 (Z14 (.nm 11) (V7 (V5 (Z1 4) (m_c (.int 3)))) (W8) (W1 (Z0 (V5 (Z1 11) (m_c (.int 0))) (Z0 (Z3r (Z1 5) (V5 (Z1 11) (m_c (.int 1))) (V5 (Z1 11) (m_c (.int 1)))) (Z0 (Z3r (Z1 5) (V5 (Z1 11) (m_c (.int 2))) (V5 (Z1 11) (m_c (.int 2)))) (Z0 (V5 (Z1 11) (m_c (.int 3))) (Z7)))))) [11])) (Z9 (X2 8 (Z14 (.nm 12) (V7 (Y6 (Z1 4) (Z1e) (X4 (m_c (.int 3))))) (W8) (Z8 (Y8 1 (Y9 [] (callP g__law_once))) (Z0 (Z14 (.nm 13) (V7 (Z1 12)) (W8) (Z0t (Z1 5) (Z1 13)) [13]) (Z7))) [12])) (Z9 (X2 9 (Z8 (Y8 1 (Y9 [] (callP g__law_tool_lines))) (Z0 (W1 (Z0 (V5 (Z1 8) (m_c (.int 0))) (Z0 (V5 (Z1 8) (m_c (.int 1))) (Z0 (V5 (Z1 8) (m_c (.int 2))) (Z0 (Z8 Z75 (Z0 (Z1 7) (Z7))) (Z7)))))) (Z7)))) (Z9 (X2 10 (Z8 (Y8 1 (Y9 [] (callP g_merged))) (Z0 (Z1 6) (Z7)))) (Z9 (Z0r (U2 (U3 (Y2 neD (Z2s Z17 (Z8 (Z5c "Tool" Z1g) (Z0 (Z1 10) (Z7))) (m_c (.str "\n"))) (Z1 9))) (U2 (X7 (Y7 (Z8 (Y8 2 (Y9 [] (callP g_alike))) (Z0 (Z1 6) (Z0 (Z1 10) (Z7)))))) (U3 (Y2 neD (Z2s Z17 (Z8 (Z5c "Tool" Z1g) (Z0 (Z1 6) (Z7))) (m_c (.str "\n"))) (Z8 (Y8 1 (Y9 [] (callP g__law_tool_lines))) (Z0 (Z1 4) (Z7))))))) (X3 (m_c (.bl false))) (W7)) (Z0r (U2 (U3 (Y2 (eqO "Tool" Z4t true) (Z8 (Y8 1 (Y9 [] (callP g_merged))) (Z0 (Z1 10) (Z7))) (Z1 10))) (U3 (Y2 (eqO "Tool" Z4t true) (Z8 (Y8 1 (Y9 [] (callP g_merged))) (Z0 (Z1 6) (Z7))) (Z1 10)))) (X3 (m_c (.bl false))) (W7))))))))))))) (X3 (m_c (.bl true)))
def g_law:List D→PR:=Z6e 14 X9s
include Fx in
theorem W5f (K__law_source:Kept P HasW.w K mg base 1 (He.ga K "_law_source") (spE K 2 g__law_source)) (K__law_tool:Kept P HasW.w K mg base 4 (He.ga K "_law_tool") (spE K 3 g__law_tool)) (K__law_draw:Kept P HasW.w K mg base 1 (He.ga K "_law_draw") (spE K 2 g__law_draw)) (K__law_doubled:Kept P HasW.w K mg base 3 (He.ga K "_law_doubled") (spE K 2 g__law_doubled)) (K__law_heads:Kept P HasW.w K mg base 2 (He.ga K "_law_heads") (spP K 1 g__law_heads)) (K__law_tool_of:Kept P HasW.w K mg base 6 (He.ga K "_law_tool_of") (spP K 1 g__law_tool_of)) (K__law_once:Kept P HasW.w K mg base 1 (He.ga K "_law_once") (spP K 1 g__law_once)) (K__law_tool_lines:Kept P HasW.w K mg base 2 (He.ga K "_law_tool_lines") (spP K 1 g__law_tool_lines)) (K_merged:Kept P HasW.w K mg base 5 (He.ga K "merged") (spP K 1 g_merged)) (K_Tool_str:Kept P HasW.w K mg base 4 (He.ma K (He.ga K "Tool") "__str__") (spP K 1 Z1g)) (K_alike:Kept P HasW.w K mg base 5 (He.ga K "alike") (spP K 2 g_alike)) (K_Tool_eq:Kept P HasW.w K mg base 7 (He.ma K (He.ga K "Tool") "__eq__") (spP K 2 Z4t)) (F:FunD K "law" "law" (defArgs Z8n) (defBody Z8n) (defScope Z8n) dl [] f fd):FnG P HasW.w K mg base 9 f fd ["_law_script"] (spP K 1 g_law):=fnP F W51 fun cdv A outer s H E gu room=>by
  have h:Here (cxB P HasW.w K mg base X0c "law" (defScope Z8n) f cdv A outer s H E) (wxE E) 8:=Z0b gu room
  unfold X9s
  exact Y1 (Z3m Z2z rfl (Y2c rfl Fx.f_range (Z4 (Z1u (call_max2 rfl) W65 rfl Fx.f_max (Z4 (X0) (Z4 (Z1u (call_min2 rfl) W66 rfl Fx.f_min (Z4 (X0) (Z4 (Z1u Z78 Z77 rfl Fx.f_len (Z4 (Z3 0) (Y0))) (Y0)))) (Y0)))) (Y0))) (X8 (i:=1) Z41 rfl (by first | exact Or.inl rfl | exact Or.inr rfl)) (Y1 (Q5 (i:=2) Z41 rfl (by first | exact Or.inl rfl | exact Or.inr rfl) (V6 (h.callE K__law_source (by decide)) rfl Fx.g__law_source K__law_source.kp (Z4 (Z3 0) (Z4 (Z3 1) (Y0))))) (X1 (Z3m Z2z rfl (Y2c rfl Fx.f_range (Z4 (X0) (Y0))) (X8 (i:=3) Z41 rfl (by first | exact Or.inl rfl | exact Or.inr rfl)) (Y1 (Q5 (i:=4) Z41 rfl (by first | exact Or.inl rfl | exact Or.inr rfl) (V6 (h.callE K__law_tool (by decide)) rfl Fx.g__law_tool K__law_tool.kp (Z4 (Z3 2) (Z4 (X0) (Z4 (X0) (Y0)))))) (Y1 (Q5 (i:=4) Z41 rfl (by first | exact Or.inl rfl | exact Or.inr rfl) (Y0x (Z0y h.gt (V6 (h.callE K__law_draw (by decide)) rfl Fx.g__law_draw K__law_draw.kp (Z4 (Z3 2) (Z4 (X0) (Y0)))) (X0)) (V6 (h.callE K__law_doubled (by decide)) rfl Fx.g__law_doubled K__law_doubled.kp (Z4 (Z3 2) (Z4 (Z3 4) (Y0)))) (Z3 4))) (Y1 (X3l (Z1m (Z4 (V6 (h.callP K__law_heads (by decide)) rfl Fx.g__law_heads K__law_heads.kp (Z4 (Z3 4) (Y0))) (Z4 (V6 (h.callP K__law_tool_of (by decide)) rfl Fx.g__law_tool_of K__law_tool_of.kp (Z4 (Z3 4) (Y0))) (Y0)))) (Z6x rfl (Q6 (X8 (i:=5) Z41 rfl (by first | exact Or.inl rfl | exact Or.inr rfl)) (Q6 (X8 (i:=6) Z41 rfl (by first | exact Or.inl rfl | exact Or.inr rfl)) (Z4i))))) (Y1 (Z4q (i:=7) (own:=[("_law_row_here",11)]) (t:=(.nm 11)) rfl Z41 rfl rfl rfl (Z00 (U8 (Z3 4) (X0))) (blkOk_by (N:=X0c) (sc:=defScope Z8n) (by decide +kernel)) (by decide) (fun _ _ _ _ _=>X8 (i:=11) Z41 rfl (by first | exact Or.inl rfl | exact Or.inr rfl)) (fun _ _ _ _ _=>Z07) (fun _ _ _ _ _=>Z1m (Z4 (U8 (Z3 11) (X0)) (Z4 (Z71 (h.blk _ _ _ _ _).u1 (Z3 5) (U8 (Z3 11) (X0)) (U8 (Z3 11) (X0))) (Z4 (Z71 (h.blk _ _ _ _ _).u1 (Z3 5) (U8 (Z3 11) (X0)) (U8 (Z3 11) (X0))) (Z4 (U8 (Z3 11) (X0)) (Y0))))))) (Y1 (Z4q (i:=8) (own:=[("_law_some",12)]) (t:=(.nm 12)) rfl Z41 rfl rfl rfl (Z00 (Z1k (Z3 4) (Z2o) (Z18 (X0)))) (blkOk_by (N:=X0c) (sc:=defScope Z8n) (by decide +kernel)) (by decide) (fun _ _ _ _ _=>X8 (i:=12) Z41 rfl (by first | exact Or.inl rfl | exact Or.inr rfl)) (fun _ _ _ _ _=>Z07) (fun _ _ _ _ _=>V6 ((h.blk _ _ _ _ _).callP K__law_once (by decide)) rfl Fx.g__law_once K__law_once.kp (Z4 (Z7e (own:=[("_law_mark",13)]) (t:=(.nm 13)) rfl Z41 (Z00 (Z3 12)) (blkOk_by (N:=X0c) (by rfl)) (by decide) (fun _ _ _ _ _=>X8 (i:=13) Z41 rfl (by first | exact Or.inl rfl | exact Or.inr rfl)) (fun _ _ _ _ _=>Z07) (fun _ _ _ _ _=>Z2x ((h.blk _ _ _ _ _).blk _ _ _ _ _).u1 (Z3 5) (Z3 13))) (Y0)))) (Y1 (Q5 (i:=9) Z41 rfl (by first | exact Or.inl rfl | exact Or.inr rfl) (V6 (h.callP K__law_tool_lines (by decide)) rfl Fx.g__law_tool_lines K__law_tool_lines.kp (Z4 (Z1m (Z4 (U8 (Z3 8) (X0)) (Z4 (U8 (Z3 8) (X0)) (Z4 (U8 (Z3 8) (X0)) (Z4 (Z2w call_tuple_of Y0u rfl Fx.f_tuple (Z4 (Z3 7) (Y0))) (Y0)))))) (Y0)))) (Y1 (Q5 (i:=10) Z41 rfl (by first | exact Or.inl rfl | exact Or.inr rfl) (V6 (h.callP K_merged (by decide)) rfl Fx.g_merged K_merged.kp (Z4 (Z3 6) (Y0)))) (Y1 (Z2p (Y0o (Z7g (Z0y h.ne (Z9h ((K_Tool_str.strO Fx.str_Tool h (by decide) rfl Fx.f_str (Z4 (Z3 10) (Y0)))) (X9)) (Z3 9)) (Z7g (Z3b (Z0x (V6 (h.callP K_alike (by decide)) rfl Fx.g_alike K_alike.kp (Z4 (Z3 6) (Z4 (Z3 10) (Y0)))))) (Z5g (Z0y h.ne (Z9h ((K_Tool_str.strO Fx.str_Tool h (by decide) rfl Fx.f_str (Z4 (Z3 6) (Y0)))) (X9)) (V6 (h.callP K__law_tool_lines (by decide)) rfl Fx.g__law_tool_lines K__law_tool_lines.kp (Z4 (Z3 4) (Y0)))))))) (X1 (Z0q (Z8a))) (Z0c)) (X1 (Z2p (Y0o (Z7g (Z0y (h.neO K_Tool_eq Fx.eq_Tool (by decide)) (V6 (h.callP K_merged (by decide)) rfl Fx.g_merged K_merged.kp (Z4 (Z3 10) (Y0))) (Z3 10)) (Z5g (Z0y (h.neO K_Tool_eq Fx.eq_Tool (by decide)) (V6 (h.callP K_merged (by decide)) rfl Fx.g_merged K_merged.kp (Z4 (Z3 6) (Y0))) (Z3 10))))) (X1 (Z0q (Z8a))) (Z0c))))))))))))))) (X1 (Z0q (Z8a)))
end
end Lw
set_option maxHeartbeats 0
namespace Lw
open PySem PySem.Spec L2 Bv
open PyProof.Rows hiding St
theorem W7j {K:PySem.W.Frag} {h:Heap} {mg:Str→Option Value} (X:K.In h) (G:h.Ns mainGlobals mg) (c:Y33 tsL dsL K):Facts K mg:=⟨
  Z1r X G (c.test 0 rfl),
  Z1r X G (c.test 1 rfl),
  Z1r X G (c.test 2 rfl),
  Z1r X G (c.test 3 rfl),
  Z1r X G (c.test 4 rfl),
  Z1r X G (c.test 5 rfl),
  Z0k X G (c.test 6 rfl),
  Z0k X G (c.test 7 rfl),
  Z0k X G (c.test 8 rfl),
  Z0k X G (c.test 9 rfl),
  Z1r X G (c.test 10 rfl),
  Z0k X G (c.test 11 rfl),
  Z1r X G (c.test 12 rfl),
  Z0k X G (c.test 13 rfl),
  Z1r X G (c.test 14 rfl),
  Z0k X G (c.test 15 rfl),
  Z1r X G (c.test 16 rfl),
  Z0k X G (c.test 17 rfl),
  c.test 18 rfl,
  Z0k X G (c.test 19 rfl),
  Z1r X G (c.test 20 rfl),
  Y9j (u:=fun K=>(.type "str")) (c.test 21 rfl),
  Z1r X G (c.test 22 rfl),
  c.test 23 rfl,
  Z0k X G (c.test 24 rfl),
  W0k X G (c.test 25 rfl),
  W27 X G (c.test 26 rfl),
  Z1r X G (c.test 27 rfl),
  Z0k X G (c.test 28 rfl),
  Z0k X G (c.test 29 rfl),
  c.test 30 rfl,
  Z0k X G (c.test 31 rfl),
  c.test 32 rfl,
  Z0k X G (c.test 33 rfl),
  Z0k X G (c.test 34 rfl),
  Y9j (u:=fun K=>(.type "bool")) (c.test 35 rfl),
  Z1r X G (c.test 36 rfl),
  Z6m (c.test 37 rfl),
  Z6m (c.test 38 rfl),
  Z6m (c.test 39 rfl),
  Z6m (c.test 40 rfl),
  X3j (c.test 41 rfl),
  Z0k X G (c.test 42 rfl),
  W3u (c.test 43 rfl),
  W0l (c.test 44 rfl),
  Z0k X G (c.test 45 rfl),
  Z1r X G (c.test 46 rfl),
  Z0k X G (c.test 47 rfl),
  Z0k X G (c.test 48 rfl),
  Y9j (u:=fun K=>(.ref (He.ga K "Row"))) (c.test 49 rfl),
  Z1r X G (c.test 50 rfl),
  Z6m (c.test 51 rfl),
  Z6m (c.test 52 rfl),
  Z6m (c.test 53 rfl),
  Z6m (c.test 54 rfl),
  Z6m (c.test 55 rfl),
  X3j (c.test 56 rfl),
  Z0k X G (c.test 57 rfl),
  Z1r X G (c.test 58 rfl),
  Z0k X G (c.test 59 rfl),
  Z0k X G (c.test 60 rfl),
  W3u (c.test 61 rfl),
  Z0k X G (c.test 62 rfl),
  Z0k X G (c.test 63 rfl),
  Z0k X G (c.test 64 rfl),
  Z1r X G (c.test 65 rfl),
  He.cls_ok (c.test 66 rfl),
  He.meth_ok (c.test 67 rfl),
  He.cls_ok (c.test 68 rfl),
  He.meth_ok (c.test 69 rfl),
  He.meth_ok (c.test 70 rfl),
  Z0k X G (c.test 71 rfl),
  Z0k X G (c.test 72 rfl),
  Z0k X G (c.test 73 rfl),
  Z0k X G (c.test 74 rfl),
  str_ok (c.test 75 rfl),
  str_ok (c.test 76 rfl),
  Z0k X G (c.test 77 rfl),
  Z0k X G (c.test 78 rfl),
  Y9j (u:=fun K=>(.ref (He.ga K "Tool"))) (c.test 79 rfl),
  W7f (c.test 80 rfl),
  Z0k X G (c.test 81 rfl)⟩
theorem all [HasW] {P:Program} {K:PySem.W.Frag} {h:Heap} {mg:Str→Option Value} {f:Addr} (X:K.In h) (G:h.Ns mainGlobals mg) (cx:X5i tsL dsL xsL K) (hP:P.main.file=PySem.Challenge.pw_wordingkept_k56_marks_that_are_one.main.file) (hT:(P.main.scope.names.lookup ("super" : Str)).isSome=false) (hf:mg "law" = some (.ref f)) :
    ∃ fd:FuncData,(∀ (s:Shared) (v:Value),BindsTo s fd ⟨[v],[]⟩ [("_law_script",v)])∧∀ base:Heap,K.In base→base.Ns mainGlobals mg→FnG P HasW.w K mg base 9 f fd ["_law_script"] (spP K 1 g_law):=by
  have c:=cx.toB
  have Fx:=W7j X G c
  have e0:=hf.symm.trans (Z0k X G (c.test 81 rfl))
  cases e0
  obtain ⟨fd_is_name,F_is_name⟩:=c.fun 0 (d:=Y5d) rfl
  obtain ⟨fd_is_sequence,F_is_sequence⟩:=c.fun 1 (d:=Z9b) rfl
  obtain ⟨fd_are_unlike,F_are_unlike⟩:=c.fun 2 (d:=Y0j) rfl
  obtain ⟨fd_is_word,F_is_word⟩:=c.fun 3 (d:=Y5e) rfl
  obtain ⟨fd_Row_fits,F_Row_fits⟩:=c.fun 4 (d:=Y3c) rfl
  obtain ⟨fd_Row_str,F_Row_str⟩:=c.fun 5 (d:=Y5b) rfl
  obtain ⟨fd_told_of,F_told_of⟩:=c.fun 6 (d:=Y5g) rfl
  obtain ⟨fd_numbered,F_numbered⟩:=c.fun 7 (d:=Y3i) rfl
  obtain ⟨fd_once_each,F_once_each⟩:=c.fun 8 (d:=Y1w) rfl
  obtain ⟨fd__law_source,F__law_source⟩:=c.fun 9 (d:=Z9a) rfl
  obtain ⟨fd__law_draw,F__law_draw⟩:=c.fun 10 (d:=Y1r) rfl
  obtain ⟨fd__law_row_line,F__law_row_line⟩:=c.fun 11 (d:=Z66) rfl
  obtain ⟨fd__law_becomes,F__law_becomes⟩:=c.fun 12 (d:=Z8f) rfl
  obtain ⟨fd__law_once,F__law_once⟩:=c.fun 13 (d:=Y1s) rfl
  obtain ⟨fd_Row_init,F_Row_init⟩:=c.fun 14 (d:=Z93) rfl
  obtain ⟨fd_are_names,F_are_names⟩:=c.fun 15 (d:=Y1v) rfl
  obtain ⟨fd_names_in,F_names_in⟩:=c.fun 16 (d:=Y3h) rfl
  obtain ⟨fd_Tool_row_for,F_Tool_row_for⟩:=c.fun 17 (d:=Z8e) rfl
  obtain ⟨fd__law_pick,F__law_pick⟩:=c.fun 18 (d:=Y1t) rfl
  obtain ⟨fd__law_tool_lines,F__law_tool_lines⟩:=c.fun 19 (d:=Z58) rfl
  obtain ⟨fd__law_heads,F__law_heads⟩:=c.fun 20 (d:=Y0i) rfl
  obtain ⟨fd_Tool_init,F_Tool_init⟩:=c.fun 21 (d:=Z80) rfl
  obtain ⟨fd_Tool_becomes,F_Tool_becomes⟩:=c.fun 22 (d:=Z8d) rfl
  obtain ⟨fd__law_row,F__law_row⟩:=c.fun 23 (d:=Y3f) rfl
  obtain ⟨fd__law_doubled,F__law_doubled⟩:=c.fun 24 (d:=Z8g) rfl
  obtain ⟨fd_Row_read,F_Row_read⟩:=c.fun 25 (d:=Y3d) rfl
  obtain ⟨fd_Tool_str,F_Tool_str⟩:=c.fun 26 (d:=Y3e) rfl
  obtain ⟨fd_parting,F_parting⟩:=c.fun 27 (d:=Y5f) rfl
  obtain ⟨fd_heads_of,F_heads_of⟩:=c.fun 28 (d:=Y3g) rfl
  obtain ⟨fd__law_tool,F__law_tool⟩:=c.fun 29 (d:=Y1u) rfl
  obtain ⟨fd_Tool_read,F_Tool_read⟩:=c.fun 30 (d:=Y1q) rfl
  obtain ⟨fd_alike,F_alike⟩:=c.fun 31 (d:=X2a) rfl
  obtain ⟨fd_merged,F_merged⟩:=c.fun 32 (d:=Y80) rfl
  obtain ⟨fd__law_tool_of,F__law_tool_of⟩:=c.fun 33 (d:=Z8h) rfl
  obtain ⟨fd_Tool_eq,F_Tool_eq⟩:=c.fun 34 (d:=Y5c) rfl
  obtain ⟨fd_law,F_law⟩:=c.fun 35 (d:=W3v) rfl
  have b0:=F_law.bindsA (ps:=["_law_script"]) fun _ _ _ _ _ _ us hl=>match us,hl with | [_],_=>rfl
  refine ⟨fd_law,fun s v=>b0 s [v] rfl,fun base _ _=>?_⟩
  have K_is_name:=Z3c F_is_name (X0x (P:=P) (base:=base) Fx  F_is_name) fun _ _ _ _ _ _ us hl=>match us,hl with | [_],_=>rfl
  have K_is_sequence:=Z3c F_is_sequence (Y24 (P:=P) (base:=base) Fx  F_is_sequence) fun _ _ _ _ _ _ us hl=>match us,hl with | [_],_=>rfl
  have K_are_unlike:=Z3c F_are_unlike (Y4v (P:=P) (base:=base) Fx  F_are_unlike) fun _ _ _ _ _ _ us hl=>match us,hl with | [_],_=>rfl
  have K_is_word:=Z3c F_is_word (X0y (P:=P) (base:=base) Fx  F_is_word) fun _ _ _ _ _ _ us hl=>match us,hl with | [_,_],_=>rfl
  have K_Row_fits:=Z3c F_Row_fits (Y7y (P:=P) (base:=base) Fx  F_Row_fits) fun _ _ _ _ _ _ us hl=>match us,hl with | [_,_,_],_=>rfl
  have K_Row_str:=Z3c F_Row_str (X0v (P:=P) (base:=base) Fx  F_Row_str) fun _ _ _ _ _ _ us hl=>match us,hl with | [_],_=>rfl
  have K_told_of:=Z3c F_told_of (X00 (P:=P) (base:=base) Fx  F_told_of) fun _ _ _ _ _ _ us hl=>match us,hl with | [_,_],_=>rfl
  have K_numbered:=Z3c F_numbered (Y75 (P:=P) (base:=base) Fx  F_numbered) fun _ _ _ _ _ _ us hl=>match us,hl with | [_],_=>rfl
  have K_once_each:=Z3c F_once_each (Y57 (P:=P) (base:=base) Fx  F_once_each) fun _ _ _ _ _ _ us hl=>match us,hl with | [_],_=>rfl
  have K__law_source:=Z3c F__law_source (Y23 (P:=P) (base:=base) Fx  F__law_source) fun _ _ _ _ _ _ us hl=>match us,hl with | [_,_],_=>rfl
  have K__law_draw:=Z3c F__law_draw (Y52 (P:=P) (base:=base) Fx  F__law_draw) fun _ _ _ _ _ _ us hl=>match us,hl with | [_,_],_=>rfl
  have K__law_row_line:=Z3c F__law_row_line (Y00 (P:=P) (base:=base) Fx  F__law_row_line) fun _ _ _ _ _ _ us hl=>match us,hl with | [_],_=>rfl
  have K__law_becomes:=Z3c F__law_becomes (Y2n (P:=P) (base:=base) Fx  F__law_becomes) fun _ _ _ _ _ _ us hl=>match us,hl with | [_,_,_],_=>rfl
  have K__law_once:=Z3c F__law_once (Y53 (P:=P) (base:=base) Fx  F__law_once) fun _ _ _ _ _ _ us hl=>match us,hl with | [_],_=>rfl
  have K_Row_init:=W4e F_Row_init (Y7z (P:=P) (base:=base) Fx K_is_word K_is_name F_Row_init) (by simp [DefB.dvs,Z93]) fun _ _ _ _ _ _ _ us its hl hi=>match us,its,hl,hi with | [_,_,_,_,_],[_],_,_=>⟨_,rfl,rfl⟩
  have K_are_names:=Z3c F_are_names (Y56 (P:=P) (base:=base) Fx K_is_sequence K_is_name K_are_unlike F_are_names) fun _ _ _ _ _ _ us hl=>match us,hl with | [_],_=>rfl
  have K_names_in:=Z3c F_names_in (Y74 (P:=P) (base:=base) Fx K_is_name F_names_in) fun _ _ _ _ _ _ us hl=>match us,hl with | [_,_],_=>rfl
  have K_Tool_row_for:=Z3c F_Tool_row_for (Y2m (P:=P) (base:=base) Fx K_Row_fits F_Tool_row_for) fun _ _ _ _ _ _ us hl=>match us,hl with | [_,_,_],_=>rfl
  have K__law_pick:=Z3c F__law_pick (Y54 (P:=P) (base:=base) Fx K__law_draw F__law_pick) fun _ _ _ _ _ _ us hl=>match us,hl with | [_,_],_=>rfl
  have K__law_tool_lines:=Z3c F__law_tool_lines (Z9q (P:=P) (base:=base) Fx K__law_row_line F__law_tool_lines) fun _ _ _ _ _ _ us hl=>match us,hl with | [_],_=>rfl
  have K__law_heads:=Z3c F__law_heads (Y4u (P:=P) (base:=base) Fx K__law_becomes F__law_heads) fun _ _ _ _ _ _ us hl=>match us,hl with | [_],_=>rfl
  have K_Tool_init:=W4e F_Tool_init (Y50 (P:=P) (base:=base) Fx K_are_names K_is_sequence F_Tool_init) (by simp [DefB.dvs,Z80]) fun _ _ _ _ _ _ _ us its hl hi=>match us,its,hl,hi with | [_,_,_,_,_],[_],_,_=>⟨_,rfl,rfl⟩
  have K_Tool_becomes:=Z3c F_Tool_becomes (Y2l (P:=P) (base:=base) Fx K_Tool_row_for F_Tool_becomes) fun _ _ _ _ _ _ us hl=>match us,hl with | [_,_,_],_=>rfl
  have K__law_row:=Z3c F__law_row (Y72 (P:=P) (base:=base) Fx K__law_pick K__law_draw F__law_row) fun _ _ _ _ _ _ us hl=>match us,hl with | [_,_],_=>rfl
  have K__law_doubled:=Z3c F__law_doubled (Y2o (P:=P) (base:=base) Fx K__law_pick F__law_doubled) fun _ _ _ _ _ _ us hl=>match us,hl with | [_,_],_=>rfl
  have K_Row_read:=Z3c F_Row_read (Y70 (P:=P) (base:=base) Fx K_Row_init F_Row_read) fun _ _ _ _ _ _ us hl=>match us,hl with | [_,_],_=>rfl
  have K_Tool_str:=Z3c F_Tool_str (Y71 (P:=P) (base:=base) Fx K_Row_str F_Tool_str) fun _ _ _ _ _ _ us hl=>match us,hl with | [_],_=>rfl
  have K_parting:=Z3c F_parting (X0z (P:=P) (base:=base) Fx K_told_of K_Tool_becomes F_parting) fun _ _ _ _ _ _ us hl=>match us,hl with | [_,_],_=>rfl
  have K_heads_of:=Z3c F_heads_of (Y73 (P:=P) (base:=base) Fx K_told_of K_Tool_becomes K_numbered F_heads_of) fun _ _ _ _ _ _ us hl=>match us,hl with | [_],_=>rfl
  have K__law_tool:=Z3c F__law_tool (Y55 (P:=P) (base:=base) Fx K__law_pick K__law_draw K__law_row F__law_tool) fun _ _ _ _ _ _ us hl=>match us,hl with | [_,_,_],_=>rfl
  have K_Tool_read:=Z3c F_Tool_read (Y51 (P:=P) (base:=base) Fx K_names_in K_Row_read K_Tool_init F_Tool_read) fun _ _ _ _ _ _ us hl=>match us,hl with | [_,_],_=>rfl
  have K_alike:=Z3c F_alike (X65 (P:=P) (base:=base) Fx K_parting F_alike) fun _ _ _ _ _ _ us hl=>match us,hl with | [_,_],_=>rfl
  have K_merged:=Z3c F_merged (X36 (P:=P) (base:=base) Fx K_heads_of K_Row_init K_once_each K_Tool_init F_merged) fun _ _ _ _ _ _ us hl=>match us,hl with | [_],_=>rfl
  have K__law_tool_of:=Z3c F__law_tool_of (Y2p (P:=P) (base:=base) Fx K_Tool_read K__law_tool_lines F__law_tool_of) fun _ _ _ _ _ _ us hl=>match us,hl with | [_],_=>rfl
  have K_Tool_eq:=Z3c F_Tool_eq (X0w (P:=P) (base:=base) Fx K_Tool_str F_Tool_eq) fun _ _ _ _ _ _ us hl=>match us,hl with | [_,_],_=>rfl
  exact W5f (P:=P) (base:=base) Fx K__law_source K__law_tool K__law_draw K__law_doubled K__law_heads K__law_tool_of K__law_once K__law_tool_lines K_merged K_Tool_str K_alike K_Tool_eq F_law
end Lw
set_option maxHeartbeats 4000000
namespace Bv
open PySem PySem.Spec L2
open PyProof.Rows hiding St
variable [HasW]
theorem Y9e {t:Tg} {body:MS} (I:Nat→Ev→Sto→Prop):∀ {xs:List X} {k:Nat} {e:Ev} {S:Sto},I k e S→(∀ i x,xs[i]?=some x→∀ e S,I (k + i) e S→∃ e1 e2 S2,t.asg S x e=some e1∧body e1 S = .go (.nx e2) S2∧I (k + i + 1) e2 S2)→∃ e2 S2,Z60 t .free body xs e S = .go (.nx e2) S2∧I (k + xs.length) e2 S2
  | [],k,e,S,h,_=>⟨e,S,by simp [Z60,Lk.ok],h⟩
  | x :: xs,k,e,S,h,step=>by
    obtain ⟨e1,e2,S2,h1,h2,h3⟩:=step 0 x rfl e S h
    obtain ⟨e3,S3,h4,h5⟩:=Y9e I (xs:=xs) (k:=k + 1) h3 fun i y hy e S hI=>by
      have:=step (i + 1) y (by simpa using hy) e S (by rw [show k + (i + 1)=k + 1 + i by omega]; exact hI)
      rw [show k + (i + 1) + 1=k + 1 + i + 1 by omega] at this
      exact this
    exact ⟨e3,S3,by simp [Z60,Lk.ok,h1,h2,h4],by rw [List.length_cons,show k + (xs.length + 1)=k + 1 + xs.length by omega]; exact h5⟩
theorem Y4y {t:Tg} {mi:MIt} {body:MS} {e:Ev} {S S1:Sto} {xs:List X} {l:Lk} (h:mi e S = .ok (xs,l) S1):Z1f t mi body e S=Z60 t l body xs e S1:=by
  unfold Z1f
  rw [h]
  rfl
theorem Z69 {ms:MG (List X)} {e:Ev} {S S1:Sto} {n:Int} (h:ms e S = .ok [.d (.int n)] S1) (hs:Y0p n=true):Z5p ms e S = .ok (Bv.upTo 0 n.toNat, .free) S1:=by
  unfold Z5p
  rw [h]
  have e1:X7i [.d (.int n)]=if Y0p n then some (Bv.upTo 0 n.toNat, .free) else none:=rfl
  show Z04 (X7i [.d (.int n)]) S1=_
  rw [e1,if_pos hs]
  rfl
theorem Z73 {n:Nat} (h:n < 1000):Y0p n=true:=by
  unfold Y0p
  simp
  omega
theorem Z1t {m1 m2:MS} {e e1:Ev} {S S1:Sto} (h:m1 e S = .go (.nx e1) S1):Z9 m1 m2 e S=m2 e1 S1:=by
  unfold Z9
  rw [h]
  rfl
theorem X4j {N:Nat} {mb:MS} {xs:List X} {S S1 T:Sto} {e:Ev} (h:mb (ev0 N xs) S = .go (.nx e) S1) (h2:cut S.length S1=some T):X08 N mb xs S = .ok (.d .non) T:=by
  unfold X08
  rw [h]
  show (match Z0h S.length S1 (X.d .non),cut S.length S1 with
    | some y,some T=>R.ok y T
    | _,_=>R.ok (X.d .non) S1)=_
  rw [h2]
  rfl
theorem X8s {C:Str} {g:List X→Sto→R X} {xs:List X} {S S1 T:Sto} {d:D} (h:g (.r S.length :: xs) (S++[.ins C []]) = .ok (.d .non) S1) (h1:frz S1 S.length=some d) (h2:cut S.length S1=some T):made C mkF g xs S = .ok (.d d) T:=by
  unfold made
  rw [h]
  show (match frz S1 S.length,cut S.length S1 with
    | some d,some T=>R.ok (X.d d) T
    | _,_ => .bad)=_
  rw [h1,h2]
theorem Z85 {N:Nat} {mb:MS} {xs:List X} {S S1 T:Sto} {x y:X} (h:mb (ev0 N xs) S = .go (.rt x) S1) (h1:Z0h S.length S1 x=some y) (h2:cut S.length S1=some T):X08 N mb xs S = .ok y T:=by
  unfold X08
  rw [h]
  show (match Z0h S.length S1 x,cut S.length S1 with
    | some y,some T=>R.ok y T
    | _,_ => .ok x S1)=_
  rw [h1,h2]
def OkS (S:Sto):Prop:=S.all (okO S.length)=true
theorem OkS.cut0 {S:Sto} (h:OkS S):cut S.length S=some S:=by
  unfold cut
  rw [List.take_length,if_pos (show S.all (okO S.length)=true from h)]
theorem Z6u {k j:Nat} (h:k ≤ j) {x:X} (a:okX k x=true):okX j x=true:=by
  cases x with
  | d _=>rfl
  | r n=>exact decide_eq_true (Nat.lt_of_lt_of_le (of_decide_eq_true a) h)
theorem Y9x {k j:Nat} (h:k ≤ j) {o:O} (a:okO k o=true):okO j o=true:=by
  cases o with
  | lst xs=>exact List.all_eq_true.mpr fun x m=>Z6u h (List.all_eq_true.mp (show xs.all (okX k)=true from a) x m)
  | dic kvs=>exact List.all_eq_true.mpr fun x m=>Z6u h (List.all_eq_true.mp (show (kvs.all fun p=>okX k p.2)=true from a) x m)
  | fdc kvs=>exact List.all_eq_true.mpr fun x m=>Z6u h (List.all_eq_true.mp (show (kvs.all fun p=>okX k p.2)=true from a) x m)
  | tdc kvs=>exact List.all_eq_true.mpr fun x m=>Z6u h (List.all_eq_true.mp (show (kvs.all fun p=>okX k p.2)=true from a) x m)
  | ndc kvs=>exact List.all_eq_true.mpr fun x m=>Z6u h (List.all_eq_true.mp (show (kvs.all fun p=>okX k p.2)=true from a) x m)
  | tfc kvs=>exact List.all_eq_true.mpr fun x m=>Z6u h (List.all_eq_true.mp (show (kvs.all fun p=>okX k p.2)=true from a) x m)
  | ins C fs=>exact List.all_eq_true.mpr fun x m=>Z6u h (List.all_eq_true.mp (show (fs.all fun p=>okX k p.2)=true from a) x m)
theorem OkS.cut {S T:Sto} (h:OkS S):Bv.cut S.length (S++T)=some S:=by
  unfold Bv.cut
  rw [List.take_left,if_pos (show S.all (okO S.length)=true from h)]
theorem OkS.set {S:Sto} (h:OkS S) {b:Nat} {o:O} (ho:okO S.length o=true):OkS (S.set b o):=by
  unfold OkS
  rw [List.length_set]
  refine List.all_eq_true.mpr fun x m=>?_
  rcases List.mem_or_eq_of_mem_set m with m | m
  · exact List.all_eq_true.mp h x m
  · rw [m]; exact ho
theorem OkS.push {S:Sto} (h:OkS S) {o:O} (ho:okO (S.length + 1) o=true):OkS (S++[o]):=by
  unfold OkS
  refine List.all_eq_true.mpr fun x m=>?_
  rw [List.length_append,List.length_singleton]
  rcases List.mem_append.mp m with m | m
  · exact Y9x (Nat.le_succ _) (List.all_eq_true.mp h x m)
  · rw [List.mem_singleton.mp m]; exact ho
theorem Y0d:OkS []:=rfl
theorem W41 {i j:Int} (h:-(2 ^ 64) < j∧j < 2 ^ 64):X3n (.int i) (.int j)=some (.int (i * j)):=by
  show (if CMul i j then some (D.int (i * j)) else none)=_
  rw [if_pos (show CMul i j from .inr h)]
theorem W77 {i j:Int} (h:-(2 ^ 64) < i∧i < 2 ^ 64):X3n (.int i) (.int j)=some (.int (i * j)):=by
  show (if CMul i j then some (D.int (i * j)) else none)=_
  rw [if_pos (show CMul i j from .inl h)]
theorem X3k {i j:Int} (h:0 < j):Y7p (.int i) (.int j)=some (.int (i % j)):=by
  show (if 0 < j then some (D.int (i % j)) else none)=_
  rw [if_pos h]
theorem X78 {i j:Int} (h:0 < j∧j < 1073741824):Y7c (.int i) (.int j)=some (.int (i / j)):=by
  show (if CDiv i j then some (D.int (i / j)) else none)=_
  rw [if_pos (show CDiv i j from h)]
theorem Z0e {i j:Int}:Z4e (.int i) (.int j)=some (.int (i + j)):=rfl
theorem Z0u {i j:Int}:W6x (.int i) (.int j)=some (.int (i - j)):=rfl
theorem Z3k {i j:Int}:gtD (.int i) (.int j)=some (.bl (decide (j < i))):=rfl
theorem Z3p {i j:Int}:ltD (.int i) (.int j)=some (.bl (decide (i < j))):=rfl
theorem Z3n {i j:Int}:geD (.int i) (.int j)=some (.bl (decide (j ≤ i))):=rfl
theorem Z3x {i j:Int}:leD (.int i) (.int j)=some (.bl (decide (i ≤ j))):=rfl
theorem Y7a {a b:Str}:PyData.eqv (.str a) (.str b)=decide (a=b):=by
  rw [Bool.eq_iff_iff]
  simp [PyData.eqv]
theorem Z2n {a b:Str}:eqD (.str a) (.str b)=some (.bl (decide (a=b))):=by
  have h:eqD (.str a) (.str b)=some (.bl (PyData.eqv (.str a) (.str b))):=rfl
  rw [h,Y7a]
theorem Z50 {a b:Str}:neD (.str a) (.str b)=some (.bl (!decide (a=b))):=by
  have h:neD (.str a) (.str b)=some (.bl (!PyData.eqv (.str a) (.str b))):=rfl
  rw [h,Y7a]
theorem Y10 {i j:Int}:eqD (.int i) (.int j)=some (.bl (decide (i=j))):=by
  have h:eqD (.int i) (.int j)=some (.bl (i == j)):=by
    show some (D.bl (PyData.eqv (.int i) (.int j)))=_
    simp [PyData.eqv]
  rw [h]
  rfl
theorem Y5 {v:D} {S:Sto}:(X.d v).get S=some v:=rfl
theorem Y1z (l:List D):ds? (l.map X.d)=some l:=by
  induction l with
  | nil=>rfl
  | cons d r ih=>simp [ds?,ih]
theorem X7x {α:Type} {l:List α} {i:Int} (h0:0 ≤ i) (h:i < l.length):∃ a,atI l i=some a∧a ∈ l:=by
  have hn:i.toNat < l.length:=by omega
  refine ⟨l[i.toNat],?_,List.getElem_mem hn⟩
  unfold atI ixN
  rw [if_pos h0,if_pos h]
  simp [hn]
theorem Y4k {α:Type} {t:Tg} {mt:MG Bool} {me:M} {e:Ev} {S:Sto} (x:α→X) (f:α→D) (c:α→Bool):∀ {l:List α},(∀ a ∈ l,∃ e1,t.asg S (x a) e=some e1∧mt e1 S = .ok (c a) S∧(c a=true→me e1 S = .ok (.d (f a)) S))→lcL t .free mt me e (l.map x) S = .ok ((l.filter c).map f) S
  | [],_=>by simp [lcL,Lk.ok]
  | a :: l,h=>by
    obtain ⟨e1,h1,h2,h3⟩:=h a (by simp)
    have ih:=Y4k (t:=t) (mt:=mt) (me:=me) (e:=e) (S:=S) x f c (l:=l) fun b hb=>h b (List.mem_cons_of_mem _ hb)
    cases hc:c a with
    | false=>simp [lcL,Lk.ok,h1,h2,hc,R.ne,R.bind,ih]
    | true=>simp [lcL,Lk.ok,h1,h2,hc,h3 hc,R.ne,R.bind,ih]
theorem Z4f {α:Type} {t:Tg} {mi:MIt} {me:M} {vs:List Nat} {e:Ev} {S:Sto} (x:α→X) (f:α→D) {l:List α} (hi:mi e S = .ok (l.map x, .free) S) (hl:l.length ≤ sizeLine) (h:∀ a ∈ l,∃ e1,t.asg S (x a) (Z0s e vs)=some e1∧me e1 S = .ok (.d (f a)) S) :
    Z14 t mi W8 me vs e S = .ok (.d (.lst (l.map f))) S:=by
  have h1:=Y4k (t:=t) (mt:=W8) (me:=me) (e:=Z0s e vs) (S:=S) x f (fun _=>true) (l:=l) fun a ha=>by
    obtain ⟨e1,q1,q2⟩:=h a ha
    exact ⟨e1,q1,rfl,fun _=>q2⟩
  have e0:l.filter (fun _=>true)=l:=List.filter_eq_self.mpr fun _ _=>rfl
  rw [e0] at h1
  unfold Z14
  rw [hi]
  show (lcL t .free W8 me (Z0s e vs) (l.map x) S).bind Y0k=_
  rw [h1]
  show Y0k (l.map f) S=_
  unfold Y0k
  rw [if_pos (by rw [List.length_map]; exact hl)]
end Bv
namespace Bv
open PySem PySem.Spec L2
open PyProof.Rows hiding St
variable [HasW]
section
variable {e e1:Ev} {S S1 S2 S3 S4:Sto} {m ma mb mc mo mi mb':M} {ms:MG (List X)} {mt mt2:MG Bool} {x y z:X} {xs ys:List X} {d d1 d2:D} {r:R X} {rb:R Bool} {ro:RO} {b c:Bool} {i:Nat}
theorem Z6 (h:e[i]?=some (some x)):Z1 i e S = .ok x S:=by
  unfold Z1
  rw [h]
theorem U0:m_c d e S = .ok (.d d) S:=rfl
theorem Y3:Z7 e S = .ok [] S:=rfl
theorem Z5 (h1:m e S = .ok x S1) (h2:ms e S1 = .ok xs S2):Z0 m ms e S = .ok (x :: xs) S2:=by
  unfold Z0
  rw [h1]
  show (ms e S1).bind _=_
  rw [h2]
  rfl
theorem X99 (h1:m e S = .ok x S1) (hi:items S1 x=some ys) (h2:ms e S1 = .ok xs S2):W9 m ms e S = .ok (ys++xs) S2:=by
  unfold W9
  rw [h1]
  show (match items S1 x with
    | some ys=>(ms e S1).bind fun xs S2=>R.ok (ys++xs) S2
    | none => .bad)=_
  rw [hi]
  show (ms e S1).bind _=_
  rw [h2]
  rfl
theorem W2 {f:D→D→Option D} (h1:ma e S = .ok x S1) (h2:mb e S1 = .ok y S2) (h3:x.get S2=some d1) (h4:y.get S2=some d2) (h:f d1 d2=some d):Y2 f ma mb e S = .ok (.d d) S2:=by
  unfold Y2
  rw [h1]
  show (mb e S1).bind _=_
  rw [h2]
  show op2 f S2 x y=_
  unfold op2
  rw [h3,h4]
  show (match f d1 d2 with
    | some d=>R.ok (X.d d) S2
    | none => .bad)=_
  rw [h]
theorem X5 {g:List X→Sto→R X} (h1:ms e S = .ok xs S1) (h:g xs S1=r):Z8 g ms e S=r:=by
  unfold Z8
  rw [h1]
  exact h
theorem Q8 {n:Nat} {g:List X→Sto→R X} (hl:xs.length=n) (h:g xs S=r):Y8 n (Y9 [] g) xs S=r:=by
  unfold Y8 Y9
  rw [if_pos (decide_eq_true hl),List.map_nil,List.append_nil]
  exact h
theorem X2x:∀ ds:List D,Z19 S (ds.map X.d)=some ds
  | []=>rfl
  | d :: ds=>by
    show (match (X.d d).get S,Z19 S (ds.map X.d) with
      | some d,some l=>some (d :: l)
      | _,_=>none)=_
    rw [X2x ds]
    rfl
theorem X8g:∀ ds:List D,(ds.map X.d).all X.isD=true
  | []=>rfl
  | d :: ds=>by
    rw [List.map_cons,List.all_cons,X8g ds]
    rfl
theorem W7i {g:List D→PR} {ds:List D} (hx:xs=ds.map X.d) (h:g ds = .ok d):callP g xs S = .ok (.d d) S:=by
  subst hx
  unfold callP
  rw [X2x,X8g]
  show (match g ds with
    | .ok d=>if true || d.noL then R.ok (X.d d) S else .bad
    | .err C fs=>if true || D.noLf fs then .err C fs S else .bad
    | .bad => .bad)=_
  rw [h]
  rfl
theorem Y0v {g:List D→PR} (h:g [d1] = .ok d):callP g [.d d1] S = .ok (.d d) S:=W7i (ds:=[d1]) rfl h
theorem Y5j {g:List D→PR} (h:g [d1,d2] = .ok d):callP g [.d d1, .d d2] S = .ok (.d d) S:=W7i (ds:=[d1,d2]) rfl h
theorem X5w {g:List D→PR} {d3:D} (h:g [d1,d2,d3] = .ok d):callP g [.d d1, .d d2, .d d3] S = .ok (.d d) S:=W7i (ds:=[d1,d2,d3]) rfl h
theorem Z0a {j:Int} (h1:ma e S = .ok x S1) (h2:mb e S1 = .ok (.d (.int j)) S2) (h:ixO S2 x j=some z):V5 ma mb e S = .ok z S2:=by
  unfold V5
  rw [h1]
  show (mb e S1).bind _=_
  rw [h2]
  show Z04 ((Z2v (.d (.int j))).bind (ixO S2 x)) S2=_
  show Z04 (ixO S2 x j) S2=_
  rw [h]
  rfl
theorem Z1j {Cs:List Str} {f:Str} (h1:m e S = .ok x S1) (h:Z0i Cs f S1 x=some z):Y4 Cs f m e S = .ok z S1:=by
  unfold Y4
  rw [h1]
  show Z04 (Z0i Cs f S1 x) S1=_
  rw [h]
  rfl
theorem Z12 {ds:List D} (h1:ms e S = .ok xs S1) (hd:ds? xs=some ds) (hl:ds.length ≤ sizeLine):W1 ms e S = .ok (.d (.tup ds)) S1:=by
  unfold W1
  rw [h1]
  show Z0p xs S1=_
  unfold Z0p
  rw [hd]
  show (if ds.length ≤ sizeLine then _ else _)=_
  rw [if_pos hl]
theorem Z3v {ds:List D} (h1:ms e S = .ok xs S1) (hd:ds? xs=some ds) (hl:ds.length ≤ sizeLine):V3 ms e S = .ok (.d (.lst ds)) S1:=by
  unfold V3
  rw [h1]
  show Z0j xs S1=_
  unfold Z0j
  rw [hd]
  show (if ds.length ≤ sizeLine then _ else _)=_
  rw [if_pos hl]
theorem Z94 (h1:ms e S = .ok xs S1) (hl:xs.length ≤ sizeLine):V2 ms e S = .ok (.r S1.length) (S1++[.lst xs]):=by
  unfold V2
  rw [h1]
  show Z0o xs S1=_
  unfold Z0o
  rw [if_pos hl]
theorem Y0w:Z1e e S = .ok none S:=rfl
theorem Z38 {j:Int} (h:m e S = .ok (.d (.int j)) S1):X4 m e S = .ok (some j) S1:=by
  unfold X4
  rw [h]
  rfl
theorem Z26 {ml mh:MG (Option Int)} {lo hi:Option Int} (h1:m e S = .ok x S1) (h2:ml e S1 = .ok lo S2) (h3:mh e S2 = .ok hi S3) (h:slX S3 x lo hi=some z):Y6 m ml mh e S = .ok z S3:=by
  unfold Y6
  rw [h1]
  show (ml e S1).bind _=_
  rw [h2]
  show (mh e S2).bind _=_
  rw [h3]
  show Z04 (slX S3 x lo hi) S3=_
  rw [h]
  rfl
theorem Y21 {ty:Sto→X→Bool} {g:X→List X→Sto→R X} (h1:mo e S = .ok x S1) (ht:ty S1 x=true) (h2:ms e S1 = .ok xs S2) (h:g x xs S2=r):Z1s ty g mo ms e S=r:=by
  unfold Z1s
  rw [h1]
  show (if ty S1 x then (ms e S1).bind fun xs S2=>g x xs S2 else .bad)=_
  rw [ht,h2]
  exact h
theorem Y87 {g:Str→X→Sto→R X} {a:Str} (h1:mo e S = .ok (.d (.str a)) S1) (h2:m e S1 = .ok y S2) (h:g a y S2=r):Z2s g mo m e S=r:=by
  unfold Z2s
  rw [h1]
  show (m e S1).bind _=_
  rw [h2]
  exact h
theorem Y7b {C f:Str} {g:List X→Sto→R X} (h1:mo e S = .ok x S1) (ho:isOf C f S1 x=true) (h2:ms e S1 = .ok xs S2) (h:g (x :: xs) S2=r):Z3l C f g mo ms e S=r:=by
  unfold Z3l
  rw [h1]
  show (if isOf C f S1 x then (ms e S1).bind fun xs S2=>g (x :: xs) S2 else .bad)=_
  rw [ho,h2]
  exact h
theorem X5y {C:Str} {g:List X→Sto→R X} (h1:mo e S = .ok (.d (.gl C)) S1) (h2:ms e S1 = .ok xs S2) (h:g (.d (.gl C) :: xs) S2=r):Z7d C g mo ms e S=r:=by
  unfold Z7d
  rw [h1]
  show (if decide (C=C) then (ms e S1).bind fun xs S2=>g (.d (.gl C) :: xs) S2 else .bad)=_
  rw [if_pos (decide_eq_true rfl),h2]
  exact h
theorem X2q (h1:mt e S = .ok true S1) (h:ma e S1=r):Z1q mt ma mb e S=r:=by
  unfold Z1q
  rw [h1]
  exact h
theorem X2p (h1:mt e S = .ok false S1) (h:mb e S1=r):Z1q mt ma mb e S=r:=by
  unfold Z1q
  rw [h1]
  exact h
theorem Z1z (h:m e S = .ok (.d (.bl b)) S1):U3 m e S = .ok b S1:=by
  unfold U3
  rw [h]
  rfl
theorem Y04 (h:m e S = .ok x S1) (ht:V1 S1 x=some b):Y7 m e S = .ok b S1:=by
  unfold Y7
  rw [h]
  show (match V1 S1 x with
    | some b=>R.ok b S1
    | none => .bad)=_
  rw [ht]
theorem X2r (h:mt e S = .ok b S1):X7 mt e S = .ok (!b) S1:=by
  unfold X7
  rw [h]
  rfl
theorem X97 (h:mt e S = .ok true S1):X7 mt e S = .ok false S1:=X2r h
theorem X2n (h:mt e S = .ok true S1) (h2:mt2 e S1=rb):W4 mt mt2 e S=rb:=by
  unfold W4
  rw [h]
  exact h2
theorem X2m (h:mt e S = .ok false S1):W4 mt mt2 e S = .ok false S1:=by
  unfold W4
  rw [h]
  rfl
theorem X76 (h:mt e S = .ok true S1):U2 mt mt2 e S = .ok true S1:=by
  unfold U2
  rw [h]
  rfl
theorem Y5k (h:mt e S = .ok false S1) (h2:mt2 e S1=rb):U2 mt mt2 e S=rb:=by
  unfold U2
  rw [h]
  exact h2
theorem Y4e (h:mt e S = .ok b S) (h2:b=true→mt2 e S = .ok c S):W4 mt mt2 e S = .ok (b && c) S:=by
  cases b with
  | true=>exact X2n h (h2 rfl)
  | false=>exact X2m h
theorem X75 (h:mt e S = .ok b S) (h2:b=false→mt2 e S = .ok c S):U2 mt mt2 e S = .ok (b || c) S:=by
  cases b with
  | true=>exact X76 h
  | false=>exact Y5k h (h2 rfl)
theorem W6a {m1 m2:MS} (h1:m1 e S = .go (.nx e1) S1) (h2:m2 e1 S1=ro):Z9 m1 m2 e S=ro:=by
  unfold Z9
  rw [h1]
  exact h2
theorem W6b (h:m e S = .ok x S1):X2 i m e S = .go (.nx (e.set i (some x))) S1:=by
  unfold X2
  rw [h]
  rfl
theorem W2d (h:m e S = .ok x S1):W0 m e S = .go (.nx e) S1:=by
  unfold W0
  rw [h]
  rfl
theorem X4v (h:m e S = .ok x S1):Q1 m e S = .go (.rt x) S1:=by
  unfold Q1
  rw [h]
  rfl
theorem W2g (h:m e S = .ok x S1) (hg:x.get S1=some d):X3 m e S = .go (.rp d) S1:=by
  unfold X3
  rw [h]
  show (match x.get S1 with
    | some d=>RO.go (.rp d) S1
    | none => .bad)=_
  rw [hg]
theorem W2h {ds:List D} (h:ms e S = .ok xs S1) (hg:Z19 S1 xs=some ds) (hl:ds.length ≤ sizeLine):V4 ms e S = .go (.rp (.tup ds)) S1:=by
  unfold V4
  rw [h]
  show (match Z19 S1 xs with
    | some ds=>if ds.length ≤ sizeLine then RO.go (.rp (.tup ds)) S1 else .bad
    | none => .bad)=_
  rw [hg]
  show (if ds.length ≤ sizeLine then _ else _)=_
  rw [if_pos hl]
theorem W56 {t:Tg} (h:m e S = .ok x S1) (ha:t.asg S1 x e=some e1):Z0d t m e S = .go (.nx e1) S1:=by
  unfold Z0d
  rw [h]
  show (match t.asg S1 x e with
    | some e1=>RO.go (.nx e1) S1
    | none => .bad)=_
  rw [ha]
theorem W59 {i j:Nat} (h:ms e S = .ok [x,y] S1):Q9 i j ms e S = .go (.nx ((e.set i (some x)).set j (some y))) S1:=by
  unfold Q9
  rw [h]
  rfl
theorem W57 {f:D→D→Option D} (h1:Z1 i e S = .ok (.d d1) S) (h2:m e S = .ok (.d d2) S1) (h:f d1 d2=some d):Y78 i f m e S = .go (.nx (e.set i (some (.d d)))) S1:=by
  unfold Y78
  rw [h1]
  show (m e S).so e _=_
  rw [h2]
  show (op2 f S1 (.d d1) (.d d2)).so e _=_
  have:op2 f S1 (.d d1) (.d d2) = .ok (.d d) S1:=by
    show (match f d1 d2 with
      | some d=>R.ok (X.d d) S1
      | none => .bad)=_
    rw [h]
  rw [this]
  rfl
theorem Z13 {l:Lk} (h:m e S = .ok x S1) (hw:Y0g S1 x=some (xs,l)):V7 m e S = .ok (xs,l) S1:=by
  unfold V7
  rw [h]
  show Z04 (Y0g S1 x) S1=_
  rw [hw]
  rfl
theorem W58 {t:Tg} {mt:MIt} {body:MS} {l:Lk} (h:mt e S = .ok (xs,l) S1) (h2:Z60 t l body xs e S1=ro):Z1f t mt body e S=ro:=by
  unfold Z1f
  rw [h]
  exact h2
theorem W0f {t:Tg} {body:MS} {l:Lk} (h:l.ok S=true):Z60 t l body [] e S = .go (.nx e) S:=by
  unfold Z60
  rw [if_pos h]
theorem X95 (h:ma e S = .ok x S1) (ht:V1 S1 x=some true) (h2:mb e S1=r):Q0 ma mb e S=r:=by
  unfold Q0
  rw [h]
  show (match V1 S1 x with
    | some true=>mb e S1
    | some false => .ok x S1
    | none => .bad)=_
  rw [ht]
  exact h2
theorem X5x (h:ma e S = .ok x S1) (ht:V1 S1 x=some false):Q0 ma mb e S = .ok x S1:=by
  unfold Q0
  rw [h]
  show (match V1 S1 x with
    | some true=>mb e S1
    | some false => .ok x S1
    | none => .bad)=_
  rw [ht]
theorem W33 (h:ma e S = .ok x S1) (ht:V1 S1 x=some true):Z25 ma mb e S = .ok x S1:=by
  unfold Z25
  rw [h]
  show (match V1 S1 x with
    | some true=>R.ok x S1
    | some false=>mb e S1
    | none => .bad)=_
  rw [ht]
theorem X98 (h:ma e S = .ok x S1) (ht:V1 S1 x=some false) (h2:mb e S1=r):Z25 ma mb e S=r:=by
  unfold Z25
  rw [h]
  show (match V1 S1 x with
    | some true=>R.ok x S1
    | some false=>mb e S1
    | none => .bad)=_
  rw [ht]
  exact h2
section
variable {C p:Str} {fs:List (Str × D)} {v:D} {tab:List (Str × Bool)} {mb:MS} {j:Nat} {sx:SX}
theorem W2i {m1 m2:MS} {x:X} (h:m1 e S = .go (.rt x) S1):Z9 m1 m2 e S = .go (.rt x) S1:=by
  unfold Z9
  rw [h]
  rfl
theorem X4w {m1 m2:MS} {d:D} (h:m1 e S = .go (.rp d) S1):Z9 m1 m2 e S = .go (.rp d) S1:=by
  unfold Z9
  rw [h]
  rfl
end
end
section
variable {e e1:Ev} {S S1 S2 S3 S4:Sto} {m ma mb mo mi mx:M} {ms:MG (List X)} {x y z:X} {xs:List X} {d k:D} {i:Nat} {r:R X}
theorem W2f {i j l:Nat} (h:ms e S = .ok [x,y,z] S1):Y3x i j l ms e S = .go (.nx (((e.set i (some x)).set j (some y)).set l (some z))) S1:=by
  unfold Y3x
  rw [h]
  rfl
theorem Z2t (h1:mo e S = .ok x S1) (h2:mi e S1 = .ok y S2) (h:Z9c S2 x y=r):Z0t mo mi e S=r:=by
  unfold Z0t
  rw [h1]
  show (mi e S1).bind _=_
  rw [h2]
  exact h
theorem Z7z {w:X} (h1:mo e S = .ok x S1) (hd:(Z67 S1 x).isSome=true) (h2:mi e S1 = .ok y S2) (h3:mx e S2 = .ok w S3) (h:(dkX S3 x y).map (fun p=>(Z2j p.1 p.2).getD w)=some z):Z3r mo mi mx e S = .ok z S3:=by
  unfold Z3r
  rw [h1]
  show (if (Z67 S1 x).isSome then (mi e S1).bind fun y S2=>(mx e S2).bind fun z S3=>Z04 ((dkX S3 x y).map fun p=>(Z2j p.1 p.2).getD z) S3 else .bad)=_
  rw [if_pos hd,h2]
  show (mx e S2).bind _=_
  rw [h3]
  show Z04 ((dkX S3 x y).map fun p=>(Z2j p.1 p.2).getD w) S3=_
  rw [h]
  rfl
theorem W2c {p:Nat × List (D × X) × D} (h1:m e S = .ok z S1) (h2:mo e S1 = .ok x S2) (h3:mi e S2 = .ok y S3) (h:Z8b S3 x y=some p):Z42 mo mi m e S = .go (.nx e) (S3.set p.1 (.dic (Z6d p.2.1 p.2.2 z))):=by
  unfold Z42
  rw [h1]
  show (mo e S1).so e _=_
  rw [h2]
  show (mi e S2).so e _=_
  rw [h3]
  show (match Z8b S3 x y with
    | some p=>RO.go (.nx e) (S3.set p.1 (.dic (Z6d p.2.1 p.2.2 z)))
    | none => .bad)=_
  rw [h]
theorem W0o {q:R (List X × Lk)} (h1:m e S = .ok x S1) (h:Y28 Y0r S1 x=q):Y5q m e S=q:=by
  unfold Y5q
  rw [h1]
  exact h
theorem X6c {q:R (List X × Lk)} (h1:m e S = .ok x S1) (h:Y28 Z4x S1 x=q):Y12 m e S=q:=by
  unfold Y12
  rw [h1]
  exact h
end
end Bv
namespace Bv
open PySem PySem.Spec L2
open PyProof.Rows hiding St
variable [HasW]
theorem hz4 {n:Nat} (h:n < 2000):n ≤ sizeLine:=by rw [sizeLine_eq]; omega
def W6u:PR→D→Bool
  | .ok d,e=>decide (d=e)
  | _,_=>false
theorem Z7y (ss:List Str):PyData.depthAll (ss.map PyData.str) ≤ 1:=by
  induction ss with
  | nil=>simp [PyData.depthAll]
  | cons s r ih =>
    simp only [List.map_cons,PyData.depthAll,PyData.depth]
    omega
theorem Y3w {ds:List D} {l:List PyData} (h:pys ds=some l):(D.lst ds).py=some (.list l):=by
  show (match pys ds with
    | some l=>some (PyData.list l)
    | none=>none)=_
  rw [h]
theorem Y6a {ds:List D} {l:List PyData} (h:pys ds=some l):(D.tup ds).py=some (.tuple l):=by
  show (match pys ds with
    | some l=>some (PyData.tuple l)
    | none=>none)=_
  rw [h]
theorem Z9r {d:D} {ds:List D} {p:PyData} {l:List PyData} (h:d.py=some p) (h2:pys ds=some l):pys (d :: ds)=some (p :: l):=by
  show (match d.py,pys ds with
    | some p,some l=>some (p :: l)
    | _,_=>none)=_
  rw [h,h2]
theorem W43 {a b:D} {p q:PyData} (ha:a.py=some p) (hb:b.py=some q) (da:p.depth ≤ 64) (db:q.depth ≤ 64):neD a b=some (.bl (!PyData.eqv p q)):=by
  unfold neD
  rw [ha,hb]
  show (if dOk p && dOk q then some (D.bl (!PyData.eqv p q)) else none)=_
  rw [show dOk p=true from decide_eq_true da,show dOk q=true from decide_eq_true db]
  rfl
theorem X90 (ss:List Str):(PyData.list (ss.map PyData.str)).depth ≤ 64:=by
  have:=Z7y ss
  simp only [PyData.depth]
  omega
theorem Y7l {α:Type} {t:Tg} {mi:MIt} {mt:MG Bool} {me:M} {vs:List Nat} {e:Ev} {S:Sto} (x:α→X) (f:α→D) (c:α→Bool) {l:List α} (hi:mi e S = .ok (l.map x, .free) S) (hl:l.length ≤ sizeLine) (h:∀ a ∈ l,∃ e1,t.asg S (x a) (Z0s e vs)=some e1∧mt e1 S = .ok (c a) S∧(c a=true→me e1 S = .ok (.d (f a)) S)) :
    Z14 t mi mt me vs e S = .ok (.d (.lst ((l.filter c).map f))) S:=by
  have h1:=Y4k (t:=t) (mt:=mt) (me:=me) (e:=Z0s e vs) (S:=S) x f c (l:=l) h
  unfold Z14
  rw [hi]
  show (lcL t .free mt me (Z0s e vs) (l.map x) S).bind Y0k=_
  rw [h1]
  show Y0k ((l.filter c).map f) S=_
  unfold Y0k
  have:=List.length_filter_le c l
  rw [if_pos (by rw [List.length_map]; omega)]
theorem X6x {i j:Int}:neD (.int i) (.int j)=some (.bl (!decide (i=j))):=by
  have h:neD (.int i) (.int j)=some (.bl (!(i == j))):=by
    show some (D.bl (!PyData.eqv (.int i) (.int j)))=_
    simp [PyData.eqv]
  rw [h]
  rfl
section
variable {S:Sto} {n:Nat} {x:X} {xs:List X} {ds:List D}
theorem X8m (h:S[n]?=some (.lst xs)):Z1d [.r n] S = .ok (.d (.int xs.length)) S:=by simp [Z1d,Z2r,items,h]
theorem W4j:Z1d [.d (.lst ds)] S = .ok (.d (.int ds.length)) S:=by simp [Z1d,Z2r,items]
theorem W0x:Z1d [.d (.tup ds)] S = .ok (.d (.int ds.length)) S:=by simp [Z1d,Z2r,items]
theorem X1m:Z75 [.d (.lst ds)] S = .ok (.d (.tup ds)) S:=by simp [Z75,items,Y1z]
theorem Y1k (h:S[n]?=some (.lst xs)) (hl:xs.length < sizeLine):U4 (.r n) [x] S = .ok (.d .non) (S.set n (.lst (xs++[x]))):=by simp [U4,Z0l,h,hl]
theorem Z5q (h:S[n]?=some (.lst xs)):V8 S (.r n)=true:=by simp [V8,h]
theorem X2w (h:S[n]?=some (.lst (ds.map X.d))):(X.r n).get S=some (.lst ds):=by simp [X.get,h,Y1z]
end
section
variable {α β:Type}
theorem Y2q:∀ {kvs:List (D × α)} {k:D} {v:α},(∀ p ∈ kvs,p.1 ≠ k)→Z6d kvs k v=kvs++[(k,v)]:=fun {kvs k v} h=>by
  unfold Z6d
  rw [if_neg]
  intro z
  obtain ⟨p,hp,e⟩:=List.any_eq_true.mp z
  exact h p hp (of_decide_eq_true e)
theorem W13:∀ {kvs:List (D × α)} {k:D} {v:α},(∀ p ∈ kvs,p.1=k→p.2=v)→(∃ p ∈ kvs,p.1=k)→Z6d kvs k v=kvs:=fun {kvs k v} h ⟨p,hp,e⟩=>by
  unfold Z6d
  rw [if_pos (List.any_eq_true.mpr ⟨p,hp,decide_eq_true e⟩)]
  have:∀ q ∈ kvs,(if q.1=k then (q.1,v) else q)=q:=fun q hq=>by
    split
    · rename_i c
      rw [← h q hq c]
    · rfl
  rw [List.map_congr_left this,List.map_id']
theorem Z7b (k:β→D) (v:β→α) (q:D):∀ l:List β,Z2j (l.map fun a=>(k a,v a)) q=(l.find? fun a=>decide (k a=q)).map v
  | []=>rfl
  | a :: l=>by
    have ih:=Z7b k v q l
    unfold Z2j at ih ⊢
    rw [List.map_cons,List.find?_cons,List.find?_cons]
    cases c:decide (k a=q) with
    | true=>simp only [c]; rfl
    | false=>simp only [c]; exact ih
end
theorem X2b {α:Type} {t:Tg} {mk mv:M} {e:Ev} {S:Sto} (x:α→X) (k v:α→D):∀ {l:List α} {acc:List (D × D)},(∀ a ∈ l,(k a).key?.isSome=true∧Z7n (k a)=true)→(∀ a ∈ l,∀ p ∈ acc,p.1 ≠ k a)→(l.map k).Nodup→acc.length + l.length < sizeLine→(∀ a ∈ l,∃ e1,t.asg S (x a) e=some e1∧mk e1 S = .ok (.d (k a)) S∧mv e1 S = .ok (.d (v a)) S) →
    dcL t .free W8 mk mv e acc (l.map x) S = .ok (acc++l.map fun a=>(k a,v a)) S
  | [],acc,_,_,_,_,_=>by
    rw [List.map_nil,List.map_nil,List.append_nil]
    unfold dcL
    exact if_pos rfl
  | a :: l,acc,hk,ha,hn,hl,h=>by
    obtain ⟨e1,h1,h2,h3⟩:=h a (by simp)
    obtain ⟨n1,n2⟩:=List.nodup_cons.mp (show (k a :: l.map k).Nodup from hn)
    rw [List.length_cons] at hl
    have ih:=X2b (t:=t) (mk:=mk) (mv:=mv) (e:=e) (S:=S) x k v (l:=l) (acc:=acc++[(k a,v a)]) (fun b hb=>hk b (List.mem_cons_of_mem _ hb)) (fun b hb p hp=>by
      rcases List.mem_append.mp hp with m | m
      · exact ha b (List.mem_cons_of_mem _ hb) p m
      · rw [List.mem_singleton.mp m]
        exact fun z=>n1 (List.mem_map.mpr ⟨b,hb,z.symm⟩)) n2 (by rw [List.length_append,List.length_singleton]; omega) (fun b hb=>h b (List.mem_cons_of_mem _ hb))
    have hp:Z6d acc (k a) (v a)=acc++[(k a,v a)]:=Y2q fun p hp=>ha a (by simp) p hp
    have hc:dcK acc (.d (k a)) (.d (v a))=some (acc++[(k a,v a)]):=by
      unfold dcK
      obtain ⟨c1,c2⟩:=hk a (by simp)
      show (if (k a).key?.isSome && (Z7n (k a) && decide (acc.length < sizeLine)) then some (Z6d acc (k a) (v a)) else none)=_
      rw [c1,c2,decide_eq_true (show acc.length < sizeLine by omega),hp]
      rfl
    rw [List.map_cons,List.map_cons]
    unfold dcL
    rw [if_pos (show Lk.free.ok S=true from rfl),h1]
    show (R.ok true S).ne.bind (fun b S1=>if b then (mk e1 S1).ne.bind fun y S2=>(mv e1 S2).ne.bind fun z S3=>(match dcK acc y z with
        | some acc2=>dcL t .free W8 mk mv e acc2 (l.map x) S3
        | none => .bad) else dcL t .free W8 mk mv e acc (l.map x) S1)=_
    show ((mk e1 S).ne.bind fun y S2=>(mv e1 S2).ne.bind fun z S3=>(match dcK acc y z with
        | some acc2=>dcL t .free W8 mk mv e acc2 (l.map x) S3
        | none => .bad))=_
    rw [h2]
    show ((mv e1 S).ne.bind fun z S3=>(match dcK acc (.d (k a)) z with
        | some acc2=>dcL t .free W8 mk mv e acc2 (l.map x) S3
        | none => .bad))=_
    rw [h3]
    show (match dcK acc (.d (k a)) (.d (v a)) with
        | some acc2=>dcL t .free W8 mk mv e acc2 (l.map x) S
        | none => .bad)=_
    rw [hc]
    show dcL t .free W8 mk mv e (acc++[(k a,v a)]) (l.map x) S=_
    rw [ih,List.append_assoc]
    rfl
theorem X2c {α:Type} {t:Tg} {mi:MIt} {mk mv:M} {vs:List Nat} {e:Ev} {S:Sto} (x:α→X) (k v:α→D) {l:List α} (hi:mi e S = .ok (l.map x, .free) S) (hl:l.length < sizeLine) (hk:∀ a ∈ l,(k a).key?.isSome=true∧Z7n (k a)=true) (hn:(l.map k).Nodup)
    (h:∀ a ∈ l,∃ e1,t.asg S (x a) (Z0s e vs)=some e1∧mk e1 S = .ok (.d (k a)) S∧mv e1 S = .ok (.d (v a)) S):X0m t mi W8 mk mv vs e S = .ok (.d (.dic (l.map fun a=>(k a,v a)))) S:=by
  unfold X0m
  rw [hi]
  show ((dcL t .free W8 mk mv (Z0s e vs) [] (l.map x) S).bind fun kvs S2=>R.ok (X.d (.dic kvs)) S2)=_
  rw [X2b x k v (acc:=[]) hk (fun _ _ _ hp=>absurd hp List.not_mem_nil) hn (by rw [List.length_nil]; omega) h]
  rfl
theorem W3x {S:Sto} {kvs:List (D × D)} {q v:D} (hq:q.key?.isSome=true) (h:Z2j kvs q=some v):Z9c S (.d (.dic kvs)) (.d q) = .ok (.d v) S:=by
  have e:dkX S (.d (.dic kvs)) (.d q)=some (kvs.map fun p=>(p.1,X.d p.2),q):=by
    show (some (kvs.map fun p=>(p.1,X.d p.2))).bind (fun kvs=>if q.key?.isSome then some (kvs,q) else none)=_
    rw [Option.bind_some,if_pos hq]
  have h2:=Z7b (fun p:D × D=>p.1) (fun p=>X.d p.2) q kvs
  unfold Z2j at h
  unfold Z9c
  rw [e,Option.bind_some]
  show Z04 (Z2j (kvs.map fun p=>(p.1,X.d p.2)) q) S=_
  rw [h2]
  obtain ⟨p,h3,h4⟩:=Option.map_eq_some_iff.mp h
  rw [h3,Option.map_some,h4]
  rfl
end Bv
namespace Bv
open PySem PySem.Spec L2
open PyProof.Rows hiding St
variable [HasW]
def Fw (r:RO) (Q:RO→Prop):Prop:=Q r
def Nx (P:Ev→Sto→Prop) (r:RO):Prop:=∃ e S,r = .go (.nx e) S∧P e S
section
variable {e e1 e2:Ev} {S S1 S2 S3 S4:Sto} {m ma mb mc mo mi mx:M} {ms:MG (List X)} {mt mt2:MG Bool} {x y z w:X} {xs ys:List X} {d d1 d2 d3 d4:D} {r:R X} {rb:R Bool} {ro:RO} {b c b1 b2:Bool} {i j l:Nat} {Q Q2:RO→Prop} {k k1 k2:MS}
theorem kt {α:Type} {A B r:α} (h:A=r):(if true=true then A else B)=r:=h
theorem kf {α:Type} {A B r:α} (h:B=r):(if false=true then A else B)=r:=h
theorem X8j (h2:b=true→m e S = .ok (.d (.bl c)) S):(if b=true then m e S else R.ok (.d (.bl b)) S) = .ok (.d (.bl (b && c))) S:=by
  cases b with
  | true=>exact h2 rfl
  | false=>rfl
theorem Y69 (h:mt e S = .ok b S1) (h2:(if b=true then ma e S1 else mb e S1)=r):Z1q mt ma mb e S=r:=by
  unfold Z1q
  rw [h]
  exact h2
theorem Y83 (h:ma e S = .ok x S1) (ht:V1 S1 x=some b) (h2:(if b=true then mb e S1 else R.ok x S1)=r):Q0 ma mb e S=r:=by
  cases b with
  | true=>exact X95 h ht h2
  | false=>rw [← show R.ok x S1=r from h2]; exact X5x h ht
theorem Z74:V1 S (.d (.bl b))=some b:=rfl
theorem X94 {a b:Str} (h:a=b):eqD (.str a) (.str b)=some (.bl true):=by rw [Z2n,decide_eq_true h]
theorem X93 {a b:Str} (h:¬ a=b):eqD (.str a) (.str b)=some (.bl false):=by rw [Z2n,decide_eq_false h]
theorem W46 {a b:Str} (h:¬ a=b):neD (.str a) (.str b)=some (.bl true):=by rw [Z50,decide_eq_false h]; rfl
theorem W45 {a b:Str} (h:a=b):neD (.str a) (.str b)=some (.bl false):=by rw [Z50,decide_eq_true h]; rfl
theorem W7h {a b:Int} (h:a=b):eqD (.int a) (.int b)=some (.bl true):=by rw [Y10,decide_eq_true h]
theorem W7g {a b:Int} (h:¬ a=b):eqD (.int a) (.int b)=some (.bl false):=by rw [Y10,decide_eq_false h]
theorem W80 {a b:Int} (h:b < a):gtD (.int a) (.int b)=some (.bl true):=by rw [Z3k,decide_eq_true h]
theorem W8z {a b:Int} (h:¬ b < a):gtD (.int a) (.int b)=some (.bl false):=by rw [Z3k,decide_eq_false h]
theorem Z8c {A B:List D} (h:A.length + B.length < 2000):Z4e (.lst A) (.lst B)=some (.lst (A++B)):=if_pos (hz4 (by omega))
theorem X1v {A B:List D} (h:A.length + B.length < 2000):Z4e (.tup A) (.tup B)=some (.tup (A++B)):=if_pos (hz4 (by omega))
theorem Fw.eq (h:ro = .go (.nx e) S) (h2:Q (.go (.nx e) S)):Fw ro Q:=by unfold Fw; rw [h]; exact h2
theorem Fw.mono (h:Fw ro Q) (h2:∀ r,Q r→Q2 r):Fw ro Q2:=h2 _ h
theorem Fw.seq (h:k1 e S = .go (.nx e1) S1) (h2:Fw (k e1 S1) Q):Fw (Z9 k1 k e S) Q:=by
  unfold Fw
  rw [W6a h rfl]
  exact h2
theorem Fw.one (h:Fw (Z9 k W7 e S) Q):Fw (k e S) Q:=by
  have q:Z9 k W7 e S=k e S:=by
    unfold Z9
    cases h:k e S with
    | go o T=>cases o <;> rfl
    | err C fs e T=>rfl
    | bad=>rfl
  unfold Fw at h ⊢
  rw [q] at h
  exact h
theorem Fw.nil (h:Q (.go (.nx e) S)):Fw (W7 e S) Q:=h
theorem Fw.seqNil (h:Fw (k e S) Q):Fw (Z9 W7 k e S) Q:=h
theorem Fw.seqSeq (h:Fw (Z9 k1 (Z9 k2 k) e S) Q):Fw (Z9 (Z9 k1 k2) k e S) Q:=by
  have q:Z9 (Z9 k1 k2) k e S=Z9 k1 (Z9 k2 k) e S:=by
    unfold Z9
    cases h:k1 e S with
    | go o T=>cases o <;> rfl
    | err C fs e T=>rfl
    | bad=>rfl
  unfold Fw at h ⊢
  rw [q]
  exact h
theorem Fw.set (h:m e S = .ok x S1) (h2:Fw (k (e.set i (some x)) S1) Q):Fw (Z9 (X2 i m) k e S) Q := .seq (W6b h) h2
theorem Fw.expr (h:m e S = .ok x S1) (h2:Fw (k e S1) Q):Fw (Z9 (W0 m) k e S) Q := .seq (W2d h) h2
theorem Fw.asg {t:Tg} (h:m e S = .ok x S1) (ha:t.asg S1 x e=some e1) (h2:Fw (k e1 S1) Q):Fw (Z9 (Z0d t m) k e S) Q := .seq (W56 h ha) h2
theorem Fw.par (h:ms e S = .ok [x,y] S1) (h2:Fw (k ((e.set i (some x)).set j (some y)) S1) Q):Fw (Z9 (Q9 i j ms) k e S) Q := .seq (W59 h) h2
theorem Fw.par3 (h:ms e S = .ok [x,y,z] S1) (h2:Fw (k (((e.set i (some x)).set j (some y)).set l (some z)) S1) Q):Fw (Z9 (Y3x i j l ms) k e S) Q := .seq (W2f h) h2
theorem Fw.dput {p:Nat × List (D × X) × D} (h1:m e S = .ok z S1) (h2:mo e S1 = .ok x S2) (h3:mi e S2 = .ok y S3) (h:Z8b S3 x y=some p) (h4:Fw (k e (S3.set p.1 (.dic (Z6d p.2.1 p.2.2 z)))) Q):Fw (Z9 (Z42 mo mi m) k e S) Q := .seq (W2c h1 h2 h3 h) h4
theorem Fw.aug {f:D→D→Option D} (h1:Z1 i e S = .ok (.d d1) S) (h2:m e S = .ok (.d d2) S1) (h:f d1 d2=some d) (h3:Fw (k (e.set i (some (.d d))) S1) Q):Fw (Z9 (Y78 i f m) k e S) Q := .seq (W57 h1 h2 h) h3
theorem Fw.ret (h:m e S = .ok x S1) (h2:Q (.go (.rt x) S1)):Fw (Z9 (Q1 m) k e S) Q:=by
  unfold Fw
  rw [W2i (X4v h)]
  exact h2
theorem Fw.retP (h:m e S = .ok x S1) (hg:x.get S1=some d) (h2:Q (.go (.rp d) S1)):Fw (Z9 (X3 m) k e S) Q:=by
  unfold Fw
  rw [X4w (W2g h hg)]
  exact h2
theorem Fw.retT {ds:List D} (h:ms e S = .ok xs S1) (hg:Z19 S1 xs=some ds) (hl:ds.length ≤ sizeLine) (h2:Q (.go (.rp (.tup ds)) S1)):Fw (Z9 (V4 ms) k e S) Q:=by
  unfold Fw
  rw [X4w (W2h h hg hl)]
  exact h2
theorem Fw.if_ (h:mt e S = .ok b S1) (h2:Fw (if b=true then Z9 k1 k e S1 else Z9 k2 k e S1) Q):Fw (Z9 (Z0r mt k1 k2) k e S) Q:=by
  have q:Z9 (Z0r mt k1 k2) k e S=if b=true then Z9 k1 k e S1 else Z9 k2 k e S1:=by
    have z:Z0r mt k1 k2 e S=if b=true then k1 e S1 else k2 e S1:=by unfold Z0r; rw [h]; rfl
    unfold Z9
    rw [z]
    cases b <;> rfl
  unfold Fw at h2 ⊢
  rw [q]
  exact h2
theorem Fw.ift (h:Fw (k1 e S) Q):Fw (if true=true then k1 e S else ro) Q:=h
theorem Fw.iff (h:Fw (k2 e S) Q):Fw (if false=true then ro else k2 e S) Q:=h
theorem Fw.ifc {r1 r2:RO} (h1:b=true→Fw r1 Q) (h2:b=false→Fw r2 Q):Fw (if b=true then r1 else r2) Q:=by
  cases b with
  | true=>exact h1 rfl
  | false=>exact h2 rfl
section
variable {t:Tg} {Cs:List Str} {f C:Str} {f2:D→D→Option D} {mit:MIt} {tab:List (Str × Bool)} {sx:SX} {mx2:Ev→SX}
end
inductive Trn (P P2:Ev→Sto→Prop) (Q:RO→Prop):RO→Prop where
  | nx {ε:Ev} {σ:Sto} (h:P ε σ):Trn P P2 Q (.go (.nx ε) σ)
  | ct {ε:Ev} {σ:Sto} (h:P ε σ):Trn P P2 Q (.go (.ct ε) σ)
  | bk {ε:Ev} {σ:Sto} (h:P2 ε σ):Trn P P2 Q (.go (.bk ε) σ)
  | rt {ξ:X} {σ:Sto} (h:Q (.go (.rt ξ) σ)):Trn P P2 Q (.go (.rt ξ) σ)
  | rp {δ:D} {σ:Sto} (h:Q (.go (.rp δ) σ)):Trn P P2 Q (.go (.rp δ) σ)
  | err {C:Str} {fs:List (Str × D)} {ε:Ev} {σ:Sto} (h:Q (.err C fs ε σ)):Trn P P2 Q (.err C fs ε σ)
theorem Y90 (h:Z9 k1 k e S=k1 e S) (hq:Q (k1 e S)):Fw (Z9 k1 k e S) Q:=by
  unfold Fw
  rw [h]
  exact hq
theorem Z95 {α:Type} {t:Tg} {lk:Lk} {body:MS} (f:α→X) (I:List α→Ev→Sto→Prop) (P2:Ev→Sto→Prop) (hok:∀ l e S,I l e S→lk.ok S=true)
    (step:∀ a l e S,I (a :: l) e S→∃ e1,t.asg S (f a) e=some e1∧Fw (body e1 S) (Trn (I l) P2 Q)) :
    ∀ (l:List α) (e:Ev) (S:Sto),I l e S→(∃ e2 S2,Z60 t lk body (l.map f) e S = .go (.nx e2) S2∧(I [] e2 S2 ∨ P2 e2 S2)) ∨ ((∀ e2 S2,Z60 t lk body (l.map f) e S ≠ .go (.nx e2) S2)∧Q (Z60 t lk body (l.map f) e S))
  | [],e,S,h => .inl ⟨e,S,W0f (hok _ _ _ h), .inl h⟩
  | a :: l,e,S,h=>by
    obtain ⟨e1,h1,h2⟩:=step a l e S h
    have u:Z60 t lk body ((a :: l).map f) e S=(match body e1 S with
      | .go (.nx e2) S2=>Z60 t lk body (l.map f) e2 S2
      | .go (.ct e2) S2=>Z60 t lk body (l.map f) e2 S2
      | .go (.bk e2) S2 => .go (.nx e2) S2
      | r=>r):=by
      show Z60 t lk body (f a :: l.map f) e S=_
      rw [Z60,if_pos (hok _ _ _ h),h1]
      try rfl
    rw [u]
    unfold Fw at h2
    generalize hb:body e1 S=r at h2
    cases h2 with
    | nx h=>exact Z95 f I P2 hok step l _ _ h
    | ct h=>exact Z95 f I P2 hok step l _ _ h
    | bk h=>exact .inl ⟨_,_,rfl, .inr h⟩
    | rt h=>exact .inr ⟨fun _ _ q=>(nomatch q),h⟩
    | rp h=>exact .inr ⟨fun _ _ q=>(nomatch q),h⟩
    | err h=>exact .inr ⟨fun _ _ q=>(nomatch q),h⟩
theorem Fw.for_ {α:Type} {t:Tg} {it:MIt} {lk:Lk} {body:MS} {f:α→X} {l:List α} (hi:it e S = .ok (l.map f,lk) S1) (I:List α→Ev→Sto→Prop) (P2:Ev→Sto→Prop) (h0:I l e S1) (hok:∀ l e S,I l e S→lk.ok S=true)
    (step:∀ a l e S,I (a :: l) e S→∃ e1,t.asg S (f a) e=some e1∧Fw (body e1 S) (Trn (I l) P2 Q)) (fin:∀ e2 S2,I [] e2 S2 ∨ P2 e2 S2→Fw (k e2 S2) Q):Fw (Z9 (Z1f t it body) k e S) Q:=by
  have z:Z1f t it body e S=Z60 t lk body (l.map f) e S1:=W58 hi rfl
  rcases Z95 f I P2 hok step l e S1 h0 with ⟨e2,S2,h,h2⟩ | ⟨h,h2⟩
  · exact .seq (z.trans h) (fin e2 S2 h2)
  · rw [← z] at h h2
    refine Y90 ?_ h2
    unfold Z9
    cases q:Z1f t it body e S with
    | go o T=>cases o with
      | nx e2=>exact (h e2 T q).elim
      | _=>rfl
    | err C fs e T=>rfl
    | bad=>rfl
theorem Fw.forI {t:Tg} {it:MIt} {lk:Lk} {body:MS} (hi:it e S = .ok (xs,lk) S1) (I:Ev→Sto→Prop) (h0:I e S1) (hok:∀ e S,I e S→lk.ok S=true)
    (step:∀ x ∈ xs,∀ e S,I e S→∃ e1,t.asg S x e=some e1∧Fw (body e1 S) (Trn I I Q)) (fin:∀ e2 S2,I e2 S2→Fw (k e2 S2) Q):Fw (Z9 (Z1f t it body) k e S) Q:=by
  have hi':it e S = .ok (xs.map id,lk) S1:=by rw [List.map_id]; exact hi
  refine Fw.for_ hi' (fun l e S=>(∀ x ∈ l,x ∈ xs)∧I e S) I ⟨fun _ h=>h,h0⟩ (fun l e S h=>hok e S h.2) (fun a l e S h=>?_) fun e2 S2 h=>fin e2 S2 (h.elim (fun h=>h.2) id)
  obtain ⟨e1,h1,h2⟩:=step a (h.1 a (by simp)) e S h.2
  refine ⟨e1,h1,h2.mono fun r hr=>?_⟩
  cases hr with
  | nx q=>exact .nx ⟨fun x hx=>h.1 x (List.mem_cons_of_mem _ hx),q⟩
  | ct q=>exact .ct ⟨fun x hx=>h.1 x (List.mem_cons_of_mem _ hx),q⟩
  | bk q=>exact .bk q
  | rt q=>exact .rt q
  | rp q=>exact .rp q
  | err q=>exact .err q
theorem Z7r {body:MS} (I:Nat→Ev→Sto→Prop) (P2:Ev→Sto→Prop)
    (step:∀ n e S,I n e S→∃ b S1,mt e S = .ok b S1∧(b=false→P2 e S1)∧(b=true→∃ n',n=n' + 1∧Fw (body e S1) (Trn (I n') P2 Q))) :
    ∀ (n N:Nat) (e:Ev) (S:Sto),n < N→I n e S→(∃ e2 S2,Z5l mt body N e S = .go (.nx e2) S2∧P2 e2 S2) ∨ ((∀ e2 S2,Z5l mt body N e S ≠ .go (.nx e2) S2)∧Q (Z5l mt body N e S))
  | n,0,e,S,h,_=>absurd h (Nat.not_lt_zero _)
  | n,N + 1,e,S,h,hI=>by
    obtain ⟨b,S1,h1,h2,h3⟩:=step n e S hI
    have u:Z5l mt body (N + 1) e S=if b then (match body e S1 with
      | .go (.nx e2) S2=>Z5l mt body N e2 S2
      | .go (.ct e2) S2=>Z5l mt body N e2 S2
      | .go (.bk e2) S2 => .go (.nx e2) S2
      | r=>r) else .go (.nx e) S1:=by
      rw [Z5l,h1]
      try rfl
    rw [u]
    cases b with
    | false=>exact .inl ⟨_,_,rfl,h2 rfl⟩
    | true =>
      obtain ⟨n',rfl,h4⟩:=h3 rfl
      rw [if_pos rfl]
      unfold Fw at h4
      generalize hb:body e S1=r at h4
      cases h4 with
      | nx h=>exact Z7r I P2 step n' N _ _ (by omega) h
      | ct h=>exact Z7r I P2 step n' N _ _ (by omega) h
      | bk h=>exact .inl ⟨_,_,rfl,h⟩
      | rt h=>exact .inr ⟨fun _ _ q=>(nomatch q),h⟩
      | rp h=>exact .inr ⟨fun _ _ q=>(nomatch q),h⟩
      | err h=>exact .inr ⟨fun _ _ q=>(nomatch q),h⟩
theorem Fw.while_ {body:MS} (n:Nat) (hn:n < 1000000) (I:Nat→Ev→Sto→Prop) (P2:Ev→Sto→Prop) (h0:I n e S)
    (step:∀ n e S,I n e S→∃ b S1,mt e S = .ok b S1∧(b=false→P2 e S1)∧(b=true→∃ n',n=n' + 1∧Fw (body e S1) (Trn (I n') P2 Q))) (fin:∀ e2 S2,P2 e2 S2→Fw (k e2 S2) Q):Fw (Z9 (Z7o mt body) k e S) Q:=by
  have z:Z7o mt body e S=Z5l mt body 1000000 e S:=rfl
  rcases Z7r I P2 step n 1000000 e S hn h0 with ⟨e2,S2,h,h2⟩ | ⟨h,h2⟩
  · exact .seq (z.trans h) (fin e2 S2 h2)
  · rw [← z] at h h2
    refine Y90 ?_ h2
    unfold Z9
    cases q:Z7o mt body e S with
    | go o T=>cases o with
      | nx e2=>exact (h e2 T q).elim
      | _=>rfl
    | err C fs e T=>rfl
    | bad=>rfl
theorem Z51 {N:Nat} {mb:MS} {ds:List D} {p:PR} (h:Fw (mb (ev0 N (ds.map .d)) []) (fun r=>Z24 r=p)):Z6e N mb ds=p:=h
theorem Y8l {α:Type} {f:α→D} {l:List α}:Y0g S (.d (.lst (l.map f)))=some (l.map (fun a=>X.d (f a)), .free):=by
  show some ((l.map f).map X.d,Lk.free)=_
  rw [List.map_map]
  rfl
theorem Z4l {α:Type} {f:α→D} {l:List α}:Y0g S (.d (.tup (l.map f)))=some (l.map (fun a=>X.d (f a)), .free):=by
  show some ((l.map f).map X.d,Lk.free)=_
  rw [List.map_map]
  rfl
end
end Bv
namespace Bv
open PySem PySem.Spec L2
open PyProof.Rows hiding St
variable [HasW]
def fl:Nat→D→Bool
  | _, .non=>true
  | _, .int _=>true
  | _, .str _=>true
  | n + 1, .tup ds=>ds.all (fl n)
  | n + 1, .lst ds=>ds.all (fl n)
  | _,_=>false
theorem Z49 {n:Nat} (ih:∀ d,fl n d=true→∃ p,d.py=some p∧p.depth ≤ n):∀ {ds:List D},ds.all (fl n)=true→∃ l,pys ds=some l∧PyData.depthAll l ≤ n
  | [],_=>⟨[],rfl,by simp [PyData.depthAll]⟩
  | d :: r,h=>by
    obtain ⟨h1,h2⟩:=Bool.and_eq_true_iff.mp (show (fl n d && r.all (fl n))=true from h)
    obtain ⟨p,e1,l1⟩:=ih d h1
    obtain ⟨l,e2,l2⟩:=Z49 ih h2
    refine ⟨p :: l,Z9r e1 e2,?_⟩
    simp only [PyData.depthAll]
    omega
theorem Z6z:∀ {n:Nat} {d:D},fl n d=true→∃ p,d.py=some p∧p.depth ≤ n:=by
  intro n
  induction n with
  | zero =>
    intro d h
    cases d <;> first | (cases h; done) | exact ⟨_,rfl,by simp [PyData.depth]⟩
  | succ n ih =>
    intro d h
    cases d with
    | tup ds =>
      obtain ⟨l,e,hl⟩:=Z49 (fun d=>ih (d:=d)) (show ds.all (fl n)=true from h)
      exact ⟨_,Y6a e,by simp only [PyData.depth]; omega⟩
    | lst ds =>
      obtain ⟨l,e,hl⟩:=Z49 (fun d=>ih (d:=d)) (show ds.all (fl n)=true from h)
      exact ⟨_,Y3w e,by simp only [PyData.depth]; omega⟩
    | _=>first | (cases h; done) | exact ⟨_,rfl,by simp [PyData.depth]⟩
theorem Y7e {n:Nat} (ih:∀ {a b:D} {p q:PyData},fl n a=true→fl n b=true→a.py=some p→b.py=some q→PyData.eqv p q=decide (a=b)):∀ {as bs:List D} {l m:List PyData},as.all (fl n)=true→bs.all (fl n)=true→pys as=some l→pys bs=some m→PyData.eqvAll l m=decide (as=bs)
  | [],[],_,_,_,_,e1,e2=>by cases e1; cases e2; simp [PyData.eqvAll]
  | [],b :: bs,_,_,_,h2,e1,e2=>by
    cases e1
    obtain ⟨h3,h4⟩:=Bool.and_eq_true_iff.mp (show (fl n b && bs.all (fl n))=true from h2)
    obtain ⟨p,q1,_⟩:=Z6z h3
    obtain ⟨r,q2,_⟩:=Z49 (fun d=>Z6z (n:=n)) h4
    rw [Z9r q1 q2] at e2
    cases e2
    simp [PyData.eqvAll]
  | a :: as,[],_,_,h1,_,e1,e2=>by
    cases e2
    obtain ⟨h3,h4⟩:=Bool.and_eq_true_iff.mp (show (fl n a && as.all (fl n))=true from h1)
    obtain ⟨p,q1,_⟩:=Z6z h3
    obtain ⟨r,q2,_⟩:=Z49 (fun d=>Z6z (n:=n)) h4
    rw [Z9r q1 q2] at e1
    cases e1
    simp [PyData.eqvAll]
  | a :: as,b :: bs,_,_,h1,h2,e1,e2=>by
    obtain ⟨h3,h4⟩:=Bool.and_eq_true_iff.mp (show (fl n a && as.all (fl n))=true from h1)
    obtain ⟨h5,h6⟩:=Bool.and_eq_true_iff.mp (show (fl n b && bs.all (fl n))=true from h2)
    obtain ⟨p,q1,_⟩:=Z6z h3
    obtain ⟨r,q2,_⟩:=Z49 (fun d=>Z6z (n:=n)) h4
    obtain ⟨p',q3,_⟩:=Z6z h5
    obtain ⟨r',q4,_⟩:=Z49 (fun d=>Z6z (n:=n)) h6
    rw [Z9r q1 q2] at e1
    rw [Z9r q3 q4] at e2
    cases e1
    cases e2
    have x1:=ih h3 h5 q1 q3
    have x2:=Y7e ih h4 h6 q2 q4
    rw [PyData.eqvAll,x1,x2,Bool.eq_iff_iff]
    simp
theorem W34:∀ {n:Nat} {a b:D} {p q:PyData},fl n a=true→fl n b=true→a.py=some p→b.py=some q→PyData.eqv p q=decide (a=b):=by
  intro n
  induction n with
  | zero =>
    intro a b p q h1 h2 e1 e2
    cases a <;> cases b <;> first | (cases h1; done) | (cases h2; done) | (cases e1; cases e2; rw [Bool.eq_iff_iff]; simp [PyData.eqv])
  | succ n ih =>
    intro a b p q h1 h2 e1 e2
    cases a with
    | tup as =>
      obtain ⟨l,q1,_⟩:=Z49 (fun d=>Z6z (n:=n)) (show as.all (fl n)=true from h1)
      rw [Y6a q1] at e1
      cases e1
      cases b with
      | tup bs =>
        obtain ⟨m,q2,_⟩:=Z49 (fun d=>Z6z (n:=n)) (show bs.all (fl n)=true from h2)
        rw [Y6a q2] at e2
        cases e2
        rw [PyData.eqv,Y7e ih h1 h2 q1 q2,Bool.eq_iff_iff]
        simp
      | lst bs =>
        obtain ⟨m,q2,_⟩:=Z49 (fun d=>Z6z (n:=n)) (show bs.all (fl n)=true from h2)
        rw [Y3w q2] at e2
        cases e2
        rw [Bool.eq_iff_iff]; simp [PyData.eqv]
      | _=>first | (cases h2; done) | (cases e2; rw [Bool.eq_iff_iff]; simp [PyData.eqv])
    | lst as =>
      obtain ⟨l,q1,_⟩:=Z49 (fun d=>Z6z (n:=n)) (show as.all (fl n)=true from h1)
      rw [Y3w q1] at e1
      cases e1
      cases b with
      | tup bs =>
        obtain ⟨m,q2,_⟩:=Z49 (fun d=>Z6z (n:=n)) (show bs.all (fl n)=true from h2)
        rw [Y6a q2] at e2
        cases e2
        rw [Bool.eq_iff_iff]; simp [PyData.eqv]
      | lst bs =>
        obtain ⟨m,q2,_⟩:=Z49 (fun d=>Z6z (n:=n)) (show bs.all (fl n)=true from h2)
        rw [Y3w q2] at e2
        cases e2
        rw [PyData.eqv,Y7e ih h1 h2 q1 q2,Bool.eq_iff_iff]
        simp
      | _=>first | (cases h2; done) | (cases e2; rw [Bool.eq_iff_iff]; simp [PyData.eqv])
    | _ =>
      first
      | (cases h1; done)
      | (cases b with
        | tup bs =>
          obtain ⟨m,q2,_⟩:=Z49 (fun d=>Z6z (n:=n)) (show bs.all (fl n)=true from h2)
          rw [Y6a q2] at e2
          cases e1; cases e2
          rw [Bool.eq_iff_iff]; simp [PyData.eqv]
        | lst bs =>
          obtain ⟨m,q2,_⟩:=Z49 (fun d=>Z6z (n:=n)) (show bs.all (fl n)=true from h2)
          rw [Y3w q2] at e2
          cases e1; cases e2
          rw [Bool.eq_iff_iff]; simp [PyData.eqv]
        | _=>first | (cases h2; done) | (cases e1; cases e2; rw [Bool.eq_iff_iff]; simp [PyData.eqv]))
theorem W42 {n:Nat} {a b:D} (h1:fl n a=true) (h2:fl n b=true) (hn:n ≤ 64):neD a b=some (.bl (!decide (a=b))):=by
  obtain ⟨p,e1,d1⟩:=Z6z h1
  obtain ⟨q,e2,d2⟩:=Z6z h2
  rw [W43 e1 e2 (by omega) (by omega),W34 h1 h2 e1 e2]
theorem X31 {n:Nat} {a:D} (h1:fl n a=true) (hn:n ≤ 64):neD a a=some (.bl false):=by
  rw [W42 h1 h1 hn]
  simp
theorem W79 {a b:Bool}:neD (.bl a) (.bl b)=some (.bl (a != b)):=by cases a <;> cases b <;> rfl
theorem X73 {C:Str} {g:List D→PR} {neg b c:Bool} {f1 f2:List (Str × D)} (h:g [.obj C f1, .obj C f2] = .ok (.bl b)) (hc:(b ^^ neg)=c):eqO C g neg (.obj C f1) (.obj C f2)=some (.bl c):=by
  show (if decide (C=C) && decide (C=C) then (match g [.obj C f1, .obj C f2] with
    | .ok (.bl r)=>some (D.bl (r ^^ neg))
    | _=>none) else none)=_
  rw [h,← hc]
  simp
theorem W5z {ns:List Int} {lo hi:Nat} {e:Ev} {S:Sto} (h1:lo < 100:=by decide) (h2:hi < 100:=by decide):Z5p (Z0 (Z8 (Q7 Z3h) (Z0 (m_c (.int lo)) (Z0 (Z8 (Q7 Z3i) (Z0 (m_c (.int hi)) (Z0 (Z8 Z1d (Z0 (Z1 0) (Z7))) (Z7)))) (Z7)))) (Z7)) (some (.d (.scr ns)) :: e) S = .ok (Bv.upTo 0 (max lo (min hi ns.length)), .free) S:=by
  refine Z69 (n:=(max lo (min hi ns.length):Nat)) ?_ (Z73 (by omega))
  have hv:((max lo (min hi ns.length):Nat):Int)=if (if (ns.length:Int) < hi then (ns.length:Int) else hi) > lo then (if (ns.length:Int) < hi then (ns.length:Int) else hi) else lo:=by omega
  rw [hv]
  simp [ev0,Z9,Z0r,W7,W0,X2,Q1,X3,U5,V0,V4,Z0d,Q9,Z0w,Q4,U3,Y2,V5,Z1,m_c,Z8,Z0,Z7,W9,W1,V3,V2,Y4,Z1s,Y6,X4,Z1e,Z1q,W4,U2,X7,Q0,Z25,Z0v,Z3q,Y7,W3,R.bind,R.so,RO.then,items,ixO,ixD,Z2v,Z04,op2,X.get,tb,Z0p,Z0j,Z0o,Z0i,slX,V1,U1,Y8,Y9,Z3g,Z24,Z0h,Z3t,Z27,Z2m,Z2i,Z1d,Z2r,Z3o,Q7,ints?,Z3f,Z3i,Z3h,ds?,Z19,callP,X.isD,D.noL,D.noLs,D.noLf,V8,Z0l,Z0e,Z0u,Z3k,Z3n,Z3p,Z3x]
end Bv
namespace Lw
open PySem PySem.Spec L2 Bv
open PyProof.Rows hiding St
variable [HasW]
section
variable {κ α β:Type} [DecidableEq κ]
def lk (l:List (κ × α)) (k:κ):Option α:=(l.find? fun p=>decide (p.1=k)).map (·.2)
def pt (l:List (κ × α)) (k:κ) (v:α):List (κ × α):=if (l.any fun p=>decide (p.1=k))=true then l.map (fun p=>if p.1=k then (p.1,v) else p) else l++[(k,v)]
theorem Z7a {p:κ × α} {l:List (κ × α)} {k:κ}:lk (p :: l) k=if p.1=k then some p.2 else lk l k:=by
  unfold lk
  rw [List.find?_cons]
  by_cases h:p.1=k
  · simp [h]
  · simp [h]
theorem X8q {k:κ}:lk ([]:List (κ × α)) k=none:=rfl
theorem Y6z {l:List (κ × α)} {k:κ}:(l.any fun p=>decide (p.1=k))=(lk l k).isSome:=by
  induction l with
  | nil=>rfl
  | cons p r ih =>
    rw [List.any_cons,Z7a,ih]
    by_cases h:p.1=k <;> simp [h]
theorem W4m {l:List (κ × α)} {k k2:κ} {v:α}:lk (l.map fun p=>if p.1=k then (p.1,v) else p) k2=if k2=k then (lk l k).map (fun _=>v) else lk l k2:=by
  induction l with
  | nil=>simp [X8q]
  | cons p r ih =>
    rw [List.map_cons,Z7a,Z7a,Z7a,ih]
    by_cases h:p.1=k
    · rw [if_pos h]
      by_cases h2:k2=k
      · subst h2; simp [h]
      · simp [h2,h,Ne.symm h2]
    · rw [if_neg h]
      by_cases h2:k2=k
      · subst h2; simp [h]
      · simp [h2,h]
theorem W4l {l m:List (κ × α)} {k:κ}:lk (l++m) k=(lk l k).or (lk m k):=by
  induction l with
  | nil=>rfl
  | cons p r ih =>
    rw [List.cons_append,Z7a,Z7a,ih]
    split <;> rfl
theorem W0y {l:List (κ × α)} {k k2:κ} {v:α}:lk (pt l k v) k2=if k2=k then some v else lk l k2:=by
  unfold pt
  rw [Y6z]
  split
  · rename_i h
    rw [W4m]
    split
    · obtain ⟨a,ha⟩:=Option.isSome_iff_exists.mp h
      rw [ha]; rfl
    · rfl
  · rename_i h
    have h2:lk l k=none:=by cases q:lk l k with
      | none=>rfl
      | some v=>rw [q] at h; exact absurd rfl h
    rw [W4l,Z7a,X8q]
    by_cases h3:k2=k
    · subst h3; simp [h2]
    · rw [if_neg (Ne.symm h3),if_neg h3,Option.or_none]
theorem W5r {l:List (κ × α)} {k:κ} {v:α}:(pt l k v).length ≤ l.length + 1:=by
  unfold pt
  split
  · rw [List.length_map]; omega
  · simp
theorem X6g {kf:κ→D} (hk:∀ a b,kf a=kf b→a=b) (g:α→β) {l:List (κ × α)} {k:κ}:Z2j (l.map fun p=>(kf p.1,g p.2)) (kf k)=(lk l k).map g:=by
  unfold Z2j
  induction l with
  | nil=>rfl
  | cons p r ih =>
    rw [List.map_cons,List.find?_cons,Z7a]
    by_cases h:p.1=k
    · simp [h]
    · have h2:¬ kf p.1=kf k:=fun e=>h (hk _ _ e)
      simp only [h2,decide_false,h,if_false]
      exact ih
theorem W11 {kf:κ→D} (hk:∀ a b,kf a=kf b→a=b) (g:α→β) {l:List (κ × α)} {k:κ} {v:α}:Z6d (l.map fun p=>(kf p.1,g p.2)) (kf k) (g v)=(pt l k v).map fun p=>(kf p.1,g p.2):=by
  unfold Z6d pt
  have h:((l.map fun p=>(kf p.1,g p.2)).any fun p=>decide (p.1=kf k))=l.any fun p=>decide (p.1=k):=by
    rw [List.any_map]
    congr 1
    funext p
    show decide (kf p.1=kf k)=decide (p.1=k)
    by_cases q:p.1=k
    · simp [q]
    · have q2:¬ kf p.1=kf k:=fun e=>q (hk _ _ e)
      simp [q,q2]
  rw [h]
  split
  · rw [List.map_map,List.map_map]
    refine List.map_congr_left fun p _=>?_
    show (if kf p.1=kf k then (kf p.1,g v) else (kf p.1,g p.2))=(fun p:κ × α=>(kf p.1,g p.2)) (if p.1=k then (p.1,v) else p)
    by_cases q:p.1=k
    · rw [if_pos (by rw [q]),if_pos q]
    · rw [if_neg fun e=>q (hk _ _ e),if_neg q]
  · rw [List.map_append]; rfl
end
theorem Z44:∀ a b:Str,D.str a=D.str b→a=b:=fun _ _ h=>by cases h; rfl
theorem Y1y {S:Sto} {n:Nat} {kvs:List (D × X)} (h:S[n]?=some (.dic kvs)):Z67 S (.r n)=some kvs:=by
  show (match S[n]? with
    | some (.dic kvs)=>some kvs
    | some (.fdc kvs)=>some kvs
    | _=>none)=_
  rw [h]
theorem dk_of {S:Sto} {x:X} {kvs:List (D × X)} {k:D} (h:Z67 S x=some kvs) (hk:k.key?.isSome=true):dkX S x (.d k)=some (kvs,k):=by
  unfold dkX
  rw [h]
  show (if k.key?.isSome then some (kvs,k) else none)=_
  rw [if_pos hk]
theorem X4f {S:Sto} {n:Nat} {kvs:List (D × X)} {k:D} (h:S[n]?=some (.dic kvs)) (hk:k.key?.isSome=true) (hl:kvs.length < sizeLine):Z8b S (.r n) (.d k)=some (n,kvs,k):=by
  unfold Z8b
  show (match S[n]? with
    | some (.dic kvs)=>(match X.d k with
      | .d k=>if k.key?.isSome && decide (kvs.length < sizeLine) then some (n,kvs,k) else none
      | .r _=>none)
    | _=>none)=_
  rw [h]
  show (if k.key?.isSome && decide (kvs.length < sizeLine) then some (n,kvs,k) else none)=_
  rw [if_pos (by rw [hk,decide_eq_true hl]; rfl)]
end Lw
namespace Bv
open PySem PySem.Spec L2
open PyProof.Rows hiding St
variable [HasW]
section
variable {T:Sto}
theorem X5l {α:Type} {l:List α} (h:l ≠ []):atI l (-1)=l.getLast?:=by
  have hl:0 < l.length:=List.length_pos_iff.mpr h
  have e:ixN l.length (-1)=some (l.length - 1):=by
    unfold ixN
    rw [if_neg (by decide),if_pos (by omega)]
    congr 1
    omega
  unfold atI
  rw [e,Option.bind_some,List.getLast?_eq_getElem?]
theorem X6e {S:Sto} {n:Nat} {xs:List X} {x:X} (hs:S[n]?=some (.lst xs)) (h:xs.getLast?=some x):ixO S (.r n) (-1)=some x:=by
  have hn:xs ≠ []:=fun z=>by rw [z] at h; cases h
  have e:items S (.r n)=some xs:=by simp [items,hs]
  unfold ixO
  rw [e]
  show atI xs (-1)=_
  rw [X5l hn,h]
end
end Bv
namespace Bv
open PySem PySem.Spec L2
open PyProof.Rows hiding St
variable [HasW]
def Y0t (ks:List Str) (w:Str):List Str:=if w ∈ ks then ks else ks++[w]
theorem X9n {ks:List Str} {w:Str} (h:ks.Nodup):(Y0t ks w).Nodup:=by
  unfold Y0t
  split
  · exact h
  · rename_i n
    rw [List.nodup_append]
    exact ⟨h,by simp,fun a ha b hb e=>n (by rw [← List.mem_singleton.mp hb,← e]; exact ha)⟩
end Bv
namespace Lw
open PySem PySem.Spec L2 Bv
open PyProof.Rows hiding St
variable [HasW]
def dkD (ks:List Str):List (D × D):=ks.map fun w=>(.str w, .bl true)
def Z4d (ss:List Str):List Str:=ss.foldl Y0t []
theorem W12 {ks:List Str} {w:Str}:Z6d (dkD ks) (.str w) (.bl true)=dkD (Y0t ks w):=by
  unfold Y0t
  split
  · rename_i h
    refine W13 (fun p hp _=>?_) ⟨(.str w, .bl true),List.mem_map.mpr ⟨w,h,rfl⟩,rfl⟩
    obtain ⟨x,_,rfl⟩:=List.mem_map.mp hp
    rfl
  · rename_i h
    rw [Y2q fun p hp e=>?_]
    · unfold dkD
      rw [List.map_append]
      rfl
    · obtain ⟨x,hx,rfl⟩:=List.mem_map.mp hp
      have e:D.str x=D.str w:=e
      injection e with e
      exact h (e ▸ hx)
theorem X5j {ks:List Str} {w:Str}:(Y0t ks w).length ≤ ks.length + 1:=by
  unfold Y0t
  split
  · omega
  · rw [List.length_append,List.length_singleton]; exact Nat.le_refl _
theorem Y5m:∀ {ws ks:List Str} {x:Str},x ∈ ws.foldl Y0t ks ↔ x ∈ ks ∨ x ∈ ws
  | [],_,_=>by simp
  | w :: ws,ks,x=>by
    rw [List.foldl_cons,Y5m (ws:=ws)]
    unfold Y0t
    split
    · rename_i h
      rw [List.mem_cons]
      exact ⟨fun z=>z.elim .inl fun z => .inr (.inr z),fun z=>z.elim .inl fun z=>z.elim (fun e => .inl (e ▸ h)) .inr⟩
    · rw [List.mem_append,List.mem_singleton,List.mem_cons,or_assoc]
theorem Z76 {ss:List Str} {x:Str}:x ∈ Z4d ss ↔ x ∈ ss:=by
  unfold Z4d
  rw [Y5m]
  simp
theorem Y81 {α:Type} {t:Tg} {mk mv:M} {e:Ev} {S:Sto} (x:α→X) (k:α→Str):∀ {l:List α} {acc:List Str},(∀ a ∈ l,PyData.strOk (k a)=true)→acc.length + l.length < 1000→(∀ a ∈ l,∃ e1,t.asg S (x a) e=some e1∧mk e1 S = .ok (.d (.str (k a))) S∧mv e1 S = .ok (.d (.bl true)) S) →
    dcL t .free W8 mk mv e (dkD acc) (l.map x) S = .ok (dkD ((l.map k).foldl Y0t acc)) S
  | [],acc,_,_,_=>by
    rw [List.map_nil]
    unfold dcL
    exact if_pos rfl
  | a :: l,acc,hk,hl,h=>by
    obtain ⟨e1,h1,h2,h3⟩:=h a (by simp)
    rw [List.length_cons] at hl
    have hal:=X5j (ks:=acc) (w:=k a)
    have ih:=Y81 (t:=t) (mk:=mk) (mv:=mv) (e:=e) (S:=S) x k (l:=l) (acc:=Y0t acc (k a)) (fun b hb=>hk b (List.mem_cons_of_mem _ hb)) (by omega) (fun b hb=>h b (List.mem_cons_of_mem _ hb))
    have hc:dcK (dkD acc) (.d (.str (k a))) (.d (.bl true))=some (dkD (Y0t acc (k a))):=by
      unfold dcK
      show (if (D.str (k a)).key?.isSome && (Z7n (.str (k a)) && decide ((dkD acc).length < sizeLine)) then some (Z6d (dkD acc) (.str (k a)) (.bl true)) else none)=_
      rw [show (D.str (k a)).key?.isSome=true from rfl,show Z7n (.str (k a))=PyData.strOk (k a) from rfl,hk a (by simp),decide_eq_true (show (dkD acc).length < sizeLine by unfold dkD; rw [List.length_map,sizeLine_eq]; omega),W12]
      rfl
    rw [List.map_cons,List.map_cons,List.foldl_cons]
    simp only [dcL,Lk.ok,if_true,h1,W8,R.ne,R.bind,h2,h3,hc]
    exact ih
theorem X9y {α:Type} {t:Tg} {mi:MIt} {mk mv:M} {vs:List Nat} {e:Ev} {S:Sto} (x:α→X) (k:α→Str) {l:List α} (hi:mi e S = .ok (l.map x, .free) S) (hl:l.length < 100) (hk:∀ a ∈ l,PyData.strOk (k a)=true)
    (h:∀ a ∈ l,∃ e1,t.asg S (x a) (Z0s e vs)=some e1∧mk e1 S = .ok (.d (.str (k a))) S∧mv e1 S = .ok (.d (.bl true)) S):X0m t mi W8 mk mv vs e S = .ok (.d (.dic (dkD (Z4d (l.map k))))) S:=by
  unfold X0m
  rw [hi]
  show ((dcL t .free W8 mk mv (Z0s e vs) (dkD []) (l.map x) S).bind fun kvs S2=>R.ok (X.d (.dic kvs)) S2)=_
  rw [Y81 x k hk (by rw [List.length_nil]; omega) h]
  rfl
theorem Y9b:∀ {ws ks:List Str},ks.Nodup→(ws.foldl Y0t ks).Nodup
  | [],_,h=>h
  | w :: ws,ks,h=>Y9b (ws:=ws) (X9n h)
theorem Y45 {ss:List Str}:(Z4d ss).Nodup:=Y9b (by simp)
theorem Y5n:∀ {ws ks:List Str},∃ r,ws.foldl Y0t ks=ks++r
  | [],ks=>⟨[],by simp⟩
  | w :: ws,ks=>by
    obtain ⟨r,e⟩:=Y5n (ws:=ws) (ks:=Y0t ks w)
    rw [List.foldl_cons,e]
    unfold Y0t
    split
    · exact ⟨r,rfl⟩
    · exact ⟨[w]++r,by rw [List.append_assoc]⟩
theorem X5a {a:Str} {l:List Str}:∃ r,Z4d (a :: l)=a :: r:=by
  obtain ⟨r,e⟩:=Y5n (ws:=l) (ks:=[a])
  refine ⟨r,?_⟩
  unfold Z4d
  rw [List.foldl_cons]
  exact e
end Lw
namespace Lw
open PySem PySem.Spec L2 Bv
open PyProof.Rows hiding St
variable [HasW]
def W92:MS:=(X2 3 (Y2 Y7p (Z8 Z2i (Z0 (Y2 Z4e (Y2 Z4e (Y2 X3n (Z1 3) (m_c (.int 30323))) (Y2 Y7p (Z8 Z2i (Z0 (Z1 4) Z7)) (m_c (.int 2147483477)))) (m_c (.int 23))) Z7)) (m_c (.int 2147483647))))
def ls:MS:=(Z9 (X2 2 (Z14 (.nm 4) (V7 (Y6 (Z1 0) (X4 (Z1 1)) (X4 (m_c (.int 62))))) W8 (Z8 (Q7 Z3f) (Z0 (Z8 Z2i (Z0 (Z1 4) Z7)) Z7)) [4])) (Z9 (X2 3 (Y2 Z4e (m_c (.int 71283599)) (Y2 X3n (m_c (.int 59)) (Z1 1)))) (Z9 (Z1f (.nm 4) (V7 (Z1 2)) W92) (Q1 (Y4n "great" "stirred" (Y5u (Z14 (.nm 4) (V7 (Z1 2)) (U3 (Y2 geD (Z1 4) (Y2 W3d (m_c (.int 10)) (m_c (.int 18))))) (Z1 4) [4])) (Z1 3))))))
theorem W7y:Z43=ls:=by kernel_rfl
def W91:MS:=(W0 (Z1s V8 Y0l (Z1 2) Z7))
def ld:MS:=(Z9 (X2 2 (Z0t (Z1 0) (m_c (.str "great")))) (Z9 (Z7o (W4 (U3 (Y2 neD (Z1 2) (V3 (Z7)))) (U3 (Y2 eqD (V5 (Z1 2) (Y5t (m_c (.int 1)))) (m_c (.int 0))))) W91) (Z9 (Z0r (U3 (Y2 neD (Z1 2) (V3 Z7))) (Z9 (X2 3 (Z1s V8 Y0l (Z1 2) Z7)) (Z9 (W0 (Z1s V8 U4 (Z1 2) (Z0 (Y2 Y7c (Z1 3) (Z1 1)) Z7))) (Q1 (Y2 Y7p (Z8 Z2i (Z0 (Z1 3) Z7)) (Z1 1))))) W7) (Z9 (Z42 (Z1 0) (m_c (.str "stirred")) (Y2 Y7p (Z8 Z2i (Z0 (Y2 Z4e (Y2 X3n (Z0t (Z1 0) (m_c (.str "stirred"))) (m_c (.int 30323))) (m_c (.int 47))) Z7)) (m_c (.int 2147483647)))) (Q1 (Y2 Y7p (Z8 Z2i (Z0 (Y2 Y7c (Z0t (Z1 0) (m_c (.str "stirred"))) (m_c (.int 64))) Z7)) (Z1 1)))))))
theorem W7u:Z6o=ld:=by kernel_rfl
def glO (gs:List Int):O := .lst (gs.map fun g=>X.d (.int g))
def dlK (b:Nat) (s:Int):List (D × X):=[(.str "great", .r b),(.str "stirred", .d (.int s))]
def dlO (b:Nat) (s:Int):O := .dic (dlK b s)
theorem W0h:¬ (Str.ofString "great" = Str.ofString "stirred"):=by decide +kernel
def DOk (gs:List Int) (s:Int):Prop:=0 ≤ s∧(∀ g ∈ gs,0 ≤ g)∧gs.length < 100
def Z62 (S:Sto) (b:Nat):Prop:=∃ gs s,S[b]?=some (glO gs)∧S[b + 1]?=some (dlO b s)∧DOk gs s
def Z6i (S:Sto) (b:Nat) (S2:Sto):Prop:=∃ gs s,S2=(S.set b (glO gs)).set (b + 1) (dlO b s)∧DOk gs s
theorem X80 {n:Nat} (gs:List Int):okO n (glO gs)=true:=by
  show (gs.map fun g=>X.d (.int g)).all (okX n)=true
  rw [List.all_map]
  exact List.all_eq_true.mpr fun _ _=>rfl
theorem W7b {b:Nat} {s:Int}:Y5h "great" "stirred" (.r b) (.d (.int s))=dlK b s:=by
  unfold Y5h Z6d dlK
  simp [W0h]
theorem X8z {n b:Nat} {s:Int} (h:b < n):okO n (dlO b s)=true:=by
  show ([(D.str "great",X.r b),(D.str "stirred",X.d (.int s))].all fun p=>okX n p.2)=true
  simp [okX,h]
theorem Z62.lt {S:Sto} {b:Nat} (h:Z62 S b):b + 1 < S.length:=by
  obtain ⟨gs,s,_,e,_⟩:=h
  exact (List.getElem?_eq_some_iff.mp e).1
theorem Z6i.len {S S2:Sto} {b:Nat} (d:Z6i S b S2):S2.length=S.length:=by
  obtain ⟨gs,s,rfl,_⟩:=d
  simp
theorem Z6i.ok {S S2:Sto} {b:Nat} (d:Z6i S b S2) (h:OkS S) (hl:b + 1 < S.length):OkS S2:=by
  obtain ⟨gs,s,rfl,_⟩:=d
  exact (h.set (X80 gs)).set (X8z (by simp; omega))
theorem Z6i.at_ {S S2:Sto} {b:Nat} (d:Z6i S b S2) (hl:b + 1 < S.length):Z62 S2 b:=by
  obtain ⟨gs,s,rfl,h⟩:=d
  exact ⟨gs,s,by rw [List.getElem?_set_ne (by omega),List.getElem?_set_self (by omega)],by rw [List.getElem?_set_self (by simp; omega)],h⟩
theorem Z6i.other {S S2:Sto} {b c:Nat} (d:Z6i S b S2) (h:c ≠ b) (h2:c ≠ b + 1):S2[c]?=S[c]?:=by
  obtain ⟨gs,s,rfl,_⟩:=d
  rw [List.getElem?_set_ne (by omega),List.getElem?_set_ne (by omega)]
theorem X4m {S:Sto} {b:Nat} {o o2:O}:(S.set (b + 1) o).set b o2=(S.set b o2).set (b + 1) o:=List.set_comm _ _ (by omega)
theorem Z6i.trans {S S2 S3:Sto} {b:Nat} (d:Z6i S b S2) (d2:Z6i S2 b S3):Z6i S b S3:=by
  obtain ⟨gs,s,rfl,_⟩:=d
  obtain ⟨gs2,s2,rfl,h⟩:=d2
  exact ⟨gs2,s2,by rw [X4m,List.set_set,List.set_set],h⟩
theorem Y82 {S:Sto} {b:Nat} {gs gs2:List Int} {s:Int} (e2:S[b + 1]?=some (dlO b s)) (h:DOk gs2 s):Z6i S b (S.set b (glO gs2)):=by
  refine ⟨gs2,s,?_,h⟩
  have hb:=(List.getElem?_eq_some_iff.mp e2).1
  refine List.ext_getElem? fun i=>?_
  by_cases hi:b + 1=i
  · subst hi
    rw [List.getElem?_set_self (by simp; omega),List.getElem?_set_ne (by omega),e2]
  · rw [List.getElem?_set_ne hi]
theorem W0d (gs:List Int):fl 1 (.lst (gs.map D.int))=true:=by
  show (gs.map D.int).all (fl 0)=true
  rw [List.all_map]
  exact List.all_eq_true.mpr fun _ _=>rfl
theorem X2v {S:Sto} {b:Nat} {gs:List Int} (e:S[b]?=some (glO gs)):(X.r b).get S=some (.lst (gs.map D.int)):=by
  refine X2w (ds:=gs.map D.int) ?_
  rw [e,List.map_map]
  rfl
theorem W1h {S:Sto} {gs:List Int}:neD (.lst (gs.map D.int)) (.lst [])=some (.bl (!decide (gs=[]))):=by
  rw [W42 (W0d gs) rfl (by decide)]
  congr 2
  cases gs <;> simp
theorem X84 {S:Sto} {b:Nat} {gs:List Int} {g:Int} (e:S[b]?=some (glO (gs++[g]))):Y0l (.r b) [] S = .ok (.d (.int g)) (S.set b (glO gs)):=by
  have h:Z0l S (.r b)=some (b,(gs++[g]).map fun g=>X.d (.int g)):=by
    show (match S[b]? with
      | some (.lst xs)=>some (b,xs)
      | _=>none)=_
    rw [e]
    rfl
  unfold Y0l
  rw [h]
  simp [glO]
theorem W3m {S:Sto} {b:Nat} {gs:List Int} {g:Int} (e:S[b]?=some (glO gs)) (hl:gs.length < 100):U4 (.r b) [.d (.int g)] S = .ok (.d .non) (S.set b (glO (gs++[g]))):=by
  rw [Y1k e (by rw [List.length_map,sizeLine_eq]; omega)]
  simp [glO]
theorem W0v {S:Sto} {b:Nat} {gs:List Int} {g:Int} (e:S[b]?=some (glO (gs++[g]))):ixO S (.r b) (-1)=some (.d (.int g)):=by
  refine X6e e ?_
  simp
theorem Y4i {S:Sto} {b:Nat} {gs:List Int} (e:S[b]?=some (glO gs)):V8 S (.r b)=true:=Z5q e
theorem Y9q {α:Type} {l:List α} (h:l ≠ []):∃ m a,l=m++[a]:=⟨l.dropLast,l.getLast h,(List.dropLast_concat_getLast h).symm⟩
theorem DOk.drop {gs:List Int} {g s:Int} (h:DOk (gs++[g]) s):DOk gs s:=⟨h.1,fun x hx=>h.2.1 x (List.mem_append_left _ hx),by have:=h.2.2; simp at this; omega⟩
theorem X2e {S:Sto} {b:Nat} {s:Int} (e:S[b + 1]?=some (dlO b s)):Z67 S (.r (b + 1))=some (dlK b s):=by
  show (match S[b + 1]? with
    | some (.dic kvs)=>some kvs
    | some (.fdc kvs)=>some kvs
    | _=>none)=_
  rw [e]
  rfl
theorem X54 {b:Nat} {s:Int}:Z2j (dlK b s) (.str "great")=some (.r b):=by
  unfold Z2j dlK
  simp
theorem X1i {b:Nat} {s:Int}:Z2j (dlK b s) (.str "stirred")=some (.d (.int s)):=by
  unfold Z2j dlK
  simp [W0h]
theorem X55 {S:Sto} {b:Nat} {s:Int} (e:S[b + 1]?=some (dlO b s)):Z9c S (.r (b + 1)) (.d (.str "great")) = .ok (.r b) S:=by
  unfold Z9c dkX
  rw [X2e e]
  show Z04 (Z2j (dlK b s) (.str "great")) S=_
  rw [X54]
  rfl
theorem Y30 {S:Sto} {b:Nat} {s:Int} (e:S[b + 1]?=some (dlO b s)):Z9c S (.r (b + 1)) (.d (.str "stirred")) = .ok (.d (.int s)) S:=by
  unfold Z9c dkX
  rw [X2e e]
  show Z04 (Z2j (dlK b s) (.str "stirred")) S=_
  rw [X1i]
  rfl
theorem X7q {b:Nat} {s t:Int}:Z6d (dlK b s) (.str "stirred") (.d (.int t))=dlK b t:=by
  unfold Z6d dlK
  simp [W0h]
theorem X2g {S:Sto} {b:Nat} {m:Int} (hS:OkS S) (hb:Z62 S b) (hm:0 < m∧m < 1073741824):∃ (d:Int) (S2:Sto),g__law_draw [.r (b + 1), .d (.int m)] S = .ok (.d (.int d)) S2∧0 ≤ d∧d < m∧Z6i S b S2:=by
  have hl:=hb.lt
  suffices h:Fw (Z6o (ev0 4 [.r (b + 1), .d (.int m)]) S) (fun r=>∃ (d:Int) (S2:Sto),r = .go (.rt (.d (.int d))) S2∧0 ≤ d∧d < m∧Z6i S b S2) by
    obtain ⟨d,S2,e,h0,h1,dl⟩:=h
    refine ⟨d,S2,Z85 e rfl ?_,h0,h1,dl⟩
    have:=(dl.ok hS hl).cut0
    rw [dl.len] at this
    exact this
  obtain ⟨gs,s,e1,e2,hd⟩:=id hb
  rw [W7u]
  unfold ld
  refine Fw.set (x := .r b) (S1:=S) (Z2t (Z6 rfl) U0 (X55 e2)) ?_
  have bw:∀ (gs2:List Int),(S.set b (glO gs2))[b + 1]?=some (dlO b s):=fun gs2=>by rw [List.getElem?_set_ne (by omega)]; exact e2
  have bb:∀ (gs2:List Int),(S.set b (glO gs2))[b]?=some (glO gs2):=fun gs2=>List.getElem?_set_self (by omega)
  have bs:∀ (gs2 gs3:List Int),(S.set b (glO gs2)).set b (glO gs3)=S.set b (glO gs3):=fun _ _=>List.set_set ..
  have hSS:S=S.set b (glO gs):=by
    refine (List.ext_getElem? fun i=>?_)
    by_cases hi:b=i
    · subst hi
      rw [List.getElem?_set_self (by omega),e1]
    · rw [List.getElem?_set_ne hi]
  refine Fw.while_ gs.length (by have:=hd.2.2; omega) (fun n e T=>∃ gs2 o3,n=gs2.length∧e=[some (.r (b + 1)),some (.d (.int m)),some (.r b),o3]∧T=S.set b (glO gs2)∧DOk gs2 s) (fun e T=>∃ gs2 o3,e=[some (.r (b + 1)),some (.d (.int m)),some (.r b),o3]∧T=S.set b (glO gs2)∧DOk gs2 s) ⟨gs,_,rfl,rfl,hSS,hd⟩ ?_ ?_
  · rintro n e T ⟨gs2,o3,rfl,rfl,rfl,hd2⟩
    by_cases hg:gs2=[]
    · subst hg
      refine ⟨false,_,X2m (Z1z (W2 (Z6 rfl) (Z3v (ds:=[]) Y3 rfl (by decide)) (X2v (bb _)) Y5 (W1h (S:=S)))),fun _=>⟨_,_,rfl,rfl,hd2⟩,fun q=>(nomatch q)⟩
    · obtain ⟨gs3,g,rfl⟩:=Y9q hg
      refine ⟨decide (g=0),S.set b (glO (gs3++[g])),?_,fun _=>⟨_,_,rfl,rfl,hd2⟩,fun _=>⟨gs3.length,by simp,?_⟩⟩
      · refine X2n (Z1z (W2 (Z6 rfl) (Z3v (ds:=[]) Y3 rfl (by decide)) (X2v (bb _)) Y5 ((W1h (S:=S)).trans ?_))) (Z1z (W2 (Z0a (j:=-1) (Z6 rfl) rfl (W0v (bb _))) U0 Y5 Y5 Y10))
        simp
      · exact Fw.one (Fw.expr (Y21 (Z6 rfl) (Y4i (bb _)) Y3 (X84 (bb _))) (Fw.nil (.nx ⟨gs3,_,rfl,rfl,bs _ _,hd2.drop⟩)))
  · rintro e T ⟨gs2,o3,rfl,rfl,hd2⟩
    refine Fw.if_ (b := !decide (gs2=[])) (Z1z (W2 (Z6 rfl) (Z3v (ds:=[]) Y3 rfl (by decide)) (X2v (bb _)) Y5 (W1h (S:=S)))) (Fw.ifc (fun hg=>?_) fun hg=>?_)
    · obtain ⟨gs3,g,rfl⟩:=Y9q (l:=gs2) (by simpa using hg)
      refine Fw.seqSeq (Fw.set (Y21 (Z6 rfl) (Y4i (bb _)) Y3 (X84 (bb _))) ?_)
      rw [bs]
      have g0:0 ≤ g:=hd2.2.1 g (by simp)
      have g1:gs3.length + 1 < 100:=by have:=hd2.2.2; simpa using this
      refine Fw.seqSeq (Fw.expr (Y21 (Z6 rfl) (Y4i (bb _)) (Z5 (W2 (Z6 rfl) (Z6 rfl) Y5 Y5 (X78 hm)) Y3) (W3m (bb _) (by omega))) ?_)
      rw [bs]
      refine Fw.ret (W2 (X5 (Z5 (Z6 rfl) Y3) rfl) (Z6 rfl) Y5 Y5 (X3k hm.1)) ⟨_,_,rfl,Int.emod_nonneg _ (by omega),Int.emod_lt_of_pos _ hm.1,Y82 (gs:=gs) e2 ⟨hd2.1,fun x hx=>?_,by simp; omega⟩⟩
      rcases List.mem_append.mp hx with h | h
      · exact hd2.2.1 x (List.mem_append_left _ h)
      · rw [List.mem_singleton.mp h]; exact Int.ediv_nonneg g0 (by omega)
    · refine Fw.seqNil ?_
      generalize hT:S.set b (glO gs2)=T
      have t2:T[b + 1]?=some (dlO b s):=by rw [← hT]; exact bw _
      have tl:T.length=S.length:=by rw [← hT]; simp
      have q2:X3n (.int s) (.int 30323)=some (.int (s * 30323)):=W41 (by decide)
      have q3:∀ i:Int,Y7p (.int i) (.int 2147483647)=some (.int (i % 2147483647)):=fun i=>X3k (by decide)
      have hp:Z8b T (.r (b + 1)) (.d (.str "stirred"))=some (b + 1,dlK b s, .str "stirred"):=by
        show (match T[b + 1]? with
          | some (.dic kvs)=>(match X.d (.str "stirred") with
            | .d k=>if k.key?.isSome && decide (kvs.length < sizeLine) then some (b + 1,kvs,k) else none
            | .r _=>none)
          | _=>none)=_
        rw [t2]
        show (if (true && decide (2 < sizeLine))=true then _ else _)=_
        rw [if_pos (by rw [sizeLine_eq]; decide)]
      refine Fw.dput (p:=(b + 1,dlK b s, .str "stirred")) (z := .d (.int ((s * 30323 + 47) % 2147483647))) (W2 (X5 (Z5 (W2 (W2 (Z2t (Z6 rfl) U0 (Y30 t2)) U0 Y5 Y5 q2) U0 Y5 Y5 Z0e) Y3) rfl) U0 Y5 Y5 (q3 _)) (Z6 rfl) U0 hp ?_
      rw [show (b + 1,dlK b s,D.str "stirred").1=b + 1 from rfl,show (b + 1,dlK b s,D.str "stirred").2.1=dlK b s from rfl,show (b + 1,dlK b s,D.str "stirred").2.2 = .str "stirred" from rfl,X7q]
      have q4:∀ i:Int,Y7c (.int i) (.int 64)=some (.int (i / 64)):=fun i=>X78 (by decide)
      have t3:(T.set (b + 1) (dlO b ((s * 30323 + 47) % 2147483647)))[b + 1]?=some (dlO b ((s * 30323 + 47) % 2147483647)):=List.getElem?_set_self (by omega)
      refine Fw.one (Fw.ret (W2 (X5 (Z5 (W2 (Z2t (Z6 rfl) U0 (Y30 t3)) U0 Y5 Y5 (q4 _)) Y3) rfl) (Z6 rfl) Y5 Y5 (X3k hm.1)) ⟨_,_,rfl,Int.emod_nonneg _ (by omega),Int.emod_lt_of_pos _ hm.1,gs2,(s * 30323 + 47) % 2147483647,by rw [hT]; rfl,Int.emod_nonneg _ (by decide),hd2.2⟩)
theorem W1x {S:Sto} {b:Nat} {ds:List D} (hS:OkS S) (hb:Z62 S b) (h0:ds ≠ []) (hl:ds.length < 1073741824):∃ (d:D) (S2:Sto),g__law_pick [.r (b + 1), .d (.lst ds)] S = .ok (.d d) S2∧d ∈ ds∧Z6i S b S2:=by
  have h1:0 < ds.length:=List.length_pos_iff.mpr h0
  obtain ⟨i,S2,e,i0,i1,dr⟩:=X2g (m:=ds.length) hS hb (by omega)
  obtain ⟨d,q,hm⟩:=X7x (l:=ds) i0 i1
  have hc:=(dr.ok hS hb.lt).cut0
  rw [dr.len] at hc
  refine ⟨d,S2,?_,hm,dr⟩
  unfold g__law_pick
  refine Z85 (x := .d d) (X4v (Z0a (Z6 rfl) (X5 (Z5 (Z6 rfl) (Z5 (X5 (Z5 (Z6 rfl) Y3) W4j) Y3)) (Q8 rfl e)) ?_)) rfl hc
  show (atI (ds.map X.d) i)=_
  unfold atI at q ⊢
  rw [List.length_map]
  cases h:ixN ds.length i with
  | none=>rw [h] at q; cases q
  | some j =>
    rw [h] at q
    show (ds.map X.d)[j]?=_
    rw [List.getElem?_map,show ds[j]?=some d from q]
    rfl
end Lw
namespace Lw
open PySem PySem.Spec L2 Bv
open PyProof.Rows hiding St
variable [HasW]
def W6q (i:Int):Int:=if i < 0 then -i else i
theorem X9m (i:Int):0 ≤ W6q i:=by unfold W6q; omega
theorem W8e:W3d (.int 10) (.int 18)=some (.int 1000000000000000000):=by
  show (if CPow 10 18 then some (D.int (10 ^ (18:Int).toNat)) else none)=_
  rw [if_pos (by unfold CPow; decide)]
  rfl
theorem Y4b {α:Type} (xs:List α) (lo hi:Option Int):(Z4w xs lo hi).length ≤ xs.length:=by
  unfold Z4w
  rw [List.length_take,List.length_drop]
  omega
theorem Y06 (cs:List Int):cs.map (fun i=>X.d (.int i))=(cs.map D.int).map X.d:=by rw [List.map_map]; rfl
theorem X4r {S:Sto} {ns:List Int} {k:Int} (hS:OkS S) (hn:ns.length ≤ 63) (hk:0 ≤ k):∃ S2,g__law_source [.d (.scr ns), .d (.int k)] S = .ok (.r (S.length + 1)) S2∧(∃ o1 o2,S2=S++[o1,o2])∧OkS S2∧Z62 S2 S.length:=by
  suffices h:Fw (Z43 (ev0 5 [.d (.scr ns), .d (.int k)]) S) (fun r=>∃ gs s,r = .go (.rt (.r (S.length + 1))) (S++[glO gs]++[dlO S.length s])∧DOk gs s) by
    obtain ⟨gs,s,e,hd⟩:=h
    refine ⟨S++[glO gs]++[dlO S.length s],?_,⟨_,_,by rw [List.append_assoc]; rfl⟩,(hS.push (X80 gs)).push (X8z (by simp; omega)),gs,s,by simp,by simp,hd⟩
    unfold g__law_source W8l
    rw [e]
    rfl
  rw [W7y]
  unfold ls
  generalize hc:(Z4w ns (some k) (some 62)).map W6q=cs
  have hl:cs.length ≤ 63:=by
    rw [← hc,List.length_map]
    exact Nat.le_trans (Y4b _ _ _) hn
  have hnn:∀ g ∈ cs,0 ≤ g:=fun g hg=>by
    rw [← hc] at hg
    obtain ⟨i,_,rfl⟩:=List.mem_map.mp hg
    exact X9m i
  have e1:Z14 (.nm 4) (V7 (Y6 (Z1 0) (X4 (Z1 1)) (X4 (m_c (.int 62))))) (W8) (Z8 (Q7 Z3f) (Z0 (Z8 Z2i (Z0 (Z1 4) (Z7))) (Z7))) [4] (ev0 5 [.d (.scr ns), .d (.int k)]) S = .ok (.d (.lst (cs.map D.int))) S:=by
    rw [← hc,List.map_map]
    refine Z4f (fun i=>X.d (.int i)) (D.int ∘ W6q) (l:=Z4w ns (some k) (some 62)) ?_ (hz4 (by have:=Y4b ns (some k) (some 62); omega)) (fun i hi=>⟨_,rfl,X5 (Z5 (X5 (Z5 (Z6 rfl) Y3) rfl) Y3) rfl⟩)
    refine Z13 (Z26 (Z6 rfl) (Z38 (Z6 rfl)) (Z38 U0) rfl) ?_
    rw [Y06]
    rfl
  refine Fw.set e1 ?_
  refine Fw.set (W2 U0 (W2 U0 (Z6 rfl) Y5 Y5 (W77 (by decide))) Y5 Y5 Z0e) ?_
  have q1:∀ i:Int,X3n (.int i) (.int 30323)=some (.int (i * 30323)):=fun i=>W41 (by decide)
  have q2:∀ i:Int,Y7p (.int i) (.int 2147483477)=some (.int (i % 2147483477)):=fun i=>X3k (by decide)
  have q3:∀ i:Int,Y7p (.int i) (.int 2147483647)=some (.int (i % 2147483647)):=fun i=>X3k (by decide)
  refine Fw.for_ (l:=cs) (f:=fun i=>X.d (.int i)) (S1:=S) (Z13 (Z6 rfl) (by rw [Y06]; rfl)) (fun _ e T=>∃ s o4,0 ≤ s∧T=S∧e=[some (.d (.scr ns)),some (.d (.int k)),some (.d (.lst (cs.map D.int))),some (.d (.int s)),o4]) (fun _ _=>False) ⟨_,_,by omega,rfl,rfl⟩ (fun _ _ _ _=>rfl) ?_ ?_
  · rintro a l e T ⟨s,o4,hs,rfl,rfl⟩
    refine ⟨_,rfl,?_⟩
    exact Fw.one (Fw.set (W2 (X5 (Z5 (W2 (W2 (W2 (Z6 rfl) U0 Y5 Y5 (q1 _)) (W2 (X5 (Z5 (Z6 rfl) Y3) rfl) U0 Y5 Y5 (q2 _)) Y5 Y5 Z0e) U0 Y5 Y5 Z0e) Y3) rfl) U0 Y5 Y5 (q3 _)) (Fw.nil (.nx ⟨_,_,Int.emod_nonneg _ (by decide),rfl,rfl⟩)))
  · rintro e T (⟨s,o4,hs,rfl,rfl⟩ | h)
    · refine Fw.one (Fw.ret (x := .r (T.length + 1)) (S1:=T++[glO (cs.filter fun g=>decide (1000000000000000000 ≤ g)).reverse]++[dlO T.length s]) ?_ ⟨_,_,rfl,hs,fun g hg=>hnn g (List.mem_filter.mp (List.mem_reverse.mp hg)).1,?_⟩)
      · have e2:Z14 (.nm 4) (V7 (Z1 2)) (U3 (Y2 geD (Z1 4) (Y2 W3d (m_c (.int 10)) (m_c (.int 18))))) (Z1 4) [4] [some (.d (.scr ns)),some (.d (.int k)),some (.d (.lst (cs.map D.int))),some (.d (.int s)),o4] T = .ok (.d (.lst ((cs.filter fun g=>decide (1000000000000000000 ≤ g)).map D.int))) T:=by
          refine Y7l (fun i=>X.d (.int i)) D.int (fun g=>decide (1000000000000000000 ≤ g)) (l:=cs) (Z13 (Z6 rfl) (by rw [Y06]; rfl)) (hz4 (by omega)) (fun i hi=>⟨_,rfl,Z1z (W2 (Z6 rfl) (W2 U0 U0 Y5 Y5 W8e) Y5 Y5 Z3n),fun _=>Z6 rfl⟩)
        generalize (cs.filter fun g=>decide (1000000000000000000 ≤ g))=ds at e2 ⊢
        have e3:Y5u (Z14 (.nm 4) (V7 (Z1 2)) (U3 (Y2 geD (Z1 4) (Y2 W3d (m_c (.int 10)) (m_c (.int 18))))) (Z1 4) [4]) [some (.d (.scr ns)),some (.d (.int k)),some (.d (.lst (cs.map D.int))),some (.d (.int s)),o4] T = .ok (.r T.length) (T++[glO ds.reverse]):=by
          unfold Y5u
          rw [e2]
          show R.ok (X.r T.length) (T++[.lst ((ds.map D.int).map X.d).reverse])=_
          rw [← Y06,← List.map_reverse]
          rfl
        unfold Y4n
        rw [e3]
        show R.ok (X.r (T++[glO ds.reverse]).length) _=_
        rw [List.length_append,W7b]
        rfl
      · rw [List.length_reverse]
        have:=List.length_filter_le (fun g=>decide ((1000000000000000000:Int) ≤ g)) cs
        omega
    · exact h.elim
end Lw
namespace Lw
open PySem PySem.Spec L2 Bv
open PyProof.Rows hiding St
variable [HasW]
theorem X19 {α:Type} (xs:List α) {h:Int} (h0:0 ≤ h):Z4w xs none (some h)=xs.take h.toNat:=by
  have hn:¬ h < 0:=by omega
  unfold Z4w
  simp only [HT.sIx,if_neg hn,List.drop_zero,Nat.sub_zero]
  rcases Nat.le_total h.toNat xs.length with c | c
  · rw [Nat.min_eq_left c]
  · rw [Nat.min_eq_right c,List.take_of_length_le (Nat.le_refl _),List.take_of_length_le c]
theorem Y8z {α:Type} (xs:List α) {h:Int} (h0:0 ≤ h):Z4w xs (some h) none=xs.drop h.toNat:=by
  have hn:¬ h < 0:=by omega
  unfold Z4w
  simp only [HT.sIx,if_neg hn]
  rcases Nat.le_total h.toNat xs.length with c | c
  · rw [Nat.min_eq_left c,List.take_of_length_le (by rw [List.length_drop]; omega)]
  · rw [Nat.min_eq_right c,List.drop_eq_nil_of_le (Nat.le_refl _),List.drop_eq_nil_of_le c,List.take_nil]
theorem Y03 {α:Type} (x:α) (xs:List α):Z4w (x :: xs) (some 1) none=xs:=Y8z (x :: xs) (by decide)
theorem Y1b {k:Nat} (ds:List D):okO k (.lst (ds.map X.d))=true:=by
  show (ds.map X.d).all (okX k)=true
  rw [List.all_map]
  exact List.all_eq_true.mpr fun _ _=>rfl
def Z5m:List Str:=["none", "doubt", "good", "old", "bad", "a", "b", "c", "d", "e", "give", "drop", "right", "back", "wrong", "twin"]
def X9j:List Str:=["give", "carry", "drop", "back", "right", "wrong"]
def X7s (w o t:Str) (k:Bool):D := .tup [.str w, .str o, .str t, .bl k]
def Y1j (w o t:Str) (k:Bool):Prop:=w ∈ X9j∧o ∈ ("any" : Str) :: Z5m∧t ∈ ("same" : Str) :: Z5m∧(w ≠ "give" → k=true)
def Z8v (m0:Str) (ms:List Str) (w o t:Str) (k:Bool):Prop:=w ∈ X9j∧o ∈ ("any" : Str) :: m0 :: ms∧t ∈ ("same" : Str) :: m0 :: ms∧(w ≠ "give" → k=true∧o ∈ ("any" : Str) :: ms)
theorem Z8v.ok {m0:Str} {ms:List Str} {w o t:Str} {k:Bool} (hm:∀ x ∈ m0 :: ms,x ∈ Z5m) (h:Z8v m0 ms w o t k):Y1j w o t k :=
  ⟨h.1,(List.mem_cons.mp h.2.1).elim (fun e=>by rw [e]; exact List.mem_cons_self) fun m=>List.mem_cons_of_mem _ (hm _ m),(List.mem_cons.mp h.2.2.1).elim (fun e=>by rw [e]; exact List.mem_cons_self) fun m=>List.mem_cons_of_mem _ (hm _ m),fun g=>(h.2.2.2 g).1⟩
abbrev Z16:=Str × Str × Str × Bool
def Z61 (r:Z16):D:=X7s r.1 r.2.1 r.2.2.1 r.2.2.2
abbrev Y29 (m0:Str) (ms:List Str) (rows:List Z16):Prop:=∀ r ∈ rows,Z8v m0 ms r.1 r.2.1 r.2.2.1 r.2.2.2
structure ToolOk (m0:Str) (ms sh as:List Str) (rows:List Z16):Prop where
  names:∀ x ∈ m0 :: ms,x ∈ Z5m
  few:ms.length < 5
  some:0 < ms.length
  nd:(m0 :: ms).Nodup
  sh:sh.Sublist ms
  as:as.Sublist (m0 :: ms)
  len:rows.length ≤ 20
  rows:Y29 m0 ms rows
def Z52 (l:List Str):D := .tup (l.map D.str)
def Z9t (l:List Str):D := .lst (l.map D.str)
def X7j (rows:List Z16):D := .tup (rows.map Z61)
def Z5n (m0:Str) (ms sh as:List Str) (rows:List Z16):D := .tup [Z52 (m0 :: ms),Z52 sh,Z52 as,X7j rows]
end Lw
namespace Lw
open PySem PySem.Spec L2 Bv
open PyProof.Rows hiding St
variable [HasW]
def W9p:D := .tup ((["give", "carry", "drop", "back", "right", "wrong"]:List Str).map D.str)
def X8y (w o t:Str) (k:Bool):D := .obj "Row" [("word", .str w),("old", .str o),("then", .str t),("take", .bl k)]
def W6u:PR→D→Bool
  | .ok d,e=>decide (d=e)
  | _,_=>false
theorem Y2k {p:PR} {d:D} (h:W6u p d=true):p = .ok d:=by
  cases p with
  | ok e=>rw [of_decide_eq_true h]
  | _=>cases h
def W9u (w:Str):Bool:=W6u (g_is_word [.str w,W9p]) (.bl true)
def W9t (w:Str):Bool:=W6u (g_is_name [.str w]) (.bl true)
theorem X7t:(X9j.all W9u)=true:=by kernel_rfl
theorem Y09:(Z5m.all W9t)=true:=by kernel_rfl
def X83 (x:Str):Bool:=decide (x.length ≤ 5) && (decide ((32:Nat) ∉ x.cps.toList) && (decide ((reprText x).length ≤ 50) && (PyData.strOk (reprText x) && PyData.strOk x)))
def Y20:List Str:=X9j++("any" : Str) :: Z5m++("same" : Str) :: Z5m++(["take", "keep", "to"]:List Str)
theorem X7c:(Y20.all X83)=true:=by kernel_rfl
theorem Z4u {x:Str} (h:x ∈ Y20):x.length ≤ 5∧(32:Nat) ∉ x.cps.toList∧(reprText x).length ≤ 50∧PyData.strOk (reprText x)=true∧PyData.strOk x=true:=by
  have h:=List.all_eq_true.mp X7c x h
  unfold X83 at h
  simp only [Bool.and_eq_true,decide_eq_true_eq] at h
  exact h
theorem X4x (a b:Str):(a++b).length=a.length + b.length:=by
  show (a.cps++b.cps).size=_
  rw [Array.size_append]
  rfl
def Z35 (w o t:Str) (k:Bool):List Str:=if w = "give" then [w,o,if k then "take" else "keep", "to",t] else [w,o, "to",t]
theorem Y1j.in_ {w o t:Str} {k:Bool} (h:Y1j w o t k):w ∈ Y20∧o ∈ Y20∧t ∈ Y20:=by
  obtain ⟨h1,h2,h3,_⟩:=h
  unfold Y20
  simp only [List.mem_append]
  exact ⟨.inl (.inl (.inl h1)), .inl (.inl (.inr h2)), .inl (.inr h3)⟩
theorem Z9u {w o t:Str} {k:Bool} (h:Y1j w o t k):∀ x ∈ Z35 w o t k,x ∈ Y20:=by
  obtain ⟨h1,h2,h3⟩:=h.in_
  have h4:("take" : Str) ∈ Y20∧("keep" : Str) ∈ Y20∧("to" : Str) ∈ Y20:=by decide +kernel
  intro x hx
  unfold Z35 at hx
  split at hx
  · simp only [List.mem_cons,List.not_mem_nil,or_false] at hx
    rcases hx with rfl | rfl | rfl | rfl | rfl
    · exact h1
    · exact h2
    · cases k
      · exact h4.2.1
      · exact h4.1
    · exact h4.2.2
    · exact h3
  · simp only [List.mem_cons,List.not_mem_nil,or_false] at hx
    rcases hx with rfl | rfl | rfl | rfl
    · exact h1
    · exact h2
    · exact h4.2.2
    · exact h3
def zR (w o t:Str) (k:Bool):Str:=Str.join " " (Z35 w o t k)
theorem W4c {S:Sto} {k:Bool}:isX (Y02 "bool") [("Row",false),("Tool",false)] S (.d (.bl k))=some true:=by
  show (Y02 "bool").lookup "bool" = some true
  decide +kernel
theorem W0n {S:Sto} {fs:List (Str × D)}:isX Z5k [("Row",true),("Tool",false)] S (.d (.obj "Row" fs))=some true:=by rfl
theorem X3a {S:Sto} {w o t:Str} {k:Bool} (hS:OkS S) (h:Y1j w o t k):made "Row" mkF Z28 [.d (.str w), .d (.str o), .d (.str t), .d (.bl k)] S = .ok (.d (X8y w o t k)) S:=by
  have hw:g_is_word [.str w, .tup [.str "give", .str "carry", .str "drop", .str "back", .str "right", .str "wrong"]] = .ok (.bl true):=Y2k (List.all_eq_true.mp X7t w h.1)
  have ho:o = "any" ∨ g_is_name [.str o] = .ok (.bl true):=(List.mem_cons.mp h.2.1).imp id fun m=>Y2k (List.all_eq_true.mp Y09 o m)
  have ht:t = "same" ∨ g_is_name [.str t] = .ok (.bl true):=(List.mem_cons.mp h.2.2.1).imp id fun m=>Y2k (List.all_eq_true.mp Y09 t m)
  have hk:=h.2.2.2
  have g0:∀ x:O,(S++[x])[S.length]?=some x:=fun x=>by simp
  have s0:∀ x y:O,(S++[x]).set S.length y=S++[y]:=fun x y=>by simp
  have l0:∀ x:O,(S++[x]).length=S.length + 1:=fun x=>by simp
  have c0:∀ x:O,cut S.length (S++[x])=some S:=fun x=>hS.cut
  have c1:∀ fs:List (Str × X),(fs.all fun p=>okX (S.length + 1) p.2)=true→cut (S.length + 1) (S++[.ins "Row" fs])=some (S++[.ins "Row" fs]):=fun fs hf=>by
    have:=(hS.push (o := .ins "Row" fs) hf).cut0
    rwa [l0] at this
  have c2:=c1 [("word", .d (.str w)),("old", .d (.str o)),("then", .d (.str t)),("take", .d (.bl k))] rfl
  have n1:¬ (("word" : Str) = "old")∧¬ (("word" : Str) = "then")∧¬ (("word" : Str) = "take")∧¬ (("old" : Str) = "then")∧¬ (("old" : Str) = "take")∧¬ (("then" : Str) = "take"):=by decide +kernel
  obtain ⟨n1,n2,n3,n4,n5,n6⟩:=n1
  have run:Z28 [.r S.length, .d (.str w), .d (.str o), .d (.str t), .d (.bl k)] (S++[.ins "Row" []]) = .ok (.d .non) (S++[.ins "Row" [("word", .d (.str w)),("old", .d (.str o)),("then", .d (.str t)),("take", .d (.bl k))]]):=by
    unfold Z28
    have body:Z7u (ev0 5 [.r S.length, .d (.str w), .d (.str o), .d (.str t), .d (.bl k)]) (S++[.ins "Row" []]) = .go (.nx [some (.r S.length),some (.d (.str w)),some (.d (.str o)),some (.d (.str t)),some (.d (.bl k))]) (S++[.ins "Row" [("word", .d (.str w)),("old", .d (.str o)),("then", .d (.str t)),("take", .d (.bl k))]]):=by
      unfold Z7u
      by_cases a:o = "any" <;> by_cases b:t = "same" <;> by_cases c:w = "give"
      all_goals
        first
          | (have ho2:=ho.resolve_left a; have ht2:=ht.resolve_left b)
          | have ho2:=ho.resolve_left a
          | have ht2:=ht.resolve_left b
          | skip
      all_goals
        first
          | (have hk2:=hk c; subst hk2)
          | skip
      all_goals
        (try simp only [c] at hw)
        simp [ev0,Z9,Z0r,W7,W0,X2,Q1,X3,U5,V0,V4,Z0d,Q9,Z0w,Q4,U3,Y2,V5,Z1,m_c,Z8,Z0,Z7,W9,W1,V3,V2,Y4,Z1s,Y6,X4,Z1e,Z1q,W4,U2,X7,Q0,Z25,Z0v,Z3q,Y7,W3,R.bind,R.so,RO.then,items,ixO,ixD,Z2v,Z04,op2,X.get,tb,Z0p,Z0j,Z0o,Z0i,slX,V1,U1,Y8,Y9,Z3g,Z24,Z0h,Z3t,Z27,Z2m,Z2i,Z1d,Z2r,Z3o,Q7,ints?,Z3f,Z3i,Z3h,ds?,Z19,callP,X.isD,D.noL,D.noLs,D.noLf,V8,Z0l,Z0e,Z0u,Z3k,Z3n,Z3p,Z3x,Z6b,hw, *,Z50,W4c,g0,s0,n1,n2,n3,n4,n5,n6]
    exact X4j body (by rw [l0]; exact c2)
  have f0:frz (S++[.ins "Row" [("word", .d (.str w)),("old", .d (.str o)),("then", .d (.str t)),("take", .d (.bl k))]]) S.length=some (X8y w o t k):=by
    unfold frz
    rw [g0]
    rfl
  exact X8s run f0 (c0 _)
theorem sp1:(" " : Str).length=1:=by decide +kernel
theorem to1:("to" : Str).length=2∧("take" : Str).length=4∧("keep" : Str).length=4∧("give" : Str).length=4:=by decide +kernel
theorem W2u {w o t:Str} {k:Bool} (h:Y1j w o t k):Z5a [X8y w o t k] = .ok (.str (zR w o t k)):=by
  obtain ⟨h1,h2,h3⟩:=h.in_
  have a1:=(Z4u h1).1
  have a2:=(Z4u h2).1
  have a3:=(Z4u h3).1
  obtain ⟨t1,t2,t3,t4⟩:=to1
  have n1:(("old" : Str) == "word")=false∧(("then" : Str) == "word")=false∧(("take" : Str) == "word")=false∧(("then" : Str) == "old")=false∧(("take" : Str) == "old")=false∧(("take" : Str) == "then")=false:=by decide +kernel
  obtain ⟨n1,n2,n3,n4,n5,n6⟩:=n1
  have hz:∀ n:Nat,n < 1000→n ≤ sizeLine:=fun n h=>by rw [sizeLine_eq]; omega
  have z2:=hz 2 (by decide)
  have z3:=hz 3 (by decide)
  have z4:=hz 4 (by decide)
  have z5:=hz 5 (by decide)
  have zl:2 < sizeLine:=by have:=hz 3 (by decide); omega
  unfold Z5a Z6e Y1l X8y
  by_cases c:w = "give"
  · subst c
    cases k
    · have hb:4 + (o.length + (4 + (2 + t.length))) + 5 ≤ 16777216:=by omega
      simp [ev0,Z9,Z0r,W7,W0,X2,Q1,X3,U5,V0,V4,Z0d,Q9,Z0w,Q4,U3,Y2,V5,Z1,m_c,Z8,Z0,Z7,W9,W1,V3,V2,Y4,Z1s,Y6,X4,Z1e,Z1q,W4,U2,X7,Q0,Z25,Z0v,Z3q,Y7,W3,R.bind,R.so,RO.then,items,ixO,ixD,Z2v,Z04,op2,X.get,tb,Z0p,Z0j,Z0o,Z0i,slX,V1,U1,Y8,Y9,Z3g,Z24,Z0h,Z3t,Z27,Z2m,Z2i,Z1d,Z2r,Z3o,Q7,ints?,Z3f,Z3i,Z3h,ds?,Z19,callP,X.isD,D.noL,D.noLs,D.noLf,V8,Z0l,Z0e,Z0u,Z3k,Z3n,Z3p,Z3x,Z2n,n1,n2,n3,n4,n5,n6,z2,z3,z4,z5,zl,U4,Z2s,Z2q,Bv.strs?,sp1,t1,t2,t3,t4,hb,atI,ixN,zR,Z35,List.lookup]
    · have hb:4 + (o.length + (4 + (2 + t.length))) + 5 ≤ 16777216:=by omega
      simp [ev0,Z9,Z0r,W7,W0,X2,Q1,X3,U5,V0,V4,Z0d,Q9,Z0w,Q4,U3,Y2,V5,Z1,m_c,Z8,Z0,Z7,W9,W1,V3,V2,Y4,Z1s,Y6,X4,Z1e,Z1q,W4,U2,X7,Q0,Z25,Z0v,Z3q,Y7,W3,R.bind,R.so,RO.then,items,ixO,ixD,Z2v,Z04,op2,X.get,tb,Z0p,Z0j,Z0o,Z0i,slX,V1,U1,Y8,Y9,Z3g,Z24,Z0h,Z3t,Z27,Z2m,Z2i,Z1d,Z2r,Z3o,Q7,ints?,Z3f,Z3i,Z3h,ds?,Z19,callP,X.isD,D.noL,D.noLs,D.noLf,V8,Z0l,Z0e,Z0u,Z3k,Z3n,Z3p,Z3x,Z2n,n1,n2,n3,n4,n5,n6,z2,z3,z4,z5,zl,U4,Z2s,Z2q,Bv.strs?,sp1,t1,t2,t3,t4,hb,atI,ixN,zR,Z35,List.lookup]
  · have hb:w.length + (o.length + (2 + t.length)) + 4 ≤ 16777216:=by omega
    simp [ev0,Z9,Z0r,W7,W0,X2,Q1,X3,U5,V0,V4,Z0d,Q9,Z0w,Q4,U3,Y2,V5,Z1,m_c,Z8,Z0,Z7,W9,W1,V3,V2,Y4,Z1s,Y6,X4,Z1e,Z1q,W4,U2,X7,Q0,Z25,Z0v,Z3q,Y7,W3,R.bind,R.so,RO.then,items,ixO,ixD,Z2v,Z04,op2,X.get,tb,Z0p,Z0j,Z0o,Z0i,slX,V1,U1,Y8,Y9,Z3g,Z24,Z0h,Z3t,Z27,Z2m,Z2i,Z1d,Z2r,Z3o,Q7,ints?,Z3f,Z3i,Z3h,ds?,Z19,callP,X.isD,D.noL,D.noLs,D.noLf,V8,Z0l,Z0e,Z0u,Z3k,Z3n,Z3p,Z3x,Z2n,n1,n2,n3,n4,n5,n6,z2,z3,z4,z5,zl,c,U4,Z2s,Z2q,Bv.strs?,sp1,t1,hb,zR,Z35,List.lookup]
end Lw
namespace Lw
open PySem PySem.Spec L2 Bv
open PyProof.Rows hiding St
variable [HasW]
theorem Y6e:∀ (xs acc:List Str),(acc++xs).Nodup→xs.foldl Z5j acc=acc++xs
  | [],acc,_=>by simp
  | x :: r,acc,h=>by
    have hx:acc.contains x=false:=by
      rw [List.contains_eq_mem,decide_eq_false_iff_not]
      intro m
      exact (List.nodup_append.mp h).2.2 x m x (by simp) rfl
    have e:Z5j acc x=acc++[x]:=by
      unfold Z5j
      rw [hx]
      rfl
    rw [List.foldl_cons,e,Y6e r (acc++[x]) (by rw [List.append_assoc]; exact h),List.append_assoc]
    rfl
theorem X09 {xs:List Str} (h:xs.Nodup):Z7p xs=xs:=by
  unfold Z7p
  rw [Y6e xs [] (by simpa using h)]
  rfl
theorem X4y (ss:List Str):Bv.strs? ((ss.map D.str).map X.d)=some ss:=by
  induction ss with
  | nil=>rfl
  | cons s r ih =>
    show (Bv.strs? ((r.map D.str).map X.d)).map (s :: ·)=_
    rw [ih]
    rfl
theorem X5o {α:Type} (l:List α):bls? ((l.map fun _=>D.bl true).map X.d)=some (l.map fun _=>true):=by
  induction l with
  | nil=>rfl
  | cons s r ih =>
    show (bls? ((r.map fun _=>D.bl true).map X.d)).map (true :: ·)=_
    rw [ih]
    rfl
theorem Y34 {α:Type} (l:List α) (S:Sto):Y3b (fun l=>l.all id) [.d (.lst (l.map fun _=>D.bl true))] S = .ok (.d (.bl true)) S:=by
  have h:=X5o l
  have e:(l.map fun _=>true).all id=true:=by simp
  show (if V8 S (.d (.lst (l.map fun _=>D.bl true))) then (match (some ((l.map fun _=>D.bl true).map X.d)).bind bls? with
    | some l=>R.ok (X.d (.bl (l.all id))) S
    | none => .bad) else .bad)=_
  rw [show V8 S (.d (.lst (l.map fun _=>D.bl true)))=true from rfl,if_pos rfl,Option.bind_some,h]
  show R.ok (X.d (.bl ((l.map fun _=>true).all id))) S=_
  rw [e]
theorem X1w {α:Type} (l:List α) (S:Sto):Y3b (fun l=>l.any id) [.d (.lst (l.map fun _=>D.bl false))] S = .ok (.d (.bl false)) S:=by
  have h:bls? ((l.map fun _=>D.bl false).map X.d)=some (l.map fun _=>false):=by
    induction l with
    | nil=>rfl
    | cons s r ih =>
      show (bls? ((r.map fun _=>D.bl false).map X.d)).map (false :: ·)=_
      rw [ih]
      rfl
  have e:(l.map fun _=>false).any id=false:=by simp
  show (if V8 S (.d (.lst (l.map fun _=>D.bl false))) then (match (some ((l.map fun _=>D.bl false).map X.d)).bind bls? with
    | some l=>R.ok (X.d (.bl (l.any id))) S
    | none => .bad) else .bad)=_
  rw [show V8 S (.d (.lst (l.map fun _=>D.bl false)))=true from rfl,if_pos rfl,Option.bind_some,h]
  show R.ok (X.d (.bl ((l.map fun _=>false).any id))) S=_
  rw [e]
theorem X4l (ds:List D):g_is_sequence [.lst ds] = .ok (.bl true):=by rfl
theorem X5b {ss:List Str} (h:ss.Nodup) (hl:ss.length < 1000):g_are_unlike [.lst (ss.map D.str)] = .ok (.bl true):=by
  have hs:=X4y ss
  have hw:=X09 h
  have hb:ss.length + 1 < scanBound:=by
    have:(1001:Nat) ≤ scanBound:=by decide
    omega
  unfold g_are_unlike Z6e Z65
  have h1:Y9g [.d (.lst (ss.map D.str))] [] = .ok (.d (.int ss.length)) []:=by
    show (match (some ((ss.map D.str).map X.d)).bind Bv.strs? with
      | some xs=>if decide (xs.length + 1 < scanBound) then R.ok (X.d (.int (Z7p xs).length)) [] else .bad
      | none => .bad)=_
    rw [Option.bind_some,hs]
    show (if decide (ss.length + 1 < scanBound) then R.ok (X.d (.int (Z7p ss).length)) [] else .bad)=_
    rw [if_pos (decide_eq_true hb),hw]
  have h2:Z1d [.d (.lst (ss.map D.str))] [] = .ok (.d (.int ss.length)) []:=by simp [Z1d,Z2r,items]
  simp only [X3,Y2,Y4o,Z1,Z8,Z0,Z7,R.bind,R.so,ev0,List.map_cons,List.map_nil,List.length_cons,List.length_nil,List.singleton_append,List.getElem?_cons_zero,h1,h2,op2,Y5,Y10,decide_true,Z24]
theorem X0r {ss:List Str} (h:ss.Nodup) (hl:ss.length < 1000) (hn:∀ x ∈ ss,g_is_name [.str x] = .ok (.bl true)):g_are_names [.lst (ss.map D.str)] = .ok (.bl true):=by
  have hu:=X5b h hl
  have hq:=X4l (ss.map D.str)
  have hz:ss.length ≤ sizeLine:=by rw [sizeLine_eq]; omega
  have hlc:Z14 (.nm 1) (V7 (Z1 0)) (W8) (Z8 (Y8 1 (Y9 [] (callP g_is_name))) (Z0 (Z1 1) (Z7))) [1] [some (.d (.lst (ss.map D.str))),none] [] = .ok (.d (.lst (ss.map fun _ => .bl true))) []:=by
    refine Z4f (fun s => .d (.str s)) (fun _ => .bl true) (l:=ss) ?_ hz fun s hs=>⟨_,rfl,?_⟩
    · unfold V7
      simp [ev0,Z9,Z0r,W7,W0,X2,Q1,X3,U5,V0,V4,Z0d,Q9,Z0w,Q4,U3,Y2,V5,Z1,m_c,Z8,Z0,Z7,W9,W1,V3,V2,Y4,Z1s,Y6,X4,Z1e,Z1q,W4,U2,X7,Q0,Z25,Z0v,Z3q,Y7,W3,R.bind,R.so,RO.then,items,ixO,ixD,Z2v,Z04,op2,X.get,tb,Z0p,Z0j,Z0o,Z0i,slX,V1,U1,Y8,Y9,Z3g,Z24,Z0h,Z3t,Z27,Z2m,Z2i,Z1d,Z2r,Z3o,Q7,ints?,Z3f,Z3i,Z3h,ds?,Z19,callP,X.isD,D.noL,D.noLs,D.noLf,V8,Z0l,Z0e,Z0u,Z3k,Z3n,Z3p,Z3x,Y0g]
    · have:=hn s hs
      simp [ev0,Z9,Z0r,W7,W0,X2,Q1,X3,U5,V0,V4,Z0d,Q9,Z0w,Q4,U3,Y2,V5,Z1,m_c,Z8,Z0,Z7,W9,W1,V3,V2,Y4,Z1s,Y6,X4,Z1e,Z1q,W4,U2,X7,Q0,Z25,Z0v,Z3q,Y7,W3,R.bind,R.so,RO.then,items,ixO,ixD,Z2v,Z04,op2,X.get,tb,Z0p,Z0j,Z0o,Z0i,slX,V1,U1,Y8,Y9,Z3g,Z24,Z0h,Z3t,Z27,Z2m,Z2i,Z1d,Z2r,Z3o,Q7,ints?,Z3f,Z3i,Z3h,ds?,Z19,callP,X.isD,D.noL,D.noLs,D.noLf,V8,Z0l,Z0e,Z0u,Z3k,Z3n,Z3p,Z3x,Z0s,this]
  have ha:=Y34 ss ([]:Sto)
  unfold g_are_names Z6e Z8y
  simp [ev0,Z9,Z0r,W7,W0,X2,Q1,X3,U5,V0,V4,Z0d,Q9,Z0w,Q4,U3,Y2,V5,Z1,m_c,Z8,Z0,Z7,W9,W1,V3,V2,Y4,Z1s,Y6,X4,Z1e,Z1q,W4,U2,X7,Q0,Z25,Z0v,Z3q,Y7,W3,R.bind,R.so,RO.then,items,ixO,ixD,Z2v,Z04,op2,Y5,tb,Z0p,Z0j,Z0o,Z0i,slX,V1,U1,Y8,Y9,Z3g,Z24,Z0h,Z3t,Z27,Z2m,Z2i,Z1d,Z2r,Z3o,Q7,ints?,Z3f,Z3i,Z3h,ds?,Z19,callP,X.isD,D.noL,D.noLs,D.noLf,V8,Z0l,Z0e,Z0u,Z3k,Z3n,Z3p,Z3x,hq,hu,hlc,ha]
end Lw
namespace Lw
open PySem PySem.Spec L2 Bv
open PyProof.Rows hiding St
variable [HasW]
def i_0:MS:=(Z0r (U2 (X7 (Y7 (Z8 (Y8 1 (Y9 [] (callP g_are_names))) (Z0 (Z1 1) (Z7))))) (U3 (Y2 eqD (Z8 Z1d (Z0 (Z1 1) (Z7))) (m_c (.int 0))))) (Z4v) (W7))
def i_1:MS:=(Z0r (U2 (X7 (Y7 (Z8 (Y8 1 (Y9 [] (callP g_are_names))) (Z0 (Z1 2) (Z7))))) (X7 (Y7 (Z8 (Y3b fun l=>l.all id) (Z0 (Z14 (.nm 6) (V7 (Z1 2)) (W8) (Y2 inD (Z1 6) (Y6 (Z1 1) (X4 (m_c (.int 1))) (Z1e))) [6]) (Z7)))))) (Z4v) (W7))
def i_2:MS:=(Z0r (U2 (X7 (Y7 (Z8 (Y8 1 (Y9 [] (callP g_are_names))) (Z0 (Z1 3) (Z7))))) (X7 (Y7 (Z8 (Y3b fun l=>l.all id) (Z0 (Z14 (.nm 6) (V7 (Z1 3)) (W8) (Y2 inD (Z1 6) (Z1 1)) [6]) (Z7)))))) (Z4v) (W7))
def i_3:MS:=(Z0r (U2 (X7 (Y7 (Z8 (Y8 1 (Y9 [] (callP g_is_sequence))) (Z0 (Z1 4) (Z7))))) (X7 (Y7 (Z8 (Y3b fun l=>l.all id) (Z0 (Z14 (.nm 5) (V7 (Z1 4)) (W8) (Z6b Z5k [("Row",true),("Tool",false)] (Z1 5)) [5]) (Z7)))))) (Z4v) (W7))
def i_4:MS:=(Z0r (X7 (Y7 (Z8 (Y3b fun l=>l.all id) (Z0 (Z14 (.nm 5) (V7 (Z1 4)) (W8) (Q0 (Y2 inD (Y4 ["Row"] "old" (Z1 5)) (W1 (Z0 (m_c (.str "any")) (W9 (Z1 1) (Z7))))) (Y2 inD (Y4 ["Row"] "then" (Z1 5)) (W1 (Z0 (m_c (.str "same")) (W9 (Z1 1) (Z7)))))) [5]) (Z7))))) (Z4v) (W7))
def i_5:MS:=(Z0r (Y7 (Z8 (Y3b fun l=>l.any id) (Z0 (Z14 (.nm 5) (V7 (Z1 4)) (W8) (Q0 (Y2 neD (Y4 ["Row"] "word" (Z1 5)) (m_c (.str "give"))) (Y2 eqD (Y4 ["Row"] "old" (Z1 5)) (V5 (Z1 1) (m_c (.int 0))))) [5]) (Z7)))) (Z4v) (W7))
def i_6:MS:=(Q4 ["Tool"] "marks" (Z1 0) (Z8 Z75 (Z0 (Z1 1) (Z7))))
def i_7:MS:=(Q4 ["Tool"] "shown" (Z1 0) (Z8 Z75 (Z0 (Z14 (.nm 6) (V7 (Z1 1)) (U3 (Y2 inD (Z1 6) (Z1 2))) (Z1 6) [6]) (Z7))))
def i_8:MS:=(Q4 ["Tool"] "asked" (Z1 0) (Z8 Z75 (Z0 (Z14 (.nm 6) (V7 (Z1 1)) (U3 (Y2 inD (Z1 6) (Z1 3))) (Z1 6) [6]) (Z7))))
def i_9:MS:=(Q4 ["Tool"] "rows" (Z1 0) (Z8 Z75 (Z0 (Z1 4) (Z7))))
def W83:MS:=(Q4 ["Tool"] "blank" (Z1 0) (V5 (Z1 1) (m_c (.int 0))))
theorem W7p:Z6n=Z9 i_0 ( Z9 i_1 ( Z9 i_2 ( Z9 i_3 ( Z9 i_4 ( Z9 i_5 ( Z9 i_6 ( Z9 i_7 ( Z9 i_8 ( Z9 i_9 (W83)))))))))):=by kernel_rfl
theorem Y4x (ss:List Str):pys (ss.map D.str)=some (ss.map PyData.str):=by
  induction ss with
  | nil=>rfl
  | cons s r ih =>
    show (match some (PyData.str s),pys (r.map D.str) with
      | some p,some l=>some (p :: l)
      | _,_=>none)=_
    rw [ih]
    rfl
theorem Z7y (ss:List Str):PyData.depthAll (ss.map PyData.str) ≤ 1:=by
  induction ss with
  | nil=>simp [PyData.depthAll]
  | cons s r ih =>
    simp only [List.map_cons,PyData.depthAll,PyData.depth]
    omega
theorem Y8o (ss:List Str) (s:Str):((ss.map PyData.str).any fun z=>PyData.eqv z (.str s))=decide (s ∈ ss):=by
  induction ss with
  | nil=>rfl
  | cons a r ih =>
    rw [List.map_cons,List.any_cons,ih,Y7a,Bool.eq_iff_iff]
    simp only [Bool.or_eq_true,decide_eq_true_eq,List.mem_cons]
    exact ⟨fun h=>h.imp Eq.symm id,fun h=>h.imp Eq.symm id⟩
theorem X20 {s:Str} {ss:List Str}:inD (.str s) (.lst (ss.map D.str))=some (.bl (decide (s ∈ ss))):=by
  have e:(D.lst (ss.map D.str)).py=some (.list (ss.map PyData.str)):=by
    show (match pys (ss.map D.str) with
      | some l=>some (PyData.list l)
      | none=>none)=_
    rw [Y4x]
  have d1:dOk (.str s)=true:=by unfold dOk; simp [PyData.depth]
  have d2:dOk (.list (ss.map PyData.str))=true:=by
    unfold dOk
    have:=Z7y ss
    refine decide_eq_true ?_
    simp only [PyData.depth]
    omega
  have e0:(D.str s).py=some (.str s):=rfl
  unfold inD Bv.inB
  rw [e,e0]
  show Option.map D.bl (if dOk (.str s) && dOk (.list (ss.map PyData.str)) then some ((ss.map PyData.str).any fun z=>PyData.eqv z (.str s)) else none)=_
  rw [d1,d2,Y8o]
  rfl
theorem Z8j {s:Str} {ss:List Str}:inD (.str s) (.tup (ss.map D.str))=some (.bl (decide (s ∈ ss))):=by
  have e:(D.tup (ss.map D.str)).py=some (.tuple (ss.map PyData.str)):=by
    show (match pys (ss.map D.str) with
      | some l=>some (PyData.tuple l)
      | none=>none)=_
    rw [Y4x]
  have d1:dOk (.str s)=true:=by unfold dOk; simp [PyData.depth]
  have d2:dOk (.tuple (ss.map PyData.str))=true:=by
    unfold dOk
    have:=Z7y ss
    refine decide_eq_true ?_
    simp only [PyData.depth]
    omega
  have e0:(D.str s).py=some (.str s):=rfl
  unfold inD Bv.inB
  rw [e,e0]
  show Option.map D.bl (if dOk (.str s) && dOk (.tuple (ss.map PyData.str)) then some ((ss.map PyData.str).any fun z=>PyData.eqv z (.str s)) else none)=_
  rw [d1,d2,Y8o]
  rfl
theorem Y9p {α:Type} {t:Tg} {mt:MG Bool} {me:M} {lk:Lk} {e:Ev} {S:Sto} (hk:lk.ok S=true) (x:α→X) (f:α→D):∀ {l:List α},(∀ a ∈ l,∃ e1,t.asg S (x a) e=some e1∧mt e1 S = .ok true S∧me e1 S = .ok (.d (f a)) S)→lcL t lk mt me e (l.map x) S = .ok (l.map f) S
  | [],_=>by simp [lcL,hk]
  | a :: l,h=>by
    obtain ⟨e1,h1,h2,h3⟩:=h a (by simp)
    have ih:=Y9p (t:=t) (mt:=mt) (me:=me) (e:=e) (S:=S) hk x f (l:=l) fun b hb=>h b (List.mem_cons_of_mem _ hb)
    simp [lcL,hk,h1,h2,h3,R.ne,R.bind,ih]
theorem Y7k {α:Type} {t:Tg} {mi:MIt} {me:M} {vs:List Nat} {lk:Lk} {e:Ev} {S:Sto} (hk:lk.ok S=true) (x:α→X) (f:α→D) {l:List α} (hi:mi e S = .ok (l.map x,lk) S) (hl:l.length ≤ sizeLine) (h:∀ a ∈ l,∃ e1,t.asg S (x a) (Z0s e vs)=some e1∧me e1 S = .ok (.d (f a)) S) :
    Z14 t mi W8 me vs e S = .ok (.d (.lst (l.map f))) S:=by
  have h1:=Y9p (t:=t) (mt:=W8) (me:=me) (e:=Z0s e vs) (S:=S) hk x f (l:=l) fun a ha=>by
    obtain ⟨e1,q1,q2⟩:=h a ha
    exact ⟨e1,q1,rfl,q2⟩
  unfold Z14
  rw [hi]
  show (lcL t lk W8 me (Z0s e vs) (l.map x) S).bind Y0k=_
  rw [h1]
  show Y0k (l.map f) S=_
  unfold Y0k
  rw [if_pos (by rw [List.length_map]; exact hl)]
theorem Y7l {α:Type} {t:Tg} {mi:MIt} {mt:MG Bool} {me:M} {vs:List Nat} {e:Ev} {S:Sto} (x:α→X) (f:α→D) (c:α→Bool) {l:List α} (hi:mi e S = .ok (l.map x, .free) S) (hl:l.length ≤ sizeLine) (h:∀ a ∈ l,∃ e1,t.asg S (x a) (Z0s e vs)=some e1∧mt e1 S = .ok (c a) S∧(c a=true→me e1 S = .ok (.d (f a)) S)) :
    Z14 t mi mt me vs e S = .ok (.d (.lst ((l.filter c).map f))) S:=by
  have h1:=Y4k (t:=t) (mt:=mt) (me:=me) (e:=Z0s e vs) (S:=S) x f c (l:=l) h
  unfold Z14
  rw [hi]
  show (lcL t .free mt me (Z0s e vs) (l.map x) S).bind Y0k=_
  rw [h1]
  show Y0k ((l.filter c).map f) S=_
  unfold Y0k
  have:=List.length_filter_le c l
  rw [if_pos (by rw [List.length_map]; omega)]
theorem Y3j {l sh:List Str} (hn:l.Nodup) (h:sh.Sublist l) {sp:List Str} (hp:sp.Perm sh):l.filter (fun x=>decide (x ∈ sp))=sh:=by
  have e:∀ x,decide (x ∈ sp)=decide (x ∈ sh):=fun x=>decide_eq_decide.mpr hp.mem_iff
  simp only [e]
  clear hp e
  induction h with
  | slnil=>rfl
  | cons a s ih =>
    rename_i l1 l2
    have hn2:=List.nodup_cons.mp hn
    have:a ∉ l1:=fun m=>hn2.1 (s.subset m)
    rw [List.filter_cons,if_neg (by simpa using this)]
    exact ih hn2.2
  | cons_cons a s ih =>
    rename_i l1 l2
    have hn2:=List.nodup_cons.mp hn
    rw [List.filter_cons,if_pos (by simp)]
    congr 1
    rw [← ih hn2.2]
    rw [ih hn2.2]
    refine Eq.trans (List.filter_congr fun x hx=>?_) (ih hn2.2)
    have:x ≠ a:=fun e=>hn2.1 (e ▸ hx)
    simp [this]
end Lw
namespace Lw
open PySem PySem.Spec L2 Bv
open PyProof.Rows hiding St
variable [HasW]
def Z3d (r:Z16):D:=X8y r.1 r.2.1 r.2.2.1 r.2.2.2
def tls (ml:List Str):D := .lst (ml.map D.str)
def Z84 (m0:Str) (ms sh as:List Str) (rows:List Z16):D := .obj "Tool" [("marks", .tup ((m0 :: ms).map D.str)),("shown", .tup (sh.map D.str)),("asked", .tup (as.map D.str)),("rows", .tup (rows.map Z3d)),("blank", .str m0)]
structure RX (T:Sto) (x:X) (rows:List Z16) (lk:Lk):Prop where
  get:x.get T=some (.lst (rows.map Z3d))
  walk:Y0g T x=some (rows.map (fun r=>X.d (Z3d r)),lk)
  ok:lk.ok T=true
  items:Bv.items T x=some ((rows.map Z3d).map X.d)
theorem W9i {T:Sto} {k:Nat} {rows:List Z16} (h:T[k]?=some (.lst ((rows.map Z3d).map X.d))):RX T (.r k) rows (.lst k ((rows.map Z3d).map X.d)):=by
  refine ⟨?_,?_,?_,?_⟩
  · show (match T[k]? with
      | some (.lst xs)=>(ds? xs).map D.lst
      | some (.fdc kvs)=>(ks? kvs).map D.dic
      | _=>none)=_
    rw [h]
    show (ds? ((rows.map Z3d).map X.d)).map D.lst=_
    rw [Y1z]
    rfl
  · unfold Y0g
    simp [h]
  · unfold Lk.ok
    simp [h]
  · unfold Bv.items
    simp [h]
def evI (n:Nat) (ml sp ap:List Str) (x:X):Ev:=[some (.r n),some (.d (tls ml)),some (.d (tls sp)),some (.d (tls ap)),some x,none,none]
section
variable {n:Nat} {ml sp ap ms:List Str} {m0:Str} {x:X} {rows:List Z16} {lk:Lk} {T:Sto}
theorem X26:Z1d [.d (tls ml)] T = .ok (.d (.int ml.length)) T:=by unfold tls; simp [Z1d,Z2r,items]
theorem Y1d:Y0g T (.d (tls ml))=some (ml.map (fun s=>X.d (.str s)), .free):=by unfold tls; simp [Y0g]
theorem W54:slX T (.d (tls ml)) (some 1) none=some (.d (.lst (Z4w (ml.map D.str) (some 1) none))):=rfl
theorem X8f {s:Str}:inD (.str s) (tls ml)=some (.bl (decide (s ∈ ml))):=X20
theorem X8h:ixO T (.d (tls (m0 :: ms))) 0=some (.d (.str m0)):=by simp [ixO,ixD,tls,items,atI,ixN]
theorem W2k (h:g_are_names [tls ml] = .ok (.bl true)) (hl:ml.length ≠ 0):i_0 (evI n ml sp ap x) T = .go (.nx (evI n ml sp ap x)) T:=by
  have l:=X26 (ml:=ml) (T:=T)
  unfold i_0 evI
  simp [ev0,Z9,Z0r,W7,W0,X2,Q1,X3,U5,V0,V4,Z0d,Q9,Z0w,Q4,U3,Y2,V5,Z1,m_c,Z8,Z0,Z7,W9,W1,V3,V2,Y4,Z1s,Y6,X4,Z1e,Z1q,W4,U2,X7,Q0,Z25,Z0v,Z3q,Y7,W3,R.bind,R.so,RO.then,items,ixO,ixD,Z2v,Z04,op2,Y5,tb,Z0p,Z0j,Z0o,Z0i,slX,V1,U1,Y8,Y9,Z3g,Z24,Z0h,Z3t,Z27,Z2m,Z2i,Z2r,Z3o,Q7,ints?,Z3f,Z3i,Z3h,ds?,Z19,callP,X.isD,D.noL,D.noLs,D.noLf,V8,Z0l,Z0e,Z0u,Z3k,Z3n,Z3p,Z3x,h,l,Y10,hl]
theorem Y8n {α:Type} (l:List α):Y3b (fun l=>l.all id) [.d (.lst (l.map fun _=>D.bl true))] T = .ok (.d (.bl true)) T:=Y34 l T
theorem W2l (h:g_are_names [tls sp] = .ok (.bl true)) (hz:sp.length ≤ sizeLine) (hc:Z4w (ml.map D.str) (some 1) none=ms.map D.str) (hin:∀ s ∈ sp,s ∈ ms):i_1 (evI n ml sp ap x) T = .go (.nx (evI n ml sp ap x)) T:=by
  have hlc:Z14 (.nm 6) (V7 (Z1 2)) (W8) (Y2 inD (Z1 6) (Y6 (Z1 1) (X4 (m_c (.int 1))) (Z1e))) [6] (evI n ml sp ap x) T = .ok (.d (.lst (sp.map fun _ => .bl true))) T:=by
    refine Z4f (fun s => .d (.str s)) (fun _ => .bl true) (l:=sp) ?_ hz fun s hs=>⟨_,rfl,?_⟩
    · unfold V7 evI
      simp [ev0,Z9,Z0r,W7,W0,X2,Q1,X3,U5,V0,V4,Z0d,Q9,Z0w,Q4,U3,Y2,V5,Z1,m_c,Z8,Z0,Z7,W9,W1,V3,V2,Y4,Z1s,Y6,X4,Z1e,Z1q,W4,U2,X7,Q0,Z25,Z0v,Z3q,Y7,W3,R.bind,R.so,RO.then,items,ixO,ixD,Z2v,Z04,op2,Y5,tb,Z0p,Z0j,Z0o,Z0i,slX,V1,U1,Y8,Y9,Z3g,Z24,Z0h,Z3t,Z27,Z2m,Z2i,Z1d,Z2r,Z3o,Q7,ints?,Z3f,Z3i,Z3h,ds?,Z19,callP,X.isD,D.noL,D.noLs,D.noLf,V8,Z0l,Z0e,Z0u,Z3k,Z3n,Z3p,Z3x,Y1d]
    · have a:=W54 (ml:=ml) (T:=T)
      rw [hc] at a
      have b:inD (.str s) (.lst (ms.map D.str))=some (.bl true):=by rw [X20,decide_eq_true (hin s hs)]
      unfold evI
      simp [ev0,Z9,Z0r,W7,W0,X2,Q1,X3,U5,V0,V4,Z0d,Q9,Z0w,Q4,U3,Y2,V5,Z1,m_c,Z8,Z0,Z7,W9,W1,V3,V2,Y4,Z1s,Y6,X4,Z1e,Z1q,W4,U2,X7,Q0,Z25,Z0v,Z3q,Y7,W3,R.bind,R.so,RO.then,items,ixO,ixD,Z2v,Z04,op2,Y5,tb,Z0p,Z0j,Z0o,Z0i,V1,U1,Y8,Y9,Z3g,Z24,Z0h,Z3t,Z27,Z2m,Z2i,Z1d,Z2r,Z3o,Q7,ints?,Z3f,Z3i,Z3h,ds?,Z19,callP,X.isD,D.noL,D.noLs,D.noLf,V8,Z0l,Z0e,Z0u,Z3k,Z3n,Z3p,Z3x,Z0s,a,b]
  have ha:=Y8n sp (T:=T)
  unfold i_1
  unfold evI at *
  simp [ev0,Z9,Z0r,W7,W0,X2,Q1,X3,U5,V0,V4,Z0d,Q9,Z0w,Q4,U3,Y2,V5,Z1,m_c,Z8,Z0,Z7,W9,W1,V3,V2,Y4,Z1s,Y6,X4,Z1e,Z1q,W4,U2,X7,Q0,Z25,Z0v,Z3q,Y7,W3,R.bind,R.so,RO.then,items,ixO,ixD,Z2v,Z04,op2,Y5,tb,Z0p,Z0j,Z0o,Z0i,slX,V1,U1,Y8,Y9,Z3g,Z24,Z0h,Z3t,Z27,Z2m,Z2i,Z1d,Z2r,Z3o,Q7,ints?,Z3f,Z3i,Z3h,ds?,Z19,callP,X.isD,D.noL,D.noLs,D.noLf,V8,Z0l,Z0e,Z0u,Z3k,Z3n,Z3p,Z3x,h,hlc,ha]
theorem W2m (h:g_are_names [tls ap] = .ok (.bl true)) (hz:ap.length ≤ sizeLine) (hin:∀ s ∈ ap,s ∈ ml):i_2 (evI n ml sp ap x) T = .go (.nx (evI n ml sp ap x)) T:=by
  have hlc:Z14 (.nm 6) (V7 (Z1 3)) (W8) (Y2 inD (Z1 6) (Z1 1)) [6] (evI n ml sp ap x) T = .ok (.d (.lst (ap.map fun _ => .bl true))) T:=by
    refine Z4f (fun s => .d (.str s)) (fun _ => .bl true) (l:=ap) ?_ hz fun s hs=>⟨_,rfl,?_⟩
    · unfold V7 evI
      simp [ev0,Z9,Z0r,W7,W0,X2,Q1,X3,U5,V0,V4,Z0d,Q9,Z0w,Q4,U3,Y2,V5,Z1,m_c,Z8,Z0,Z7,W9,W1,V3,V2,Y4,Z1s,Y6,X4,Z1e,Z1q,W4,U2,X7,Q0,Z25,Z0v,Z3q,Y7,W3,R.bind,R.so,RO.then,items,ixO,ixD,Z2v,Z04,op2,Y5,tb,Z0p,Z0j,Z0o,Z0i,slX,V1,U1,Y8,Y9,Z3g,Z24,Z0h,Z3t,Z27,Z2m,Z2i,Z1d,Z2r,Z3o,Q7,ints?,Z3f,Z3i,Z3h,ds?,Z19,callP,X.isD,D.noL,D.noLs,D.noLf,V8,Z0l,Z0e,Z0u,Z3k,Z3n,Z3p,Z3x,Y1d]
    · have b:inD (.str s) (tls ml)=some (.bl true):=by rw [X8f,decide_eq_true (hin s hs)]
      unfold evI
      simp [ev0,Z9,Z0r,W7,W0,X2,Q1,X3,U5,V0,V4,Z0d,Q9,Z0w,Q4,U3,Y2,V5,Z1,m_c,Z8,Z0,Z7,W9,W1,V3,V2,Y4,Z1s,Y6,X4,Z1e,Z1q,W4,U2,X7,Q0,Z25,Z0v,Z3q,Y7,W3,R.bind,R.so,RO.then,items,ixO,ixD,Z2v,Z04,op2,Y5,tb,Z0p,Z0j,Z0o,Z0i,slX,V1,U1,Y8,Y9,Z3g,Z24,Z0h,Z3t,Z27,Z2m,Z2i,Z1d,Z2r,Z3o,Q7,ints?,Z3f,Z3i,Z3h,ds?,Z19,callP,X.isD,D.noL,D.noLs,D.noLf,V8,Z0l,Z0e,Z0u,Z3k,Z3n,Z3p,Z3x,Z0s,b]
  have ha:=Y8n ap (T:=T)
  unfold i_2
  unfold evI at *
  simp [ev0,Z9,Z0r,W7,W0,X2,Q1,X3,U5,V0,V4,Z0d,Q9,Z0w,Q4,U3,Y2,V5,Z1,m_c,Z8,Z0,Z7,W9,W1,V3,V2,Y4,Z1s,Y6,X4,Z1e,Z1q,W4,U2,X7,Q0,Z25,Z0v,Z3q,Y7,W3,R.bind,R.so,RO.then,items,ixO,ixD,Z2v,Z04,op2,Y5,tb,Z0p,Z0j,Z0o,Z0i,slX,V1,U1,Y8,Y9,Z3g,Z24,Z0h,Z3t,Z27,Z2m,Z2i,Z1d,Z2r,Z3o,Q7,ints?,Z3f,Z3i,Z3h,ds?,Z19,callP,X.isD,D.noL,D.noLs,D.noLf,V8,Z0l,Z0e,Z0u,Z3k,Z3n,Z3p,Z3x,h,hlc,ha]
theorem W2n (hx:RX T x rows lk) (hz:rows.length ≤ sizeLine):i_3 (evI n ml sp ap x) T = .go (.nx (evI n ml sp ap x)) T:=by
  have hlc:Z14 (.nm 5) (V7 (Z1 4)) (W8) (Z6b Z5k [("Row",true),("Tool",false)] (Z1 5)) [5] (evI n ml sp ap x) T = .ok (.d (.lst (rows.map fun _ => .bl true))) T:=by
    refine Y7k hx.ok (fun r => .d (Z3d r)) (fun _ => .bl true) (l:=rows) ?_ hz fun s hs=>⟨_,rfl,?_⟩
    · unfold V7 evI
      simp [ev0,Z9,Z0r,W7,W0,X2,Q1,X3,U5,V0,V4,Z0d,Q9,Z0w,Q4,U3,Y2,V5,Z1,m_c,Z8,Z0,Z7,W9,W1,V3,V2,Y4,Z1s,Y6,X4,Z1e,Z1q,W4,U2,X7,Q0,Z25,Z0v,Z3q,Y7,W3,R.bind,R.so,RO.then,items,ixO,ixD,Z2v,Z04,op2,Y5,tb,Z0p,Z0j,Z0o,Z0i,slX,V1,U1,Y8,Y9,Z3g,Z24,Z0h,Z3t,Z27,Z2m,Z2i,Z1d,Z2r,Z3o,Q7,ints?,Z3f,Z3i,Z3h,ds?,Z19,callP,X.isD,D.noL,D.noLs,D.noLf,V8,Z0l,Z0e,Z0u,Z3k,Z3n,Z3p,Z3x,hx.walk]
    · have b:isX Z5k [("Row",true),("Tool",false)] T (.d (Z3d s))=some true:=W0n
      unfold evI
      simp [ev0,Z9,Z0r,W7,W0,X2,Q1,X3,U5,V0,V4,Z0d,Q9,Z0w,Q4,U3,Y2,V5,Z1,m_c,Z8,Z0,Z7,W9,W1,V3,V2,Y4,Z1s,Y6,X4,Z1e,Z1q,W4,U2,X7,Q0,Z25,Z0v,Z3q,Y7,W3,R.bind,R.so,RO.then,items,ixO,ixD,Z2v,Z04,op2,Y5,tb,Z0p,Z0j,Z0o,Z0i,slX,V1,U1,Y8,Y9,Z3g,Z24,Z0h,Z3t,Z27,Z2m,Z2i,Z1d,Z2r,Z3o,Q7,ints?,Z3f,Z3i,Z3h,ds?,Z19,callP,X.isD,D.noL,D.noLs,D.noLf,V8,Z0l,Z0e,Z0u,Z3k,Z3n,Z3p,Z3x,Z0s,Z6b,b]
  have ha:=Y8n rows (T:=T)
  have hs:=X4l (rows.map Z3d)
  have hg:=hx.get
  unfold i_3
  unfold evI at *
  simp [ev0,Z9,Z0r,W7,W0,X2,Q1,X3,U5,V0,V4,Z0d,Q9,Z0w,Q4,U3,Y2,V5,Z1,m_c,Z8,Z0,Z7,W9,W1,V3,V2,Y4,Z1s,Y6,X4,Z1e,Z1q,W4,U2,X7,Q0,Z25,Z0v,Z3q,Y7,W3,R.bind,R.so,RO.then,items,ixO,ixD,Z2v,Z04,op2,Y5,tb,Z0p,Z0j,Z0o,Z0i,slX,V1,U1,Y8,Y9,Z3g,Z24,Z0h,Z3t,Z27,Z2m,Z2i,Z1d,Z2r,Z3o,Q7,ints?,Z3f,Z3i,Z3h,ds?,Z19,callP,X.isD,D.noL,D.noLs,D.noLf,V8,Z0l,Z0e,Z0u,Z3k,Z3n,Z3p,Z3x,hs,hlc,ha,hg]
theorem Y36 {r:Z16}:Z0i ["Row"] "word" T (.d (Z3d r))=some (.d (.str r.1)):=by rfl
theorem Y8s {r:Z16}:Z0i ["Row"] "old" T (.d (Z3d r))=some (.d (.str r.2.1)):=by rfl
theorem Y61 {r:Z16}:Z0i ["Row"] "then" T (.d (Z3d r))=some (.d (.str r.2.2.1)):=by rfl
theorem W2o (hx:RX T x rows lk) (hz:rows.length ≤ sizeLine) (hm:ml.length + 1 ≤ sizeLine) (h1:∀ r ∈ rows,r.2.1 ∈ ("any" : Str) :: ml) (h2:∀ r ∈ rows,r.2.2.1 ∈ ("same" : Str) :: ml):i_4 (evI n ml sp ap x) T = .go (.nx (evI n ml sp ap x)) T:=by
  have hlc:Z14 (.nm 5) (V7 (Z1 4)) (W8) (Q0 (Y2 inD (Y4 ["Row"] "old" (Z1 5)) (W1 (Z0 (m_c (.str "any")) (W9 (Z1 1) (Z7))))) (Y2 inD (Y4 ["Row"] "then" (Z1 5)) (W1 (Z0 (m_c (.str "same")) (W9 (Z1 1) (Z7)))))) [5] (evI n ml sp ap x) T = .ok (.d (.lst (rows.map fun _ => .bl true))) T:=by
    refine Y7k hx.ok (fun r => .d (Z3d r)) (fun _ => .bl true) (l:=rows) ?_ hz fun r hr=>⟨_,rfl,?_⟩
    · unfold V7 evI
      simp [ev0,Z9,Z0r,W7,W0,X2,Q1,X3,U5,V0,V4,Z0d,Q9,Z0w,Q4,U3,Y2,V5,Z1,m_c,Z8,Z0,Z7,W9,W1,V3,V2,Y4,Z1s,Y6,X4,Z1e,Z1q,W4,U2,X7,Q0,Z25,Z0v,Z3q,Y7,W3,R.bind,R.so,RO.then,items,ixO,ixD,Z2v,Z04,op2,Y5,tb,Z0p,Z0j,Z0o,Z0i,slX,V1,U1,Y8,Y9,Z3g,Z24,Z0h,Z3t,Z27,Z2m,Z2i,Z1d,Z2r,Z3o,Q7,ints?,Z3f,Z3i,Z3h,ds?,Z19,callP,X.isD,D.noL,D.noLs,D.noLf,V8,Z0l,Z0e,Z0u,Z3k,Z3n,Z3p,Z3x,hx.walk]
    · have b1:inD (.str r.2.1) (.tup (D.str "any" :: ml.map D.str))=some (.bl true):=by
        rw [show (D.str "any" :: ml.map D.str)=(("any" : Str) :: ml).map D.str from rfl,Z8j,decide_eq_true (h1 r hr)]
      have b2:inD (.str r.2.2.1) (.tup (D.str "same" :: ml.map D.str))=some (.bl true):=by
        rw [show (D.str "same" :: ml.map D.str)=(("same" : Str) :: ml).map D.str from rfl,Z8j,decide_eq_true (h2 r hr)]
      have c1:=Y8s (T:=T) (r:=r)
      have c2:=Y61 (T:=T) (r:=r)
      have it:Bv.items T (.d (tls ml))=some ((ml.map D.str).map X.d):=rfl
      have dm:=Y1z (ml.map D.str)
      unfold evI
      simp [-List.map_map,ev0,Z9,Z0r,W7,W0,X2,Q1,X3,U5,V0,V4,Z0d,Q9,Z0w,Q4,U3,Y2,V5,Z1,m_c,Z8,Z0,Z7,W9,W1,V3,V2,Y4,Z1s,Y6,X4,Z1e,Z1q,W4,U2,X7,Q0,Z25,Z0v,Z3q,Y7,W3,R.bind,R.so,RO.then,ixO,ixD,Z2v,Z04,op2,Y5,tb,Z0p,Z0j,Z0o,slX,V1,U1,Y8,Y9,Z3g,Z24,Z0h,Z3t,Z27,Z2m,Z2i,Z1d,Z2r,Z3o,Q7,ints?,Z3f,Z3i,Z3h,ds?,Z19,callP,X.isD,D.noL,D.noLs,D.noLf,V8,Z0l,Z0e,Z0u,Z3k,Z3n,Z3p,Z3x,Z0s,b1,b2,c1,c2,it,dm,hm]
  have ha:=Y8n rows (T:=T)
  unfold i_4
  unfold evI at *
  simp [ev0,Z9,Z0r,W7,W0,X2,Q1,X3,U5,V0,V4,Z0d,Q9,Z0w,Q4,U3,Y2,V5,Z1,m_c,Z8,Z0,Z7,W9,W1,V3,V2,Y4,Z1s,Y6,X4,Z1e,Z1q,W4,U2,X7,Q0,Z25,Z0v,Z3q,Y7,W3,R.bind,R.so,RO.then,items,ixO,ixD,Z2v,Z04,op2,Y5,tb,Z0p,Z0j,Z0o,Z0i,slX,V1,U1,Y8,Y9,Z3g,Z24,Z0h,Z3t,Z27,Z2m,Z2i,Z1d,Z2r,Z3o,Q7,ints?,Z3f,Z3i,Z3h,ds?,Z19,callP,X.isD,D.noL,D.noLs,D.noLf,V8,Z0l,Z0e,Z0u,Z3k,Z3n,Z3p,Z3x,hlc,ha]
theorem W2p (hx:RX T x rows lk) (hz:rows.length ≤ sizeLine) (h1:∀ r ∈ rows,r.1 ≠ "give" → r.2.1 ≠ m0):i_5 (evI n (m0 :: ms) sp ap x) T = .go (.nx (evI n (m0 :: ms) sp ap x)) T:=by
  have hlc:Z14 (.nm 5) (V7 (Z1 4)) (W8) (Q0 (Y2 neD (Y4 ["Row"] "word" (Z1 5)) (m_c (.str "give"))) (Y2 eqD (Y4 ["Row"] "old" (Z1 5)) (V5 (Z1 1) (m_c (.int 0))))) [5] (evI n (m0 :: ms) sp ap x) T = .ok (.d (.lst (rows.map fun _ => .bl false))) T:=by
    refine Y7k hx.ok (fun r => .d (Z3d r)) (fun _ => .bl false) (l:=rows) ?_ hz fun r hr=>⟨_,rfl,?_⟩
    · unfold V7 evI
      simp [ev0,Z9,Z0r,W7,W0,X2,Q1,X3,U5,V0,V4,Z0d,Q9,Z0w,Q4,U3,Y2,V5,Z1,m_c,Z8,Z0,Z7,W9,W1,V3,V2,Y4,Z1s,Y6,X4,Z1e,Z1q,W4,U2,X7,Q0,Z25,Z0v,Z3q,Y7,W3,R.bind,R.so,RO.then,items,ixO,ixD,Z2v,Z04,op2,Y5,tb,Z0p,Z0j,Z0o,Z0i,slX,V1,U1,Y8,Y9,Z3g,Z24,Z0h,Z3t,Z27,Z2m,Z2i,Z1d,Z2r,Z3o,Q7,ints?,Z3f,Z3i,Z3h,ds?,Z19,callP,X.isD,D.noL,D.noLs,D.noLf,V8,Z0l,Z0e,Z0u,Z3k,Z3n,Z3p,Z3x,hx.walk]
    · have c1:=Y36 (T:=T) (r:=r)
      have c2:=Y8s (T:=T) (r:=r)
      have c3:=X8h (T:=T) (m0:=m0) (ms:=ms)
      unfold evI
      by_cases g:r.1 = "give"
      · simp [ev0,Z9,Z0r,W7,W0,X2,Q1,X3,U5,V0,V4,Z0d,Q9,Z0w,Q4,U3,Y2,V5,Z1,m_c,Z8,Z0,Z7,W9,W1,V3,V2,Y4,Z1s,Y6,X4,Z1e,Z1q,W4,U2,X7,Q0,Z25,Z0v,Z3q,Y7,W3,R.bind,R.so,RO.then,items,ixD,Z2v,Z04,op2,Y5,tb,Z0p,Z0j,Z0o,slX,V1,U1,Y8,Y9,Z3g,Z24,Z0h,Z3t,Z27,Z2m,Z2i,Z1d,Z2r,Z3o,Q7,ints?,Z3f,Z3i,Z3h,ds?,Z19,callP,X.isD,D.noL,D.noLs,D.noLf,V8,Z0l,Z0e,Z0u,Z3k,Z3n,Z3p,Z3x,Z0s,c1,c2,c3,Z50,Z2n,g]
      · have g2:=h1 r hr g
        simp [ev0,Z9,Z0r,W7,W0,X2,Q1,X3,U5,V0,V4,Z0d,Q9,Z0w,Q4,U3,Y2,V5,Z1,m_c,Z8,Z0,Z7,W9,W1,V3,V2,Y4,Z1s,Y6,X4,Z1e,Z1q,W4,U2,X7,Q0,Z25,Z0v,Z3q,Y7,W3,R.bind,R.so,RO.then,items,ixD,Z2v,Z04,op2,Y5,tb,Z0p,Z0j,Z0o,slX,V1,U1,Y8,Y9,Z3g,Z24,Z0h,Z3t,Z27,Z2m,Z2i,Z1d,Z2r,Z3o,Q7,ints?,Z3f,Z3i,Z3h,ds?,Z19,callP,X.isD,D.noL,D.noLs,D.noLf,V8,Z0l,Z0e,Z0u,Z3k,Z3n,Z3p,Z3x,Z0s,c1,c2,c3,Z50,Z2n,g,g2]
  have ha:=X1w rows T
  unfold i_5
  unfold evI at *
  simp [ev0,Z9,Z0r,W7,W0,X2,Q1,X3,U5,V0,V4,Z0d,Q9,Z0w,Q4,U3,Y2,V5,Z1,m_c,Z8,Z0,Z7,W9,W1,V3,V2,Y4,Z1s,Y6,X4,Z1e,Z1q,W4,U2,X7,Q0,Z25,Z0v,Z3q,Y7,W3,R.bind,R.so,RO.then,items,ixO,ixD,Z2v,Z04,op2,Y5,tb,Z0p,Z0j,Z0o,Z0i,slX,V1,U1,Y8,Y9,Z3g,Z24,Z0h,Z3t,Z27,Z2m,Z2i,Z1d,Z2r,Z3o,Q7,ints?,Z3f,Z3i,Z3h,ds?,Z19,callP,X.isD,D.noL,D.noLs,D.noLf,V8,Z0l,Z0e,Z0u,Z3k,Z3n,Z3p,Z3x,hlc,ha]
end
end Lw
namespace Lw
open PySem PySem.Spec L2 Bv
open PyProof.Rows hiding St
variable [HasW]
section
variable {S:Sto} {ml sp ap ms sh as:List Str} {m0:Str} {x:X} {rows:List Z16} {lk:Lk} {fs:List (Str × X)}
theorem W35 {f:Str} {y:X} (h:fs.length < 1000):Z27 ["Tool"] f (S++[.ins "Tool" fs]) (.r S.length) y=some (S++[.ins "Tool" (Z2m f y fs)]):=by
  have c:(["Tool"]:List Str).contains ("Tool" : Str)=true:=by rfl
  have g:(S++[O.ins "Tool" fs])[S.length]?=some (.ins "Tool" fs):=by simp
  unfold Z27
  simp only [g]
  show (if (["Tool"]:List Str).contains ("Tool" : Str) && decide (fs.length < 1000) then some ((S++[O.ins "Tool" fs]).set S.length (.ins "Tool" (Z2m f y fs))) else none)=_
  rw [c,decide_eq_true h]
  simp
theorem Y8j {T:Sto}:Z75 [.d (.lst (ml.map D.str))] T = .ok (.d (.tup (ml.map D.str))) T:=by
  have h:=Y1z (ml.map D.str)
  unfold Z75
  simp [-List.map_map,items,h]
theorem fls {f:Str} {m:M} {e:Ev} {T:Sto} {y:X} (h0:e[0]?=some (some (.r S.length))) (hT:T=S++[.ins "Tool" fs]) (hm:m e T = .ok y T) (hl:fs.length < 1000):Q4 ["Tool"] f (Z1 0) m e T = .go (.nx e) (S++[.ins "Tool" (Z2m f y fs)]):=by
  have h:=W35 (S:=S) (f:=f) (y:=y) hl
  unfold Q4 Z1
  rw [hm]
  simp [R.so,h0,hT,h]
theorem W2q (hl:fs.length < 1000):i_6 (evI S.length ml sp ap x) (S++[.ins "Tool" fs]) = .go (.nx (evI S.length ml sp ap x)) (S++[.ins "Tool" (Z2m "marks" (.d (.tup (ml.map D.str))) fs)]):=by
  refine fls rfl rfl ?_ hl
  have h:=Y8j (ml:=ml) (T:=S++[.ins "Tool" fs])
  unfold evI tls
  simp [ev0,Z9,Z0r,W7,W0,X2,Q1,X3,U5,V0,V4,Z0d,Q9,Z0w,Q4,U3,Y2,V5,Z1,m_c,Z8,Z0,Z7,W9,W1,V3,V2,Y4,Z1s,Y6,X4,Z1e,Z1q,W4,U2,X7,Q0,Z25,Z0v,Z3q,Y7,W3,R.bind,R.so,RO.then,items,ixO,ixD,Z2v,Z04,op2,Y5,tb,Z0p,Z0j,Z0o,Z0i,slX,V1,U1,Y8,Y9,Z3g,Z24,Z0h,Z3t,Z27,Z2m,Z2i,Z1d,Z2r,Z3o,Q7,ints?,Z3f,Z3i,Z3h,ds?,Z19,callP,X.isD,D.noL,D.noLs,D.noLf,V8,Z0l,Z0e,Z0u,Z3k,Z3n,Z3p,Z3x,h]
theorem W8y {i:Nat} {l:List Str} {T:Sto} {e:Ev} (hz:ml.length ≤ sizeLine) (h1:e[1]?=some (some (.d (tls ml)))) (hi:e[i]?=some (some (.d (tls l)))) (h7:e.length=7) (hne:i ≠ 6):Z14 (.nm 6) (V7 (Z1 1)) (U3 (Y2 inD (Z1 6) (Z1 i))) (Z1 6) [6] e T = .ok (.d (.lst ((ml.filter fun s=>decide (s ∈ l)).map D.str))) T:=by
  refine Y7l (fun s => .d (.str s)) D.str (fun s=>decide (s ∈ l)) (l:=ml) ?_ hz fun s hs=>⟨_,rfl,?_,fun _=>?_⟩
  · unfold V7
    simp [ev0,Z9,Z0r,W7,W0,X2,Q1,X3,U5,V0,V4,Z0d,Q9,Z0w,Q4,U3,Y2,V5,Z1,m_c,Z8,Z0,Z7,W9,W1,V3,V2,Y4,Z1s,Y6,X4,Z1e,Z1q,W4,U2,X7,Q0,Z25,Z0v,Z3q,Y7,W3,R.bind,R.so,RO.then,items,ixO,ixD,Z2v,Z04,op2,Y5,tb,Z0p,Z0j,Z0o,Z0i,slX,V1,U1,Y8,Y9,Z3g,Z24,Z0h,Z3t,Z27,Z2m,Z2i,Z1d,Z2r,Z3o,Q7,ints?,Z3f,Z3i,Z3h,ds?,Z19,callP,X.isD,D.noL,D.noLs,D.noLf,V8,Z0l,Z0e,Z0u,Z3k,Z3n,Z3p,Z3x,h1,Y1d]
  · have g6:((Z0s e [6]).set 6 (some (X.d (.str s))))[6]?=some (some (X.d (.str s))):=List.getElem?_set_self (by rw [Z34]; omega)
    have gi:((Z0s e [6]).set 6 (some (X.d (.str s))))[i]?=some (some (.d (tls l))):=by
      rw [List.getElem?_set_ne (Ne.symm hne)]
      show (e.set 6 none)[i]?=_
      rw [List.getElem?_set_ne (Ne.symm hne)]
      exact hi
    simp [ev0,Z9,Z0r,W7,W0,X2,Q1,X3,U5,V0,V4,Z0d,Q9,Z0w,Q4,U3,Y2,V5,Z1,m_c,Z8,Z0,Z7,W9,W1,V3,V2,Y4,Z1s,Y6,X4,Z1e,Z1q,W4,U2,X7,Q0,Z25,Z0v,Z3q,Y7,W3,R.bind,R.so,RO.then,items,ixO,ixD,Z2v,Z04,op2,Y5,tb,Z0p,Z0j,Z0o,Z0i,slX,V1,U1,Y8,Y9,Z3g,Z24,Z0h,Z3t,Z27,Z2m,Z2i,Z1d,Z2r,Z3o,Q7,ints?,Z3f,Z3i,Z3h,ds?,Z19,callP,X.isD,D.noL,D.noLs,D.noLf,V8,Z0l,Z0e,Z0u,Z3k,Z3n,Z3p,Z3x,g6,gi,X8f]
  · have g6:((Z0s e [6]).set 6 (some (X.d (.str s))))[6]?=some (some (X.d (.str s))):=List.getElem?_set_self (by rw [Z34]; omega)
    unfold Z1
    rw [g6]
theorem W2r (hl:fs.length < 1000) (hz:ml.length ≤ sizeLine) (hf:ml.filter (fun s=>decide (s ∈ sp))=sh):i_7 (evI S.length ml sp ap x) (S++[.ins "Tool" fs]) = .go (.nx (evI S.length ml sp ap x)) (S++[.ins "Tool" (Z2m "shown" (.d (.tup (sh.map D.str))) fs)]):=by
  refine fls rfl rfl ?_ hl
  have h:=Y8j (ml:=sh) (T:=S++[.ins "Tool" fs])
  have g:=W8y (i:=2) (l:=sp) (ml:=ml) (T:=S++[.ins "Tool" fs]) (e:=evI S.length ml sp ap x) hz rfl rfl rfl (by decide)
  rw [hf] at g
  simp [ev0,Z9,Z0r,W7,W0,X2,Q1,X3,U5,V0,V4,Z0d,Q9,Z0w,Q4,U3,Y2,V5,Z1,m_c,Z8,Z0,Z7,W9,W1,V3,V2,Y4,Z1s,Y6,X4,Z1e,Z1q,W4,U2,X7,Q0,Z25,Z0v,Z3q,Y7,W3,R.bind,R.so,RO.then,items,ixO,ixD,Z2v,Z04,op2,Y5,tb,Z0p,Z0j,Z0o,Z0i,slX,V1,U1,Y8,Y9,Z3g,Z24,Z0h,Z3t,Z27,Z2m,Z2i,Z1d,Z2r,Z3o,Q7,ints?,Z3f,Z3i,Z3h,ds?,Z19,callP,X.isD,D.noL,D.noLs,D.noLf,V8,Z0l,Z0e,Z0u,Z3k,Z3n,Z3p,Z3x,g,h]
theorem W2s (hl:fs.length < 1000) (hz:ml.length ≤ sizeLine) (hf:ml.filter (fun s=>decide (s ∈ ap))=as):i_8 (evI S.length ml sp ap x) (S++[.ins "Tool" fs]) = .go (.nx (evI S.length ml sp ap x)) (S++[.ins "Tool" (Z2m "asked" (.d (.tup (as.map D.str))) fs)]):=by
  refine fls rfl rfl ?_ hl
  have h:=Y8j (ml:=as) (T:=S++[.ins "Tool" fs])
  have g:=W8y (i:=3) (l:=ap) (ml:=ml) (T:=S++[.ins "Tool" fs]) (e:=evI S.length ml sp ap x) hz rfl rfl rfl (by decide)
  rw [hf] at g
  simp [ev0,Z9,Z0r,W7,W0,X2,Q1,X3,U5,V0,V4,Z0d,Q9,Z0w,Q4,U3,Y2,V5,Z1,m_c,Z8,Z0,Z7,W9,W1,V3,V2,Y4,Z1s,Y6,X4,Z1e,Z1q,W4,U2,X7,Q0,Z25,Z0v,Z3q,Y7,W3,R.bind,R.so,RO.then,items,ixO,ixD,Z2v,Z04,op2,Y5,tb,Z0p,Z0j,Z0o,Z0i,slX,V1,U1,Y8,Y9,Z3g,Z24,Z0h,Z3t,Z27,Z2m,Z2i,Z1d,Z2r,Z3o,Q7,ints?,Z3f,Z3i,Z3h,ds?,Z19,callP,X.isD,D.noL,D.noLs,D.noLf,V8,Z0l,Z0e,Z0u,Z3k,Z3n,Z3p,Z3x,g,h]
theorem W2t (hl:fs.length < 1000) (hx:RX (S++[.ins "Tool" fs]) x rows lk):i_9 (evI S.length ml sp ap x) (S++[.ins "Tool" fs]) = .go (.nx (evI S.length ml sp ap x)) (S++[.ins "Tool" (Z2m "rows" (.d (.tup (rows.map Z3d))) fs)]):=by
  refine fls rfl rfl ?_ hl
  have h:Z75 [x] (S++[.ins "Tool" fs]) = .ok (.d (.tup (rows.map Z3d))) (S++[.ins "Tool" fs]):=by
    have d:=Y1z (rows.map Z3d)
    unfold Z75
    simp only [hx.items,Option.bind_some,d]
  unfold evI
  simp [ev0,Z9,Z0r,W7,W0,X2,Q1,X3,U5,V0,V4,Z0d,Q9,Z0w,Q4,U3,Y2,V5,Z1,m_c,Z8,Z0,Z7,W9,W1,V3,V2,Y4,Z1s,Y6,X4,Z1e,Z1q,W4,U2,X7,Q0,Z25,Z0v,Z3q,Y7,W3,R.bind,R.so,RO.then,items,ixO,ixD,Z2v,Z04,op2,Y5,tb,Z0p,Z0j,Z0o,Z0i,slX,V1,U1,Y8,Y9,Z3g,Z24,Z0h,Z3t,Z27,Z2m,Z2i,Z1d,Z2r,Z3o,Q7,ints?,Z3f,Z3i,Z3h,ds?,Z19,callP,X.isD,D.noL,D.noLs,D.noLf,V8,Z0l,Z0e,Z0u,Z3k,Z3n,Z3p,Z3x,h]
theorem X7p (hl:fs.length < 1000):W83 (evI S.length (m0 :: ms) sp ap x) (S++[.ins "Tool" fs]) = .go (.nx (evI S.length (m0 :: ms) sp ap x)) (S++[.ins "Tool" (Z2m "blank" (.d (.str m0)) fs)]):=by
  refine fls rfl rfl ?_ hl
  have c3:=X8h (T:=S++[.ins "Tool" fs]) (m0:=m0) (ms:=ms)
  unfold evI
  simp [ev0,Z9,Z0r,W7,W0,X2,Q1,X3,U5,V0,V4,Z0d,Q9,Z0w,Q4,U3,Y2,V5,Z1,m_c,Z8,Z0,Z7,W9,W1,V3,V2,Y4,Z1s,Y6,X4,Z1e,Z1q,W4,U2,X7,Q0,Z25,Z0v,Z3q,Y7,W3,R.bind,R.so,RO.then,items,ixD,Z2v,Z04,op2,Y5,tb,Z0p,Z0j,Z0o,Z0i,slX,V1,U1,Y8,Y9,Z3g,Z24,Z0h,Z3t,Z27,Z2m,Z2i,Z1d,Z2r,Z3o,Q7,ints?,Z3f,Z3i,Z3h,ds?,Z19,callP,X.isD,D.noL,D.noLs,D.noLf,V8,Z0l,Z0e,Z0u,Z3k,Z3n,Z3p,Z3x,c3]
theorem Y4s {l:List Str} (hn:l.Nodup) (hl:l.length < 1000) (h:∀ x ∈ l,x ∈ Z5m):g_are_names [tls l] = .ok (.bl true):=X0r hn hl fun x hx=>Y2k (List.all_eq_true.mp Y09 x (h x hx))
theorem X9o:("any" : Str) ∉ Z5m:=by decide +kernel
def X79 (m0:Str) (ms sh as:List Str) (rows:List Z16):List (Str × X):=[("marks", .d (.tup ((m0 :: ms).map D.str))),("shown", .d (.tup (sh.map D.str))),("asked", .d (.tup (as.map D.str))),("rows", .d (.tup (rows.map Z3d))),("blank", .d (.str m0))]
theorem Y6r (hS:OkS S) (h:ToolOk m0 ms sh as rows) (hp:sp.Perm sh) (hq:ap.Perm as) (hx:∀ fs,∃ lk,RX (S++[.ins "Tool" fs]) x rows lk):made "Tool" mkF Z2f [.d (tls (m0 :: ms)), .d (tls sp), .d (tls ap),x] S = .ok (.d (Z84 m0 ms sh as rows)) S:=by
  have hsz:∀ n:Nat,n < 1000→n ≤ sizeLine:=fun n h=>by rw [sizeLine_eq]; omega
  have lm:=h.few
  have lr:=h.len
  have ls:sh.length ≤ ms.length:=h.sh.length_le
  have la:as.length ≤ ms.length + 1:=h.as.length_le
  have lp:=hp.length_eq
  have lq:=hq.length_eq
  have zm:(m0 :: ms).length ≤ sizeLine:=hsz _ (by simp; omega)
  have zr:=hsz _ (show rows.length < 1000 by omega)
  have nms:ms.Nodup:=(List.nodup_cons.mp h.nd).2
  have n1:=Y4s h.nd (by simp; omega) h.names
  have n2:=Y4s (l:=sp) (hp.nodup_iff.mpr (nms.sublist h.sh)) (by omega) fun y hy=>h.names y (List.mem_cons_of_mem _ (h.sh.subset (hp.mem_iff.mp hy)))
  have n3:=Y4s (l:=ap) (hq.nodup_iff.mpr (h.nd.sublist h.as)) (by omega) fun y hy=>h.names y (h.as.subset (hq.mem_iff.mp hy))
  obtain ⟨lk,rx⟩:=hx []
  have p0:=W2k (n:=S.length) (ml:=m0 :: ms) (sp:=sp) (ap:=ap) (x:=x) (T:=S++[.ins "Tool" []]) n1 (by simp)
  have p1:=W2l (n:=S.length) (ml:=m0 :: ms) (ms:=ms) (sp:=sp) (ap:=ap) (x:=x) (T:=S++[.ins "Tool" []]) n2 (hsz _ (by omega)) (Y03 _ _) fun s hs=>h.sh.subset (hp.mem_iff.mp hs)
  have p2:=W2m (n:=S.length) (ml:=m0 :: ms) (sp:=sp) (ap:=ap) (x:=x) (T:=S++[.ins "Tool" []]) n3 (hsz _ (by omega)) fun s hs=>h.as.subset (hq.mem_iff.mp hs)
  have p3:=W2n (n:=S.length) (ml:=m0 :: ms) (sp:=sp) (ap:=ap) (x:=x) (T:=S++[.ins "Tool" []]) rx zr
  have p4:=W2o (n:=S.length) (ml:=m0 :: ms) (sp:=sp) (ap:=ap) (x:=x) (T:=S++[.ins "Tool" []]) rx zr (hsz _ (by simp; omega)) (fun r hr=>(h.rows r hr).2.1) (fun r hr=>(h.rows r hr).2.2.1)
  have p5:=W2p (n:=S.length) (m0:=m0) (ms:=ms) (sp:=sp) (ap:=ap) (x:=x) (T:=S++[.ins "Tool" []]) rx zr fun r hr g e=>by
    have:=((h.rows r hr).2.2.2 g).2
    rw [e] at this
    rcases List.mem_cons.mp this with e | m
    · exact X9o (e ▸ h.names m0 (by simp))
    · exact (List.nodup_cons.mp h.nd).1 m
  have f1:=Y3j h.nd (h.sh.cons m0) hp
  have f2:=Y3j h.nd h.as hq
  have p6:=W2q (S:=S) (ml:=m0 :: ms) (sp:=sp) (ap:=ap) (x:=x) (fs:=[]) (by decide)
  have p7:=W2r (S:=S) (ml:=m0 :: ms) (sp:=sp) (ap:=ap) (x:=x) (fs:=[("marks", .d (.tup ((m0 :: ms).map D.str)))]) (by simp) zm f1
  have p8:=W2s (S:=S) (ml:=m0 :: ms) (sp:=sp) (ap:=ap) (x:=x) (fs:=[("marks", .d (.tup ((m0 :: ms).map D.str))),("shown", .d (.tup (sh.map D.str)))]) (by simp) zm f2
  obtain ⟨lk9,rx9⟩:=hx [("marks", .d (.tup ((m0 :: ms).map D.str))),("shown", .d (.tup (sh.map D.str))),("asked", .d (.tup (as.map D.str)))]
  have p9:=W2t (S:=S) (ml:=m0 :: ms) (sp:=sp) (ap:=ap) (x:=x) (fs:=[("marks", .d (.tup ((m0 :: ms).map D.str))),("shown", .d (.tup (sh.map D.str))),("asked", .d (.tup (as.map D.str)))]) (by simp) rx9
  have p10:=X7p (S:=S) (m0:=m0) (ms:=ms) (sp:=sp) (ap:=ap) (x:=x) (fs:=[("marks", .d (.tup ((m0 :: ms).map D.str))),("shown", .d (.tup (sh.map D.str))),("asked", .d (.tup (as.map D.str))),("rows", .d (.tup (rows.map Z3d)))]) (by simp)
  have all:Z6n (ev0 7 [.r S.length, .d (tls (m0 :: ms)), .d (tls sp), .d (tls ap),x]) (S++[.ins "Tool" []]) = .go (.nx (evI S.length (m0 :: ms) sp ap x)) (S++[.ins "Tool" (X79 m0 ms sh as rows)]):=by
    rw [W7p]
    exact (Z1t p0).trans ((Z1t p1).trans ((Z1t p2).trans ((Z1t p3).trans ((Z1t p4).trans ((Z1t p5).trans ((Z1t p6).trans ((Z1t p7).trans ((Z1t p8).trans ((Z1t p9).trans p10)))))))))
  have l0:(S++[O.ins "Tool" []]).length=S.length + 1:=by simp
  have c2:cut (S++[O.ins "Tool" []]).length (S++[.ins "Tool" (X79 m0 ms sh as rows)])=some (S++[.ins "Tool" (X79 m0 ms sh as rows)]):=by
    have:=(hS.push (o := .ins "Tool" (X79 m0 ms sh as rows)) rfl).cut0
    rw [List.length_append] at this
    rw [l0]
    exact this
  have run:Z2f [.r S.length, .d (tls (m0 :: ms)), .d (tls sp), .d (tls ap),x] (S++[.ins "Tool" []]) = .ok (.d .non) (S++[.ins "Tool" (X79 m0 ms sh as rows)]):=X4j all c2
  have f0:frz (S++[.ins "Tool" (X79 m0 ms sh as rows)]) S.length=some (Z84 m0 ms sh as rows):=by
    have g:(S++[O.ins "Tool" (X79 m0 ms sh as rows)])[S.length]?=some (.ins "Tool" (X79 m0 ms sh as rows)):=by simp
    unfold frz
    rw [g]
    rfl
  exact X8s run f0 hS.cut
end
end Lw
namespace Lw
open PySem PySem.Spec L2 Bv
open PyProof.Rows hiding St
variable [HasW]
def zQ (r:Z16):Str:=zR r.1 r.2.1 r.2.2.1 r.2.2.2
def Z3y (m0:Str) (ms sp ap:List Str) (rows:List Z16):List Str:=Str.join " " ("marks" :: m0 :: ms) :: Str.join " " ("shown" :: sp) :: Str.join " " ("asked" :: ap) :: rows.map zQ
def zT (m0:Str) (ms sp ap:List Str) (rows:List Z16):Str:=Str.join "\n" (Z3y m0 ms sp ap rows)
theorem X9e {k:Nat}:∀ {l:List Str},(∀ z ∈ l,z.length ≤ k)→(l.map (fun z:Str=>z.length)).sum ≤ l.length * k
  | [],_=>by simp
  | a :: l,h=>by
    have h1:=h a (by simp)
    have h2:=X9e (l:=l) fun z hz=>h z (List.mem_cons_of_mem _ hz)
    simp only [List.map_cons,List.sum_cons,List.length_cons,Nat.add_mul]
    omega
theorem Y15 {k:Nat} {a:Str}:∀ {l:List Str},(∀ z ∈ l,z.length ≤ k)→(Str.join a l).length ≤ l.length * (k + a.length)
  | [],_=>by
    show (0:Nat) ≤ _
    exact Nat.zero_le _
  | [x],h=>by
    have h1:=h x (by simp)
    show x.length ≤ 1 * (k + a.length)
    omega
  | x :: y :: r,h=>by
    have h1:=h x (by simp)
    have h2:=Y15 (a:=a) (l:=y :: r) fun z hz=>h z (List.mem_cons_of_mem _ hz)
    have e:Str.join a (x :: y :: r)=x++a++Str.join a (y :: r):=rfl
    rw [e,X4x,X4x]
    rw [List.length_cons,Nat.add_mul]
    omega
theorem W6d (ss:List Str):Bv.strs? ((ss.map D.str).map X.d)=some ss:=X4y ss
theorem Y4j {k:Nat} {a:Str} {l:List Str} {T:Sto} (h:∀ z ∈ l,z.length ≤ k) (hb:l.length * (k + a.length) ≤ 16777216):Z2q a (.d (.lst (l.map D.str))) T = .ok (.d (.str (Str.join a l))) T:=by
  have s:=X9e h
  have e:l.length * (k + a.length)=l.length * k + l.length * a.length:=Nat.mul_add ..
  have b:decide ((l.map (fun z:Str=>z.length)).sum + l.length * a.length ≤ 16777216)=true:=decide_eq_true (by omega)
  unfold Z2q
  show (match (some ((l.map D.str).map X.d)).bind Bv.strs? with
    | some ys=>if decide ((ys.map (fun z:Str=>z.length)).sum + ys.length * a.length ≤ 16777216) then R.ok (X.d (.str (Str.join a ys))) T else .bad
    | none => .bad)=_
  rw [Option.bind_some,W6d]
  show (if decide ((l.map (fun z:Str=>z.length)).sum + l.length * a.length ≤ 16777216) then R.ok (X.d (.str (Str.join a l))) T else .bad)=_
  rw [if_pos b]
theorem X33 {x:Str} (h:x ∈ Z5m):x.length ≤ 5:=(Z4u (show x ∈ Y20 by unfold Y20; simp [h])).1
theorem Z2u:("marks" : Str).length=5∧("shown" : Str).length=5∧("asked" : Str).length=5∧("\n" : Str).length=1∧(" " : Str).length=1:=by decide +kernel
theorem W0r {w:Str} {l:List Str} {T:Sto} (hw:w.length=5) (h:∀ z ∈ l,z ∈ Z5m) (hl:l.length ≤ 5):Z2q " " (.d (.lst (D.str w :: l.map D.str))) T = .ok (.d (.str (Str.join " " (w :: l)))) T:=by
  have hz:∀ z ∈ w :: l,z.length ≤ 5:=fun z m=>(List.mem_cons.mp m).elim (fun e=>by rw [e]; omega) fun m=>X33 (h z m)
  exact Y4j (l:=w :: l) hz (by rw [Z2u.2.2.2.2,List.length_cons]; omega)
theorem Y4l {w:Str} {l:List Str} (hw:w.length=5) (h:∀ z ∈ l,z ∈ Z5m) (hl:l.length ≤ 5):(Str.join " " (w :: l)).length ≤ 40:=by
  have hz:∀ z ∈ w :: l,z.length ≤ 5:=fun z m=>(List.mem_cons.mp m).elim (fun e=>by rw [e]; omega) fun m=>X33 (h z m)
  have:=Y15 (a := " ") hz
  rw [Z2u.2.2.2.2,List.length_cons] at this
  omega
theorem W6p {w o t:Str} {k:Bool} (h:Y1j w o t k):(zR w o t k).length ≤ 40:=by
  have hz:∀ z ∈ Z35 w o t k,z.length ≤ 5:=fun z m=>(Z4u (Z9u h z m)).1
  have:=Y15 (a := " ") hz
  have hl:(Z35 w o t k).length ≤ 5:=by unfold Z35; split <;> simp
  rw [Z2u.2.2.2.2] at this
  unfold zR
  omega
section
variable {m0:Str} {ms sh as sp ap:List Str} {rows:List Z16} {T:Sto}
theorem Y16 (h:ToolOk m0 ms sh as rows) (hp:sp.Perm sh) (hq:ap.Perm as):(∀ z ∈ Z3y m0 ms sp ap rows,z.length ≤ 40)∧(Z3y m0 ms sp ap rows).length ≤ 23:=by
  obtain ⟨q1,q2,q3,_⟩:=Z2u
  have lm:=h.few
  have lr:=h.len
  have ls:sh.length ≤ ms.length:=h.sh.length_le
  have la:as.length ≤ ms.length + 1:=h.as.length_le
  have lp:=hp.length_eq
  have lq:=hq.length_eq
  refine ⟨fun z hz=>?_,by unfold Z3y; simp; omega⟩
  unfold Z3y at hz
  rcases List.mem_cons.mp hz with rfl | hz
  · exact Y4l q1 h.names (by simp; omega)
  rcases List.mem_cons.mp hz with rfl | hz
  · exact Y4l q2 (fun y hy=>h.names y (List.mem_cons_of_mem _ (h.sh.subset (hp.mem_iff.mp hy)))) (by omega)
  rcases List.mem_cons.mp hz with rfl | hz
  · exact Y4l q3 (fun y hy=>h.names y (h.as.subset (hq.mem_iff.mp hy))) (by omega)
  · obtain ⟨r,hr,rfl⟩:=List.mem_map.mp hz
    exact W6p ((h.rows r hr).ok h.names)
theorem Y3m (h:ToolOk m0 ms sh as rows) (hp:sp.Perm sh) (hq:ap.Perm as):Z2q "\n" (.d (.lst ((Z3y m0 ms sp ap rows).map D.str))) T = .ok (.d (.str (zT m0 ms sp ap rows))) T:=by
  obtain ⟨h1,h2⟩:=Y16 h hp hq
  refine Y4j h1 ?_
  rw [Z2u.2.2.2.1]
  omega
theorem W19 {f:D→PR} {mf:List X→Sto→R X} {g:Z16→D} {e:Ev} {i:Nat} (l:List Z16) (hz:l.length ≤ sizeLine) {mi:MIt} (hi:mi e T = .ok (l.map (fun r=>X.d (g r)), .free) T) (he:i < e.length) (h:∀ r ∈ l,mf [.d (g r)] T = .ok (.d (.str (zQ r))) T):Z14 (.nm i) mi (W8) (Z8 mf (Z0 (Z1 i) (Z7))) [i] e T = .ok (.d (.lst ((l.map zQ).map D.str))) T:=by
  have:=Z4f (t := .nm i) (mi:=mi) (me:=Z8 mf (Z0 (Z1 i) (Z7))) (vs:=[i]) (e:=e) (S:=T) (fun r => .d (g r)) (fun r => .str (zQ r)) (l:=l) hi hz fun r hr=>by
    refine ⟨_,rfl,?_⟩
    have g6:((Z0s e [i]).set i (some (X.d (g r))))[i]?=some (some (X.d (g r))):=List.getElem?_set_self (by rw [Z34]; omega)
    simp [ev0,Z9,Z0r,W7,W0,X2,Q1,X3,U5,V0,V4,Z0d,Q9,Z0w,Q4,U3,Y2,V5,Z1,m_c,Z8,Z0,Z7,W9,W1,V3,V2,Y4,Z1s,Y6,X4,Z1e,Z1q,W4,U2,X7,Q0,Z25,Z0v,Z3q,Y7,W3,R.bind,R.so,RO.then,items,ixO,ixD,Z2v,Z04,op2,Y5,tb,Z0p,Z0j,Z0o,Z0i,slX,V1,U1,Y8,Y9,Z3g,Z24,Z0h,Z3t,Z27,Z2m,Z2i,Z1d,Z2r,Z3o,Q7,ints?,Z3f,Z3i,Z3h,ds?,Z19,callP,X.isD,D.noL,D.noLs,D.noLf,V8,Z0l,Z0e,Z0u,Z3k,Z3n,Z3p,Z3x,g6,h r hr]
  rw [this,List.map_map]
  rfl
end
end Lw
namespace Lw
open PySem PySem.Spec L2 Bv
open PyProof.Rows hiding St
variable [HasW]
section
variable {m0:Str} {ms sh as sp ap:List Str} {rows:List Z16} {T:Sto}
theorem Y8r:Z0i ["Tool"] "marks" T (.d (Z84 m0 ms sh as rows))=some (.d (.tup ((m0 :: ms).map D.str))):=by rfl
theorem Y8t:Z0i ["Tool"] "shown" T (.d (Z84 m0 ms sh as rows))=some (.d (.tup (sh.map D.str))):=by rfl
theorem Y8p:Z0i ["Tool"] "asked" T (.d (Z84 m0 ms sh as rows))=some (.d (.tup (as.map D.str))):=by rfl
theorem Y60:Z0i ["Tool"] "rows" T (.d (Z84 m0 ms sh as rows))=some (.d (.tup (rows.map Z3d))):=by rfl
def Z5o (m0:Str) (ms sh as:List Str):List (Str × List Str):=[("marks",m0 :: ms),("shown",sh),("asked",as)]
theorem X7r (h:ToolOk m0 ms sh as rows):Z1g [Z84 m0 ms sh as rows] = .ok (.str (zT m0 ms sh as rows)):=by
  obtain ⟨q1,q2,q3,_⟩:=Z2u
  have lm:=h.few
  have lr:=h.len
  have ls:sh.length ≤ ms.length:=h.sh.length_le
  have la:as.length ≤ ms.length + 1:=h.as.length_le
  have hz:∀ n:Nat,n < 1000→n ≤ sizeLine:=fun n h=>by rw [sizeLine_eq]; omega
  have hin:∀ p ∈ Z5o m0 ms sh as,p.1.length=5∧(∀ z ∈ p.2,z ∈ Z5m)∧p.2.length ≤ 5:=fun p hp=>by
    unfold Z5o at hp
    simp only [List.mem_cons,List.not_mem_nil,or_false] at hp
    rcases hp with rfl | rfl | rfl
    · exact ⟨q1,h.names,by simp; omega⟩
    · exact ⟨q2,fun y hy=>h.names y (List.mem_cons_of_mem _ (h.sh.subset hy)),by show sh.length ≤ 5; omega⟩
    · exact ⟨q3,fun y hy=>h.names y (h.as.subset hy),by show as.length ≤ 5; omega⟩
  let l3:D := .lst [.tup ((m0 :: ms).map D.str), .tup (sh.map D.str), .tup (as.map D.str)]
  let e1:Ev:=[some (.d (Z84 m0 ms sh as rows)),some (.d l3),none,none,none,none]
  have hzip:X2z (Z0 (m_c (.tup ((["marks", "shown", "asked"]:List Str).map D.str))) (Z0 (Z1 1) (Z7))) e1 [] = .ok ((Z5o m0 ms sh as).map (fun p=>X.d (.tup [.str p.1, .tup (p.2.map D.str)])), .free) []:=rfl
  have hlc:Z14 (.tp [(.nm 3),(.nm 4)]) (X2z (Z0 (m_c (.tup ((["marks", "shown", "asked"]:List Str).map D.str))) (Z0 (Z1 1) (Z7)))) (W8) (Z2s Z2q (m_c (.str " ")) (V3 (Z0 (Z1 3) (W9 (Z1 4) (Z7))))) [3,4] e1 [] = .ok (.d (.lst ((Z5o m0 ms sh as).map fun p => .str (Str.join " " (p.1 :: p.2))))) []:=by
    refine Z4f _ (fun p => .str (Str.join " " (p.1 :: p.2))) (l:=Z5o m0 ms sh as) hzip (hz _ (show (3:Nat) < 1000 by decide)) fun p hp=>?_
    obtain ⟨a1,a2,a3⟩:=hin p hp
    refine ⟨[some (.d (Z84 m0 ms sh as rows)),some (.d l3),none,some (.d (.str p.1)),some (.d (.tup (p.2.map D.str))),none],rfl,?_⟩
    have j:=W0r (T:=[]) a1 a2 a3
    have it:Bv.items [] (.d (.tup (p.2.map D.str)))=some ((p.2.map D.str).map X.d):=rfl
    have dm:=Y1z (p.2.map D.str)
    have z:=hz (p.2.length + 1) (by omega)
    simp [-List.map_map,ev0,Z9,Z0r,W7,W0,X2,Q1,X3,U5,V0,V4,Z0d,Q9,Z0w,Q4,U3,Y2,V5,Z1,m_c,Z8,Z0,Z7,W9,W1,V3,V2,Y4,Z1s,Y6,X4,Z1e,Z1q,W4,U2,X7,Q0,Z25,Z0v,Z3q,Y7,W3,R.bind,R.so,RO.then,ixO,ixD,Z2v,Z04,op2,Y5,tb,Z0p,Z0j,Z0o,Z0i,slX,V1,U1,Y8,Y9,Z3g,Z24,Z0h,Z3t,Z27,Z2m,Z2i,Z1d,Z2r,Z3o,Q7,ints?,Z3f,Z3i,Z3h,ds?,Z19,callP,X.isD,D.noL,D.noLs,D.noLf,V8,Z0l,Z0e,Z0u,Z3k,Z3n,Z3p,Z3x,Z2s,it,dm,z,j]
  have hrl:=fun v=>W19 (T:=[]) (f:=fun _ => .bad) (mf:=Z5c "Row" Z5a) (g:=Z3d) (i:=5) (e:=[some (.d (Z84 m0 ms sh as rows)),some (.d l3),v,none,none,none]) (mi:=V7 (Y4 ["Tool"] "rows" (Z1 0))) rows (hz _ (by omega)) (by unfold V7; simp [ev0,Z9,Z0r,W7,W0,X2,Q1,X3,U5,V0,V4,Z0d,Q9,Z0w,Q4,U3,Y2,V5,Z1,m_c,Z8,Z0,Z7,W9,W1,V3,V2,Y4,Z1s,Y6,X4,Z1e,Z1q,W4,U2,X7,Q0,Z25,Z0v,Z3q,Y7,W3,R.bind,R.so,RO.then,items,ixO,ixD,Z2v,Z04,op2,Y5,tb,Z0p,Z0j,Z0o,slX,V1,U1,Y8,Y9,Z3g,Z24,Z0h,Z3t,Z27,Z2m,Z2i,Z1d,Z2r,Z3o,Q7,ints?,Z3f,Z3i,Z3h,ds?,Z19,callP,X.isD,D.noL,D.noLs,D.noLf,V8,Z0l,Z0e,Z0u,Z3k,Z3n,Z3p,Z3x,Y60,Y0g]) (by simp) fun r hr=>by
    have:=W2u ((h.rows r hr).ok h.names)
    have e:Z3d r=X8y r.1 r.2.1 r.2.2.1 r.2.2.2:=rfl
    rw [e]
    unfold X8y at *
    simp [Z5c,this]
    rfl
  have z3:=hz 3 (by decide)
  have ed:(Z5o m0 ms sh as).map (fun p=>D.str (Str.join " " (p.1 :: p.2)))=([Str.join " " ("marks" :: m0 :: ms),Str.join " " ("shown" :: sh),Str.join " " ("asked" :: as)]).map D.str:=rfl
  rw [ed] at hlc
  have jl:=Y3m (T:=[]) h (List.Perm.refl _) (List.Perm.refl _)
  have d1:ds? ((([Str.join " " ("marks" :: m0 :: ms),Str.join " " ("shown" :: sh),Str.join " " ("asked" :: as)]).map D.str).map X.d++((rows.map zQ).map D.str).map X.d)=some ((Z3y m0 ms sh as rows).map D.str):=by
    rw [← List.map_append,Y1z]
    rfl
  have zl:((Z3y m0 ms sh as rows).map D.str).length ≤ sizeLine:=by
    have:=(Y16 h (List.Perm.refl _) (List.Perm.refl _)).2
    rw [List.length_map]
    exact hz _ (by omega)
  have pd:(Z2s Z2q (m_c (.str "\n")) (V3 (W9 (Z1 2) (W9 (Z14 (.nm 5) (V7 (Y4 ["Tool"] "rows" (Z1 0))) (W8) (Z8 (Z5c "Row" Z5a) (Z0 (Z1 5) (Z7))) [5]) (Z7))))) [some (.d (Z84 m0 ms sh as rows)),some (.d l3),some (.d (.lst (([Str.join " " ("marks" :: m0 :: ms),Str.join " " ("shown" :: sh),Str.join " " ("asked" :: as)]).map D.str))),none,none,none] [] = .ok (.d (.str (zT m0 ms sh as rows))) []:=by
    have it1:Bv.items [] (.d (.lst (([Str.join " " ("marks" :: m0 :: ms),Str.join " " ("shown" :: sh),Str.join " " ("asked" :: as)]).map D.str)))=some ((([Str.join " " ("marks" :: m0 :: ms),Str.join " " ("shown" :: sh),Str.join " " ("asked" :: as)]).map D.str).map X.d):=rfl
    have it2:Bv.items [] (.d (.lst ((rows.map zQ).map D.str)))=some (((rows.map zQ).map D.str).map X.d):=rfl
    simp only [Z2s,m_c,V3,W9,Z1,Z7,R.bind,List.getElem?_cons_zero,List.getElem?_cons_succ,it1,hrl,it2,List.append_nil,Z0j,d1,if_pos zl,jl]
  unfold Z1g Z6e Z91
  have p1:(X2 1 (V3 (Z0 (Y4 ["Tool"] "marks" (Z1 0)) (Z0 (Y4 ["Tool"] "shown" (Z1 0)) (Z0 (Y4 ["Tool"] "asked" (Z1 0)) (Z7)))))) (ev0 6 ([Z84 m0 ms sh as rows].map X.d)) [] = .go (.nx e1) []:=by
    simp [ev0,Z9,Z0r,W7,W0,X2,Q1,X3,U5,V0,V4,Z0d,Q9,Z0w,Q4,U3,Y2,V5,Z1,m_c,Z8,Z0,Z7,W9,W1,V3,V2,Y4,Z1s,Y6,X4,Z1e,Z1q,W4,U2,X7,Q0,Z25,Z0v,Z3q,Y7,W3,R.bind,R.so,RO.then,items,ixO,ixD,Z2v,Z04,op2,Y5,tb,Z0p,Z0j,Z0o,slX,V1,U1,Y8,Y9,Z3g,Z24,Z0h,Z3t,Z27,Z2m,Z2i,Z1d,Z2r,Z3o,Q7,ints?,Z3f,Z3i,Z3h,ds?,Z19,callP,X.isD,D.noL,D.noLs,D.noLf,V8,Z0l,Z0e,Z0u,Z3k,Z3n,Z3p,Z3x,Y8r,Y8t,Y8p,z3]
    rfl
  have p2:(X2 2 (Z14 (.tp [(.nm 3),(.nm 4)]) (X2z (Z0 (m_c (.tup ((["marks", "shown", "asked"]:List Str).map D.str))) (Z0 (Z1 1) (Z7)))) (W8) (Z2s Z2q (m_c (.str " ")) (V3 (Z0 (Z1 3) (W9 (Z1 4) (Z7))))) [3,4])) e1 [] = .go (.nx [some (.d (Z84 m0 ms sh as rows)),some (.d l3),some (.d (.lst (([Str.join " " ("marks" :: m0 :: ms),Str.join " " ("shown" :: sh),Str.join " " ("asked" :: as)]).map D.str))),none,none,none]) []:=by
    unfold X2
    rw [hlc]
    rfl
  rw [(Z1t p1).trans (Z1t p2)]
  unfold X3
  rw [pd]
  rfl
theorem Y6q (h:ToolOk m0 ms sh as rows):Z5c "Tool" Z1g [.d (Z84 m0 ms sh as rows)] T = .ok (.d (.str (zT m0 ms sh as rows))) T:=by
  have e1:=X7r h
  show (if decide (("Tool" : Str) = "Tool") then (match Z1g [Z84 m0 ms sh as rows] with
    | .ok (.str z)=>R.ok (X.d (.str z)) T
    | _ => .bad) else .bad)=_
  rw [e1]
  simp
theorem X2k (h:ToolOk m0 ms sh as rows):Z4t [Z84 m0 ms sh as rows,Z84 m0 ms sh as rows] = .ok (.bl true):=by
  have e1:=Y6q (T:=[]) h
  have b:isX Z5k [("Row",false),("Tool",true)] [] (.d (Z84 m0 ms sh as rows))=some true:=by rfl
  unfold Z4t Z6e Y1m
  simp [ev0,Z9,Z0r,W7,W0,X2,Q1,X3,U5,V0,V4,Z0d,Q9,Z0w,Q4,U3,Y2,V5,Z1,m_c,Z8,Z0,Z7,W9,W1,V3,V2,Y4,Z1s,Y6,X4,Z1e,Z1q,W4,U2,X7,Q0,Z25,Z0v,Z3q,Y7,W3,R.bind,R.so,RO.then,items,ixO,ixD,Z2v,Z04,op2,X.get,tb,Z0p,Z0j,Z0o,Z0i,slX,V1,U1,Y8,Y9,Z3g,Z24,Z0h,Z3t,Z27,Z2m,Z2i,Z1d,Z2r,Z3o,Q7,ints?,Z3f,Z3i,Z3h,ds?,Z19,callP,X.isD,D.noL,D.noLs,D.noLf,V8,Z0l,Z0e,Z0u,Z3k,Z3n,Z3p,Z3x,Z6b,b,e1,Z2n]
end
end Lw
namespace Lw
open PySem PySem.Spec L2 Bv
open PyProof.Rows hiding St
variable [HasW]
def r_0:MS:=(Q9 2 3 (Z0 (Z2s Z17 (Z1 1) (m_c (.str "\n"))) (Z0 (V2 (Z7)) (Z7))))
def r_1:MS:=(Z1f (.tp [(.nm 4),(.nm 5)]) (Z4z (Z0 (m_c (.tup ((["marks", "shown", "asked"]:List Str).map D.str))) (Z7))) (Z9 (Z0r (U3 (Y2 geD (Z1 4) (Z8 Z1d (Z0 (Z1 2) (Z7))))) (Z4v) (W7)) (Z9 (X2 8 (Z8 (Y8 2 (Y9 [] (callP g_names_in))) (Z0 (V5 (Z1 2) (Z1 4)) (Z0 (Z1 5) (Z7))))) (Z9 (Z0r (U3 (Y2 isD (Z1 8) (m_c .non))) (Z4v) (W7)) (W0 (Z1s V8 U4 (Z1 3) (Z0 (Z1 8) (Z7))))))))
def r_2:MS:=(X2 6 (V2 (Z7)))
def r_3:MS:=(Z1f (.tp [(.nm 4),(.nm 7)]) (Z4z (Z0 (Y6 (Z1 2) (X4 (Z8 Z1d (Z0 (m_c (.tup ((["marks", "shown", "asked"]:List Str).map D.str))) (Z7)))) (Z1e)) (Z7))) (X5g (W0 (Z1s V8 U4 (Z1 6) (Z0 (Z7d "Row" (Y8 2 (Y9 [] (callP Z3w))) (m_c (.gl "Row")) (Z0 (Z1 7) (Z7))) (Z7))))))
def r_4:MS:=(X3 (Z7c 0 "Tool" (Y8 4 (Y9 [] (made "Tool" mkF Z2f))) (Z0 (V5 (Z1 3) (m_c (.int 0))) (Z0 (V5 (Z1 3) (m_c (.int 1))) (Z0 (V5 (Z1 3) (m_c (.int 2))) (Z0 (Z1 6) (Z7)))))))
theorem W8f:Z8w=Z9 r_0 ( Z9 r_1 ( Z9 r_2 ( Z9 r_3 (r_4)))):=by kernel_rfl
section
variable {m0:Str} {ms sh as sp ap:List Str} {rows:List Z16} {T:Sto}
theorem Y92 {l:List Str} (hne:l ≠ []) (h:∀ z ∈ l,z ∈ Y20 ∨ z ∈ (["marks", "shown", "asked"]:List Str)) (hl:l.length ≤ 6):Z17 (Str.join " " l) (.d (.str " ")) T = .ok (.d (.lst (l.map D.str))) T:=by
  have ex:∀ z ∈ l,z.length ≤ 5∧(32:Nat) ∉ z.cps.toList∧PyData.strOk z=true:=fun z hz=>by
    rcases h z hz with m | m
    · obtain ⟨a,b,_,_,c⟩:=Z4u m
      exact ⟨a,b,c⟩
    · have:∀ z ∈ (["marks", "shown", "asked"]:List Str),z.length ≤ 5∧(32:Nat) ∉ z.cps.toList∧PyData.strOk z=true:=by decide +kernel
      exact this z m
  have hj:Str.join " " l=Txt.join " " l:=(StrLaws.glued_eq_join ..).symm
  have hs:Txt.split (Str.join " " l) " " = l:=by
    rw [hj]
    exact TL.split_join (s:=32) (S:=[]) (by decide +kernel) (by decide +kernel) hne fun p hp=>(ex p hp).2.1
  have hn:(Str.join " " l).length ≤ 40:=by
    have:=Y15 (a := " ") (k:=5) fun z hz=>(ex z hz).1
    rw [Z2u.2.2.2.2] at this
    omega
  have b1:((" " : Str).length == 0)=false:=by decide +kernel
  have b2:decide ((Str.join " " l).length + 2 ≤ sizeLine)=true:=decide_eq_true (by rw [sizeLine_eq]; omega)
  have b3:Z9o l=true:=List.all_eq_true.mpr fun z hz=>(ex z hz).2.2
  unfold Z17
  show (if !((" " : Str).length == 0) && decide ((Str.join " " l).length + 2 ≤ sizeLine) && Z9o (Txt.split (Str.join " " l) " ") then R.ok (X.d (.lst ((Txt.split (Str.join " " l) " ").map .str))) T else .bad)=_
  rw [hs,b1,b2,b3]
  rfl
theorem X6x {i j:Int}:neD (.int i) (.int j)=some (.bl (!decide (i=j))):=by
  have h:neD (.int i) (.int j)=some (.bl (!(i == j))):=by
    show some (D.bl (!PyData.eqv (.int i) (.int j)))=_
    simp [PyData.eqv]
  rw [h]
  rfl
theorem W7q {l:List D} {i:Nat} {d:D} (h:l[i]?=some d):ixO T (.d (.lst l)) (i:Int)=some (.d d):=by
  obtain ⟨lt,e⟩:=List.getElem?_eq_some_iff.mp h
  simp [ixO,ixD,items,atI,ixN,lt,e]
theorem X7g {w o t:Str} {k:Bool} (h:Y1j w o t k):Z3w [.gl "Row", .str (zR w o t k)] = .ok (X8y w o t k):=by
  have sp:=Y92 (T:=[]) (l:=Z35 w o t k) (by unfold Z35; split <;> simp) (fun z hz => .inl (Z9u h z hz)) (by unfold Z35; split <;> simp)
  have mk:=X3a Y0d h
  have hz:∀ n:Nat,n < 1000→n ≤ sizeLine:=fun n h=>by rw [sizeLine_eq]; omega
  have z4:=hz 4 (by decide)
  have k1:inD (.str "keep") (.tup [.str "keep", .str "take"])=some (.bl true):=by rfl
  have k2:inD (.str "take") (.tup [.str "keep", .str "take"])=some (.bl true):=by rfl
  have e3:(("keep" : Str) = "take")=False:=by decide +kernel
  have e4:(("give" : Str) = "give")=True:=eq_self _
  have e1:zR w o t k=Str.join " " (Z35 w o t k):=rfl
  rw [← e1] at sp
  unfold Z3w Z6e Z90
  by_cases c:w = "give"
  · subst c
    cases k
    · have sp2:Z17 (zR "give" o t false) (.d (.str " ")) [] = .ok (.d (.lst [.str "give", .str o, .str "keep", .str "to", .str t])) []:=sp
      simp [ev0,Z9,Z0r,W7,W0,X2,Q1,X3,U5,V0,V4,Z0d,Q9,Z0w,Q4,U3,Y2,V5,Z1,m_c,Z8,Z0,Z7,W9,W1,V3,V2,Y4,Z1s,Y6,X4,Z1e,Z1q,W4,U2,X7,Q0,Z25,Z0v,Z3q,Y7,W3,R.bind,R.so,RO.then,items,ixO,ixD,Z2v,Z04,op2,X.get,tb,Z0p,Z0j,Z0o,Z0i,slX,V1,U1,Y8,Y9,Z3g,Z24,Z0h,Z3t,Z27,Z2m,Z2i,Z1d,Z2r,Z3o,Q7,ints?,Z3f,Z3i,Z3h,ds?,Z19,callP,X.isD,D.noL,D.noLs,D.noLf,V8,Z0l,Z0e,Z0u,Z3k,Z3n,Z3p,Z3x,Z2s,sp2,atI,ixN,Z4w,HT.sIx,X5g,Z7c,Z2n,Z50,Y10,X6x,k1,e3,z4,mk]
    · have sp2:Z17 (zR "give" o t true) (.d (.str " ")) [] = .ok (.d (.lst [.str "give", .str o, .str "take", .str "to", .str t])) []:=sp
      simp [ev0,Z9,Z0r,W7,W0,X2,Q1,X3,U5,V0,V4,Z0d,Q9,Z0w,Q4,U3,Y2,V5,Z1,m_c,Z8,Z0,Z7,W9,W1,V3,V2,Y4,Z1s,Y6,X4,Z1e,Z1q,W4,U2,X7,Q0,Z25,Z0v,Z3q,Y7,W3,R.bind,R.so,RO.then,items,ixO,ixD,Z2v,Z04,op2,X.get,tb,Z0p,Z0j,Z0o,Z0i,slX,V1,U1,Y8,Y9,Z3g,Z24,Z0h,Z3t,Z27,Z2m,Z2i,Z1d,Z2r,Z3o,Q7,ints?,Z3f,Z3i,Z3h,ds?,Z19,callP,X.isD,D.noL,D.noLs,D.noLf,V8,Z0l,Z0e,Z0u,Z3k,Z3n,Z3p,Z3x,Z2s,sp2,atI,ixN,Z4w,HT.sIx,X5g,Z7c,Z2n,Z50,Y10,X6x,k2,z4,mk]
  · have e2:Z35 w o t k=[w,o, "to",t]:=if_neg c
    rw [e2] at sp
    have sp2:Z17 (zR w o t k) (.d (.str " ")) [] = .ok (.d (.lst [.str w, .str o, .str "to", .str t])) []:=sp
    have hk:=h.2.2.2 c
    subst hk
    simp [ev0,Z9,Z0r,W7,W0,X2,Q1,X3,U5,V0,V4,Z0d,Q9,Z0w,Q4,U3,Y2,V5,Z1,m_c,Z8,Z0,Z7,W9,W1,V3,V2,Y4,Z1s,Y6,X4,Z1e,Z1q,W4,U2,X7,Q0,Z25,Z0v,Z3q,Y7,W3,R.bind,R.so,RO.then,items,ixO,ixD,Z2v,Z04,op2,X.get,tb,Z0p,Z0j,Z0o,Z0i,slX,V1,U1,Y8,Y9,Z3g,Z24,Z0h,Z3t,Z27,Z2m,Z2i,Z1d,Z2r,Z3o,Q7,ints?,Z3f,Z3i,Z3h,ds?,Z19,callP,X.isD,D.noL,D.noLs,D.noLf,V8,Z0l,Z0e,Z0u,Z3k,Z3n,Z3p,Z3x,Z2s,sp2,atI,ixN,Z4w,HT.sIx,X5g,Z7c,Z2n,Z50,Y10,X6x,c,z4,mk]
theorem Y7t {w:Str} {l:List Str} (hw:w ∈ (["marks", "shown", "asked"]:List Str)) (h:∀ z ∈ l,z ∈ Z5m) (hl:l.length ≤ 5) (hm:w = "marks" → l ≠ []):g_names_in [.str (Str.join " " (w :: l)), .str w] = .ok (tls l):=by
  have sp:=Y92 (T:=[]) (l:=w :: l) (by simp) (fun z hz=>(List.mem_cons.mp hz).elim (fun e => .inr (e ▸ hw)) fun m => .inl (by unfold Y20; simp [h z m])) (by simp; omega)
  have hz:∀ n:Nat,n < 1000→n ≤ sizeLine:=fun n h=>by rw [sizeLine_eq]; omega
  have cut1:slX [] (.d (.lst (D.str w :: l.map D.str))) (some 1) none=some (.d (tls l)):=by
    show some (X.d (.lst (Z4w (D.str w :: l.map D.str) (some 1) none)))=_
    rw [Y03]
    rfl
  have ix0:ixO [] (.d (.lst (D.str w :: l.map D.str))) 0=some (.d (.str w)):=by simp [ixO,ixD,items,atI,ixN]
  have ln:Z1d [.d (.lst (D.str w :: l.map D.str))] [] = .ok (.d (.int (l.length + 1))) []:=by simp [Z1d,Z2r,items]
  have hlc:Z14 (.nm 3) (V7 (Y6 (Z1 2) (X4 (m_c (.int 1))) (Z1e))) (W8) (Z8 (Y8 1 (Y9 [] (callP g_is_name))) (Z0 (Z1 3) (Z7))) [3] [some (.d (.str (Str.join " " (w :: l)))),some (.d (.str w)),some (.d (.lst (D.str w :: l.map D.str))),none] [] = .ok (.d (.lst (l.map fun _ => .bl true))) []:=by
    refine Z4f (fun s => .d (.str s)) (fun _ => .bl true) (l:=l) ?_ (hz _ (by omega)) fun s hs=>⟨_,rfl,?_⟩
    · unfold V7
      simp [ev0,Z9,Z0r,W7,W0,X2,Q1,X3,U5,V0,V4,Z0d,Q9,Z0w,Q4,U3,Y2,V5,Z1,m_c,Z8,Z0,Z7,W9,W1,V3,V2,Y4,Z1s,Y6,X4,Z1e,Z1q,W4,U2,X7,Q0,Z25,Z0v,Z3q,Y7,W3,R.bind,R.so,RO.then,items,ixO,ixD,Z2v,Z04,op2,Y5,tb,Z0p,Z0j,Z0o,Z0i,V1,U1,Y8,Y9,Z3g,Z24,Z0h,Z3t,Z27,Z2m,Z2i,Z1d,Z2r,Z3o,Q7,ints?,Z3f,Z3i,Z3h,ds?,Z19,callP,X.isD,D.noL,D.noLs,D.noLf,V8,Z0l,Z0e,Z0u,Z3k,Z3n,Z3p,Z3x,cut1,Y1d]
    · have:=Y2k (List.all_eq_true.mp Y09 s (h s hs))
      simp [ev0,Z9,Z0r,W7,W0,X2,Q1,X3,U5,V0,V4,Z0d,Q9,Z0w,Q4,U3,Y2,V5,Z1,m_c,Z8,Z0,Z7,W9,W1,V3,V2,Y4,Z1s,Y6,X4,Z1e,Z1q,W4,U2,X7,Q0,Z25,Z0v,Z3q,Y7,W3,R.bind,R.so,RO.then,items,ixO,ixD,Z2v,Z04,op2,Y5,tb,Z0p,Z0j,Z0o,Z0i,slX,V1,U1,Y8,Y9,Z3g,Z24,Z0h,Z3t,Z27,Z2m,Z2i,Z1d,Z2r,Z3o,Q7,ints?,Z3f,Z3i,Z3h,ds?,Z19,callP,X.isD,D.noL,D.noLs,D.noLf,V8,Z0l,Z0e,Z0u,Z3k,Z3n,Z3p,Z3x,Z0s,this]
  have ha:=Y34 l ([]:Sto)
  have sp2:Z17 (Str.join " " (w :: l)) (.d (.str " ")) [] = .ok (.d (.lst (D.str w :: l.map D.str))) []:=sp
  unfold g_names_in Z6e Z92
  by_cases c:w = "marks"
  · have hne:=hm c
    have hl0:¬ ((l.length:Int) + 1=1):=by
      have:l.length ≠ 0:=fun e=>hne (List.eq_nil_of_length_eq_zero e)
      omega
    subst c
    simp [ev0,Z9,Z0r,W7,W0,X2,Q1,X3,U5,V0,V4,Z0d,Q9,Z0w,Q4,U3,Y2,V5,Z1,m_c,Z8,Z0,Z7,W9,W1,V3,V2,Y4,Z1s,Y6,X4,Z1e,Z1q,W4,U2,X7,Q0,Z25,Z0v,Z3q,Y7,W3,R.bind,R.so,RO.then,items,ixD,Z2v,Z04,op2,Y5,tb,Z0p,Z0j,Z0o,Z0i,V1,U1,Y8,Y9,Z3g,Z24,Z0h,Z3t,Z27,Z2m,Z2i,Z2r,Z3o,Q7,ints?,Z3f,Z3i,Z3h,ds?,Z19,callP,X.isD,D.noL,D.noLs,D.noLf,V8,Z0l,Z0e,Z0u,Z3k,Z3n,Z3p,Z3x,Z2s,sp2,ix0,cut1,ln,hlc,ha,Z50,Z2n,Y10,hl0]
  · simp [ev0,Z9,Z0r,W7,W0,X2,Q1,X3,U5,V0,V4,Z0d,Q9,Z0w,Q4,U3,Y2,V5,Z1,m_c,Z8,Z0,Z7,W9,W1,V3,V2,Y4,Z1s,Y6,X4,Z1e,Z1q,W4,U2,X7,Q0,Z25,Z0v,Z3q,Y7,W3,R.bind,R.so,RO.then,items,ixD,Z2v,Z04,op2,Y5,tb,Z0p,Z0j,Z0o,Z0i,V1,U1,Y8,Y9,Z3g,Z24,Z0h,Z3t,Z27,Z2m,Z2i,Z2r,Z3o,Q7,ints?,Z3f,Z3i,Z3h,ds?,Z19,callP,X.isD,D.noL,D.noLs,D.noLf,V8,Z0l,Z0e,Z0u,Z3k,Z3n,Z3p,Z3x,Z2s,sp2,ix0,cut1,ln,hlc,ha,Z50,Z2n,Y10,c]
end
end Lw
namespace Lw
open PySem PySem.Spec L2 Bv
open PyProof.Rows hiding St
variable [HasW]
def Flat (z:Str):Prop:=(10:Nat) ∉ z.cps.toList∧PyData.strOk z=true
theorem Z70:∀ z ∈ Y20++(["marks", "shown", "asked", " "]:List Str),Flat z:=by
  have h:((Y20++(["marks", "shown", "asked", " "]:List Str)).all fun z=>decide ((10:Nat) ∉ z.cps.toList) && PyData.strOk z)=true:=by kernel_rfl
  intro z hz
  have:=List.all_eq_true.mp h z hz
  rw [Bool.and_eq_true,decide_eq_true_eq] at this
  exact this
theorem Y66 (a b:Str):(a++b).cps.toList=a.cps.toList++b.cps.toList:=by
  show (a.cps++b.cps).toList=_
  rw [Array.toList_append]
theorem Y9u {c:Nat} {a:Str} (ha:c ∉ a.cps.toList):∀ {l:List Str},(∀ z ∈ l,c ∉ z.cps.toList)→c ∉ (Str.join a l).cps.toList
  | [],_=>by
    show c ∉ (Str.empty).cps.toList
    exact List.not_mem_nil
  | [x],h=>h x (by simp)
  | x :: y :: r,h=>by
    have h1:=h x (by simp)
    have h2:=Y9u ha (l:=y :: r) fun z hz=>h z (List.mem_cons_of_mem _ hz)
    have e:Str.join a (x :: y :: r)=x++a++Str.join a (y :: r):=rfl
    rw [e,Y66,Y66]
    simp only [List.mem_append]
    rintro ((m | m) | m)
    · exact h1 m
    · exact ha m
    · exact h2 m
theorem Y5l {l:List Str} (h:∀ z ∈ l,z ∈ Y20++(["marks", "shown", "asked", " "]:List Str)):Flat (Str.join " " l) :=
  ⟨Y9u (Z70 " " (by simp)).1 fun z hz=>(Z70 z (h z hz)).1,Y0f (Z70 " " (by simp)).2 fun z hz=>(Z70 z (h z hz)).2⟩
section
variable {m0:Str} {ms sh as sp ap:List Str} {rows:List Z16} {T:Sto}
theorem X0k (h:ToolOk m0 ms sh as rows) (hp:sp.Perm sh) (hq:ap.Perm as):∀ z ∈ Z3y m0 ms sp ap rows,Flat z:=by
  have nm:∀ z ∈ Z5m,z ∈ Y20++(["marks", "shown", "asked", " "]:List Str):=fun z hz=>by unfold Y20; simp [hz]
  have hd:∀ z ∈ (["marks", "shown", "asked"]:List Str),z ∈ Y20++(["marks", "shown", "asked", " "]:List Str):=fun z hz=>by
    rw [List.mem_append]
    right
    simp only [List.mem_cons,List.not_mem_nil,or_false] at hz ⊢
    rcases hz with e | e | e
    · exact .inl e
    · exact .inr (.inl e)
    · exact .inr (.inr (.inl e))
  have ln:∀ (w:Str) (l:List Str),w ∈ (["marks", "shown", "asked"]:List Str)→(∀ z ∈ l,z ∈ Z5m)→Flat (Str.join " " (w :: l)):=fun w l hw hl=>Y5l fun z hz=>(List.mem_cons.mp hz).elim (fun e=>e ▸ hd w hw) fun m=>nm z (hl z m)
  intro z hz
  unfold Z3y at hz
  rcases List.mem_cons.mp hz with rfl | hz
  · exact ln _ _ (by simp) h.names
  rcases List.mem_cons.mp hz with rfl | hz
  · exact ln _ _ (by simp) fun y hy=>h.names y (List.mem_cons_of_mem _ (h.sh.subset (hp.mem_iff.mp hy)))
  rcases List.mem_cons.mp hz with rfl | hz
  · exact ln _ _ (by simp) fun y hy=>h.names y (h.as.subset (hq.mem_iff.mp hy))
  · obtain ⟨r,hr,rfl⟩:=List.mem_map.mp hz
    exact Y5l fun z hz=>List.mem_append_left _ (Z9u ((h.rows r hr).ok h.names) z hz)
theorem Y8i (h:ToolOk m0 ms sh as rows) (hp:sp.Perm sh) (hq:ap.Perm as):(!(("\n" : Str).length == 0) && decide ((zT m0 ms sp ap rows).length + 2 ≤ sizeLine) && Z9o (Txt.split (zT m0 ms sp ap rows) "\n"))=true∧Txt.split (zT m0 ms sp ap rows) "\n" = Z3y m0 ms sp ap rows:=by
  have hf:=X0k h hp hq
  obtain ⟨l1,l2⟩:=Y16 h hp hq
  have hj:zT m0 ms sp ap rows=Txt.join "\n" (Z3y m0 ms sp ap rows):=(StrLaws.glued_eq_join ..).symm
  have hs:Txt.split (zT m0 ms sp ap rows) "\n" = Z3y m0 ms sp ap rows:=by
    rw [hj]
    exact TL.split_join (s:=10) (S:=[]) (by decide +kernel) (by decide +kernel) (by unfold Z3y; simp) fun p hp=>(hf p hp).1
  have hn:(zT m0 ms sp ap rows).length ≤ 1000:=by
    have:=Y15 (a := "\n") (k:=40) l1
    rw [Z2u.2.2.2.1] at this
    unfold zT
    omega
  have b1:(("\n" : Str).length == 0)=false:=by decide +kernel
  have b2:decide ((zT m0 ms sp ap rows).length + 2 ≤ sizeLine)=true:=decide_eq_true (by rw [sizeLine_eq]; omega)
  have b3:Z9o (Z3y m0 ms sp ap rows)=true:=List.all_eq_true.mpr fun z hz=>(hf z hz).2
  exact ⟨by rw [hs,b1,b2,b3]; rfl,hs⟩
theorem X4s (h:ToolOk m0 ms sh as rows) (hp:sp.Perm sh) (hq:ap.Perm as):Z17 (zT m0 ms sp ap rows) (.d (.str "\n")) T = .ok (.d (.lst ((Z3y m0 ms sp ap rows).map D.str))) T:=by
  obtain ⟨a,b⟩:=Y8i h hp hq
  unfold Z17
  show (if !(("\n" : Str).length == 0) && decide ((zT m0 ms sp ap rows).length + 2 ≤ sizeLine) && Z9o (Txt.split (zT m0 ms sp ap rows) "\n") then R.ok (X.d (.lst ((Txt.split (zT m0 ms sp ap rows) "\n").map .str))) T else .bad)=_
  rw [if_pos a,b]
end
theorem Z9e {t:Tg} {body:MS} {x:X} {xs:List X} {e e1 e2:Ev} {S S2:Sto} (h1:t.asg S x e=some e1) (h2:body e1 S = .go (.nx e2) S2):Z60 t .free body (x :: xs) e S=Z60 t .free body xs e2 S2:=by simp [Z60,Lk.ok,h1,h2]
theorem Y9d {t:Tg} {body:MS} {e:Ev} {S:Sto}:Z60 t .free body [] e S = .go (.nx e) S:=by simp [Z60,Lk.ok]
end Lw
namespace Lw
open PySem PySem.Spec L2 Bv
open PyProof.Rows hiding St
variable [HasW]
def hdB:MS:=(Z9 (Z0r (U3 (Y2 geD (Z1 4) (Z8 Z1d (Z0 (Z1 2) (Z7))))) (Z4v) (W7)) (Z9 (X2 8 (Z8 (Y8 2 (Y9 [] (callP g_names_in))) (Z0 (V5 (Z1 2) (Z1 4)) (Z0 (Z1 5) (Z7))))) (Z9 (Z0r (U3 (Y2 isD (Z1 8) (m_c .non))) (Z4v) (W7)) (W0 (Z1s V8 U4 (Z1 3) (Z0 (Z1 8) (Z7)))))))
def rwB:MS:=(X5g (W0 (Z1s V8 U4 (Z1 6) (Z0 (Z7d "Row" (Y8 2 (Y9 [] (callP Z3w))) (m_c (.gl "Row")) (Z0 (Z1 7) (Z7))) (Z7)))))
def hdI:MIt:=(Z4z (Z0 (m_c (.tup ((["marks", "shown", "asked"]:List Str).map D.str))) (Z7)))
def rwI:MIt:=(Z4z (Z0 (Y6 (Z1 2) (X4 (Z8 Z1d (Z0 (m_c (.tup ((["marks", "shown", "asked"]:List Str).map D.str))) (Z7)))) (Z1e)) (Z7)))
def evR (zt:Str) (lines:List Str) (o4 o5 o6 o7 o8:Option X):Ev:=[some (.d (.gl "Tool")),some (.d (.str zt)),some (.d (tls lines)),some (.r 0),o4,o5,o6,o7,o8,none]
section
variable {zt:Str} {lines:List Str} {o4 o5 o6 o7 o8:Option X} {m0:Str} {ms sh as sp ap:List Str} {rows:List Z16} {T:Sto}
theorem W7r {i:Nat} {z:Str} (h:lines[i]?=some z):ixO T (.d (tls lines)) (i:Int)=some (.d (.str z)):=by
  refine W7q ?_
  rw [List.getElem?_map,h]
  rfl
theorem Y7h {i:Nat} {w:Str} {l:List Str} {ts:List X} (hi:lines[i]?=some (Str.join " " (w :: l))) (hw:w ∈ (["marks", "shown", "asked"]:List Str)) (h:∀ z ∈ l,z ∈ Z5m) (hl:l.length ≤ 5) (hm:w = "marks" → l ≠ []) (ht:ts.length < 100) :
    hdB (evR zt lines (some (.d (.int i))) (some (.d (.str w))) o6 o7 o8) [.lst ts] = .go (.nx (evR zt lines (some (.d (.int i))) (some (.d (.str w))) o6 o7 (some (.d (tls l))))) [.lst (ts++[.d (tls l)])]:=by
  have lt:i < lines.length:=(List.getElem?_eq_some_iff.mp hi).1
  have ix:=W7r (T:=[.lst ts]) hi
  have nm:=Y7t hw h hl hm
  have ln:=X26 (ml:=lines) (T:=[.lst ts])
  have g:¬ ((lines.length:Int) ≤ (i:Int)):=by omega
  have isN:isD (tls l) .non=some (.bl false):=rfl
  have z:ts.length < sizeLine:=by rw [sizeLine_eq]; omega
  unfold hdB evR
  simp [ev0,Z9,Z0r,W7,W0,X2,Q1,X3,U5,V0,V4,Z0d,Q9,Z0w,Q4,U3,Y2,V5,Z1,m_c,Z8,Z0,Z7,W9,W1,V3,V2,Y4,Z1s,Y6,X4,Z1e,Z1q,W4,U2,X7,Q0,Z25,Z0v,Z3q,Y7,W3,R.bind,R.so,RO.then,items,ixD,Z2v,Z04,op2,Y5,tb,Z0p,Z0j,Z0o,Z0i,slX,V1,U1,Y8,Y9,Z3g,Z24,Z0h,Z3t,Z27,Z2m,Z2i,Z2r,Z3o,Q7,ints?,Z3f,Z3i,Z3h,ds?,Z19,callP,X.isD,D.noL,D.noLs,D.noLf,V8,Z0l,Z0e,Z0u,Z3k,Z3n,Z3p,Z3x,ix,nm,ln,g,isN,U4,z]
theorem W16 {j:X} {r:Z16} {t1 ts:List X} (h:Y1j r.1 r.2.1 r.2.2.1 r.2.2.2) (ht:ts.length < 100) :
    rwB (evR zt lines (some j) o5 (some (.r 1)) (some (.d (.str (zQ r)))) o8) [.lst t1, .lst ts] = .go (.nx (evR zt lines (some j) o5 (some (.r 1)) (some (.d (.str (zQ r)))) o8)) [.lst t1, .lst (ts++[.d (Z3d r)])]:=by
  have rr:Z3w [.gl "Row", .str (zQ r)] = .ok (Z3d r):=X7g h
  have z:ts.length < sizeLine:=by rw [sizeLine_eq]; omega
  unfold rwB evR
  simp [ev0,Z9,Z0r,W7,W0,X2,Q1,X3,U5,V0,V4,Z0d,Q9,Z0w,Q4,U3,Y2,V5,Z1,m_c,Z8,Z0,Z7,W9,W1,V3,V2,Y4,Z1s,Y6,X4,Z1e,Z1q,W4,U2,X7,Q0,Z25,Z0v,Z3q,Y7,W3,R.bind,R.so,RO.then,items,ixO,ixD,Z2v,Z04,op2,Y5,tb,Z0p,Z0j,Z0o,Z0i,slX,V1,U1,Y8,Y9,Z3g,Z24,Z0h,Z3t,Z27,Z2m,Z2i,Z1d,Z2r,Z3o,Q7,ints?,Z3f,Z3i,Z3h,ds?,Z19,callP,X.isD,D.noL,D.noLs,D.noLf,V8,Z0l,Z0e,Z0u,Z3k,Z3n,Z3p,Z3x,X5g,Z7d,rr,U4,z]
theorem W47 {ds:List D} {i:Nat} {x:X} (h:(numbered ds)[i]?=some x):∃ d,ds[i]?=some d∧x = .d (.tup [.int (i:Nat),d]):=by
  have lt:=(List.getElem?_eq_some_iff.mp h).1
  rw [Z5r] at lt
  have e:ds[i]?=some ds[i]:=List.getElem?_eq_getElem lt
  refine ⟨_,e,?_⟩
  have:=Z83 e
  rw [h] at this
  exact Option.some.inj this
theorem X4i {t1:List X} (h:∀ r ∈ rows,Y1j r.1 r.2.1 r.2.2.1 r.2.2.2) (hl:rows.length < 100) :
    ∃ o4' o7',Z60 (.tp [(.nm 4),(.nm 7)]) .free rwB (numbered ((rows.map zQ).map D.str)) (evR zt lines o4 o5 (some (.r 1)) o7 o8) [.lst t1, .lst []] = .go (.nx (evR zt lines o4' o5 (some (.r 1)) o7' o8)) [.lst t1, .lst ((rows.map Z3d).map X.d)]:=by
  obtain ⟨e2,S2,q,p4,p7,he,hS⟩:=Y9e (t := .tp [(.nm 4),(.nm 7)]) (body:=rwB) (fun k e S=>∃ p4 p7,e=evR zt lines p4 o5 (some (.r 1)) p7 o8∧S=[.lst t1, .lst (((rows.take k).map Z3d).map X.d)]) (xs:=numbered ((rows.map zQ).map D.str)) (k:=0) (e:=evR zt lines o4 o5 (some (.r 1)) o7 o8) (S:=[.lst t1, .lst []]) ⟨_,_,rfl,rfl⟩ fun i x hx e S ⟨p4,p7,he,hS⟩=>by
    obtain ⟨d,hd,rfl⟩:=W47 hx
    rw [List.getElem?_map,List.getElem?_map] at hd
    obtain ⟨z,hz,rfl⟩:=Option.map_eq_some_iff.mp hd
    obtain ⟨r,hr,rfl⟩:=Option.map_eq_some_iff.mp hz
    have st:=W16 (zt:=zt) (lines:=lines) (o5:=o5) (o8:=o8) (j := .d (.int (i:Nat))) (r:=r) (t1:=t1) (ts:=((rows.take i).map Z3d).map X.d) (h r (List.mem_of_getElem? hr)) (by simp; omega)
    have e3:((rows.take i).map Z3d).map X.d++[.d (Z3d r)]=((rows.take (i + 1)).map Z3d).map X.d:=by
      rw [List.take_add_one,hr]
      simp
    rw [e3] at st
    refine ⟨evR zt lines (some (.d (.int (i:Nat)))) o5 (some (.r 1)) (some (.d (.str (zQ r)))) o8,evR zt lines (some (.d (.int (i:Nat)))) o5 (some (.r 1)) (some (.d (.str (zQ r)))) o8,[.lst t1, .lst (((rows.take (i + 1)).map Z3d).map X.d)],?_,?_,?_⟩
    · rw [he]; rfl
    · rw [hS,Nat.zero_add]; exact st
    · exact ⟨_,_,rfl,by rw [Nat.zero_add]⟩
  refine ⟨p4,p7,?_⟩
  rw [q,he,hS,Z5r,List.length_map,List.length_map,Nat.zero_add,List.take_length]
theorem X0f {α:Type} (a b c:α) (xs:List α):Z4w (a :: b :: c :: xs) (some 3) none=xs:=by
  unfold Z4w
  simp [HT.sIx]
theorem X4g (h:ToolOk m0 ms sh as rows) (hp:sp.Perm sh) (hq:ap.Perm as):Z5b [.gl "Tool", .str (zT m0 ms sp ap rows)] = .ok (Z84 m0 ms sh as rows):=by
  have hsz:∀ n:Nat,n < 1000→n ≤ sizeLine:=fun n h=>by rw [sizeLine_eq]; omega
  have lm:=h.few
  have lr:=h.len
  have ls:sh.length ≤ ms.length:=h.sh.length_le
  have la:as.length ≤ ms.length + 1:=h.as.length_le
  have lp:=hp.length_eq
  have lq:=hq.length_eq
  have spl:=X4s (T:=[]) h hp hq
  let zt:=zT m0 ms sp ap rows
  let lines:=Z3y m0 ms sp ap rows
  have p0:r_0 (ev0 10 ([.gl "Tool", .str (zT m0 ms sp ap rows)].map X.d)) [] = .go (.nx (evR zt lines none none none none none)) [.lst []]:=by
    unfold r_0
    simp [ev0,Z9,Z0r,W7,W0,X2,Q1,X3,U5,V0,V4,Z0d,Q9,Z0w,Q4,U3,Y2,V5,Z1,m_c,Z8,Z0,Z7,W9,W1,V3,V2,Y4,Z1s,Y6,X4,Z1e,Z1q,W4,U2,X7,Q0,Z25,Z0v,Z3q,Y7,W3,R.bind,R.so,RO.then,items,ixO,ixD,Z2v,Z04,op2,Y5,tb,Z0p,Z0j,Z0o,Z0i,slX,V1,U1,Y8,Y9,Z3g,Z24,Z0h,Z3t,Z27,Z2m,Z2i,Z1d,Z2r,Z3o,Q7,ints?,Z3f,Z3i,Z3h,ds?,Z19,callP,X.isD,D.noL,D.noLs,D.noLf,V8,Z0l,Z0e,Z0u,Z3k,Z3n,Z3p,Z3x,Z2s,spl]
    rfl
  have hi:hdI (evR zt lines none none none none none) [.lst []] = .ok ([.d (.tup [.int (0:Nat), .str "marks"]), .d (.tup [.int (1:Nat), .str "shown"]), .d (.tup [.int (2:Nat), .str "asked"])], .free) [.lst []]:=rfl
  have s1:=Y7h (zt:=zt) (lines:=lines) (o6:=none) (o7:=none) (o8:=none) (i:=0) (w := "marks") (l:=m0 :: ms) (ts:=[]) rfl (by simp) h.names (by simp; omega) (by simp) (by simp)
  have s2:=Y7h (zt:=zt) (lines:=lines) (o6:=none) (o7:=none) (o8:=some (.d (tls (m0 :: ms)))) (i:=1) (w := "shown") (l:=sp) (ts:=[.d (tls (m0 :: ms))]) rfl (by simp) (fun y hy=>h.names y (List.mem_cons_of_mem _ (h.sh.subset (hp.mem_iff.mp hy)))) (by omega) (fun e=>absurd e (by decide +kernel)) (by simp)
  have s3:=Y7h (zt:=zt) (lines:=lines) (o6:=none) (o7:=none) (o8:=some (.d (tls sp))) (i:=2) (w := "asked") (l:=ap) (ts:=[.d (tls (m0 :: ms)), .d (tls sp)]) rfl (by simp) (fun y hy=>h.names y (h.as.subset (hq.mem_iff.mp hy))) (by omega) (fun e=>absurd e (by decide +kernel)) (by simp)
  let ts:List X:=[.d (tls (m0 :: ms)), .d (tls sp), .d (tls ap)]
  let e3:Ev:=evR zt lines (some (.d (.int (2:Nat)))) (some (.d (.str "asked"))) none none (some (.d (tls ap)))
  have p1:r_1 (evR zt lines none none none none none) [.lst []] = .go (.nx e3) [.lst ts]:=by
    have a:=Y4y (t := .tp [(.nm 4),(.nm 5)]) (body:=hdB) hi
    have b1:=Z9e (t := .tp [(.nm 4),(.nm 5)]) (x := .d (.tup [.int (0:Nat), .str "marks"])) (xs:=[.d (.tup [.int (1:Nat), .str "shown"]), .d (.tup [.int (2:Nat), .str "asked"])]) (e:=evR zt lines none none none none none) rfl s1
    have b2:=Z9e (t := .tp [(.nm 4),(.nm 5)]) (x := .d (.tup [.int (1:Nat), .str "shown"])) (xs:=[.d (.tup [.int (2:Nat), .str "asked"])]) (e:=evR zt lines (some (.d (.int (0:Nat)))) (some (.d (.str "marks"))) none none (some (.d (tls (m0 :: ms))))) rfl s2
    have b3:=Z9e (t := .tp [(.nm 4),(.nm 5)]) (x := .d (.tup [.int (2:Nat), .str "asked"])) (xs:=[]) (e:=evR zt lines (some (.d (.int (1:Nat)))) (some (.d (.str "shown"))) none none (some (.d (tls sp)))) rfl s3
    exact a.trans (b1.trans (b2.trans (b3.trans Y9d)))
  let e4:Ev:=evR zt lines (some (.d (.int (2:Nat)))) (some (.d (.str "asked"))) (some (.r 1)) none (some (.d (tls ap)))
  have p2:r_2 e3 [.lst ts] = .go (.nx e4) [.lst ts, .lst []]:=by
    unfold r_2
    simp [ev0,Z9,Z0r,W7,W0,X2,Q1,X3,U5,V0,V4,Z0d,Q9,Z0w,Q4,U3,Y2,V5,Z1,m_c,Z8,Z0,Z7,W9,W1,V3,V2,Y4,Z1s,Y6,X4,Z1e,Z1q,W4,U2,X7,Q0,Z25,Z0v,Z3q,Y7,W3,R.bind,R.so,RO.then,items,ixO,ixD,Z2v,Z04,op2,Y5,tb,Z0p,Z0j,Z0o,Z0i,slX,V1,U1,Y8,Y9,Z3g,Z24,Z0h,Z3t,Z27,Z2m,Z2i,Z1d,Z2r,Z3o,Q7,ints?,Z3f,Z3i,Z3h,ds?,Z19,callP,X.isD,D.noL,D.noLs,D.noLf,V8,Z0l,Z0e,Z0u,Z3k,Z3n,Z3p,Z3x]
    rfl
  have hi3:rwI e4 [.lst ts, .lst []] = .ok (numbered ((rows.map zQ).map D.str), .free) [.lst ts, .lst []]:=by
    have sl:slX [.lst ts, .lst []] (.d (tls lines)) (some 3) none=some (.d (.lst ((rows.map zQ).map D.str))):=by
      show some (X.d (.lst (Z4w (lines.map D.str) (some 3) none)))=_
      show some (X.d (.lst (Z4w (D.str (Str.join " " ("marks" :: m0 :: ms)) :: D.str (Str.join " " ("shown" :: sp)) :: D.str (Str.join " " ("asked" :: ap)) :: (rows.map zQ).map D.str) (some 3) none)))=_
      rw [X0f]
    have ln:Z1d [.d (.tup ((["marks", "shown", "asked"]:List Str).map D.str))] [.lst ts, .lst []] = .ok (.d (.int 3)) [.lst ts, .lst []]:=rfl
    have x2:e4[2]?=some (some (.d (tls lines))):=rfl
    unfold rwI Z4z
    simp only [Z0,Z7,Y6,Z1,X4,Z1e,Z8,m_c,R.bind,x2,ln,Z04,Z2v,sl,X92,Option.map_some]
    rfl
  obtain ⟨o4',o7',lp3⟩:=X4i (zt:=zt) (lines:=lines) (o4:=some (.d (.int (2:Nat)))) (o5:=some (.d (.str "asked"))) (o7:=none) (o8:=some (.d (tls ap))) (t1:=ts) (rows:=rows) (fun r hr=>(h.rows r hr).ok h.names) (by omega)
  have p3:r_3 e4 [.lst ts, .lst []] = .go (.nx (evR zt lines o4' (some (.d (.str "asked"))) (some (.r 1)) o7' (some (.d (tls ap))))) [.lst ts, .lst ((rows.map Z3d).map X.d)]:=(Y4y (t := .tp [(.nm 4),(.nm 7)]) (body:=rwB) hi3).trans lp3
  let S4:Sto:=[.lst ts, .lst ((rows.map Z3d).map X.d)]
  have hS:OkS S4:=by
    have a:okO 2 (.lst ts)=true:=rfl
    have b:okO 2 (.lst ((rows.map Z3d).map X.d))=true:=Y1b _
    show (okO 2 (.lst ts) && (okO 2 (.lst ((rows.map Z3d).map X.d)) && true))=true
    rw [a,b]
    rfl
  have ti:=Y6r (S:=S4) (sp:=sp) (ap:=ap) (x := .r 1) hS h hp hq fun fs=>⟨_,W9i rfl⟩
  have p4:r_4 (evR zt lines o4' (some (.d (.str "asked"))) (some (.r 1)) o7' (some (.d (tls ap)))) S4 = .go (.rp (Z84 m0 ms sh as rows)) S4:=by
    have i0:ixO S4 (.r 0) 0=some (.d (tls (m0 :: ms))):=rfl
    have i1:ixO S4 (.r 0) 1=some (.d (tls sp)):=rfl
    have i2:ixO S4 (.r 0) 2=some (.d (tls ap)):=rfl
    unfold r_4 evR
    simp [ev0,Z9,Z0r,W7,W0,X2,Q1,X3,U5,V0,V4,Z0d,Q9,Z0w,Q4,U3,Y2,V5,Z1,m_c,Z8,Z0,Z7,W9,W1,V3,V2,Y4,Z1s,Y6,X4,Z1e,Z1q,W4,U2,X7,Q0,Z25,Z0v,Z3q,Y7,W3,R.bind,R.so,RO.then,items,ixD,Z2v,Z04,op2,Y5,tb,Z0p,Z0j,Z0o,Z0i,slX,V1,U1,Y8,Y9,Z3g,Z24,Z0h,Z3t,Z27,Z2m,Z2i,Z1d,Z2r,Z3o,Q7,ints?,Z3f,Z3i,Z3h,ds?,Z19,callP,X.isD,D.noL,D.noLs,D.noLf,V8,Z0l,Z0e,Z0u,Z3k,Z3n,Z3p,Z3x,Z7c,i0,i1,i2,ti]
  unfold Z5b Z6e
  rw [W8f]
  have:=(Z1t p0).trans ((Z1t p1).trans ((Z1t p2).trans ((Z1t p3).trans p4)))
  rw [this]
  rfl
end
end Lw
namespace Lw
open PySem
def Z59 (w m:Str) (r:Z16):Bool:=decide (r.1=w) && (decide (r.2.1 = "any") || decide (r.2.1=m))
def doQ (m0 w m:Str):Option Z16→Str × Bool
  | none=>(if w = "carry" then m0 else m,false)
  | some r=>if m=m0∧r.2.2.2=false then (m,false) else
    (if r.2.2.1 = "same" then m else r.2.2.1,decide (w = "give") && (r.2.2.2 && decide ((if r.2.2.1 = "same" then m else r.2.2.1) ≠ m0)))
def Y6w (m0 w m:Str) (rows:List Z16):Str × Bool:=if m=m0∧w ≠ "give" then doQ m0 w m none else doQ m0 w m (rows.find? (Z59 w m))
def W6:List Str:=["give", "carry", "drop", "back", "right", "wrong"]
end Lw
namespace Lw
open PySem PySem.Spec L2 Bv
open PyProof.Rows hiding St
variable [HasW]
def X62:Nat→List Z16→List X
  | _,[]=>[]
  | k,r :: l => .d (.tup [.int k,Z3d r]) :: X62 (k + 1) l
theorem Y3r:∀ {rows:List Z16} {k:Nat},(List.range' k rows.length).zipWith (fun (i:Nat) d=>X.d (.tup [.int (i:Nat),d])) (rows.map Z3d)=X62 k rows
  | [],k=>by simp [X62]
  | r :: l,k=>by
    have ih:=Y3r (rows:=l) (k:=k + 1)
    rw [List.length_cons,List.range'_succ,List.map_cons,List.zipWith_cons_cons,ih]
    rfl
theorem Y7w {rows:List Z16}:Bv.numbered (rows.map Z3d)=X62 0 rows:=by
  unfold Bv.numbered
  rw [List.length_map,List.range_eq_range']
  exact Y3r
section
variable {m0 w m:Str} {ms sh as:List Str} {rows:List Z16} {T:Sto}
theorem W0c {r:Z16}:Z4h [Z3d r, .str w, .str m] = .ok (.bl (Z59 w m r)):=by
  have c1:=Y36 (T:=[]) (r:=r)
  have c2:=Y8s (T:=[]) (r:=r)
  have b1:inD (.str r.2.1) (.tup [.str "any", .str m])=some (.bl (decide (r.2.1 = "any") || decide (r.2.1=m))):=by
    rw [show ([D.str "any",D.str m]:List D)=([("any" : Str),m]:List Str).map D.str from rfl,Z8j]
    congr 2
    rw [Bool.eq_iff_iff]
    simp
  have z2:2 ≤ sizeLine:=by rw [sizeLine_eq]; decide
  unfold Z4h Z6e Z9z
  by_cases h:r.1=w
  · have f:Z59 w m r=(decide (r.2.1 = "any") || decide (r.2.1=m)):=by unfold Z59; rw [decide_eq_true h,Bool.true_and]
    rw [f]
    simp [ev0,Z9,Z0r,W7,W0,X2,Q1,X3,U5,V0,V4,Z0d,Q9,Z0w,Q4,U3,Y2,V5,Z1,m_c,Z8,Z0,Z7,W9,W1,V3,V2,Y4,Z1s,Y6,X4,Z1e,Z1q,W4,U2,X7,Q0,Z25,Z0v,Z3q,Y7,W3,R.bind,R.so,RO.then,items,ixO,ixD,Z2v,Z04,op2,Y5,tb,Z0p,Z0j,Z0o,slX,V1,U1,Y8,Y9,Z3g,Z24,Z0h,Z3t,Z27,Z2m,Z2i,Z1d,Z2r,Z3o,Q7,ints?,Z3f,Z3i,Z3h,ds?,Z19,callP,X.isD,D.noL,D.noLs,D.noLf,V8,Z0l,Z0e,Z0u,Z3k,Z3n,Z3p,Z3x,c1,c2,b1,Z2n,h,z2]
  · have f:Z59 w m r=false:=by unfold Z59; rw [decide_eq_false h,Bool.false_and]
    rw [f]
    simp [ev0,Z9,Z0r,W7,W0,X2,Q1,X3,U5,V0,V4,Z0d,Q9,Z0w,Q4,U3,Y2,V5,Z1,m_c,Z8,Z0,Z7,W9,W1,V3,V2,Y4,Z1s,Y6,X4,Z1e,Z1q,W4,U2,X7,Q0,Z25,Z0v,Z3q,Y7,W3,R.bind,R.so,RO.then,items,ixO,ixD,Z2v,Z04,op2,Y5,tb,Z0p,Z0j,Z0o,slX,V1,U1,Y8,Y9,Z3g,Z24,Z0h,Z3t,Z27,Z2m,Z2i,Z1d,Z2r,Z3o,Q7,ints?,Z3f,Z3i,Z3h,ds?,Z19,callP,X.isD,D.noL,D.noLs,D.noLf,V8,Z0l,Z0e,Z0u,Z3k,Z3n,Z3p,Z3x,c1,c2,b1,Z2n,h]
theorem Y88 {p:Z16→Bool}:∀ {rows:List Z16},(rows.findIdx? p=none∧rows.find? p=none) ∨ ∃ i r,rows.findIdx? p=some i∧rows[i]?=some r∧rows.find? p=some r
  | [] => .inl ⟨rfl,rfl⟩
  | r :: l=>by
    cases h:p r with
    | true=>exact .inr ⟨0,r,by simp [List.findIdx?_cons,h],rfl,by simp [List.find?_cons,h]⟩
    | false =>
      rcases Y88 (p:=p) (rows:=l) with ⟨h1,h2⟩ | ⟨i,x,h1,h2,h3⟩
      · exact .inl ⟨by simp [List.findIdx?_cons,h,h1],by simp [List.find?_cons,h,h2]⟩
      · exact .inr ⟨i + 1,x,by simp [List.findIdx?_cons,h,h1],by simpa using h2,by simp [List.find?_cons,h,h3]⟩
def W0e:MS:=(Z0r (Y7 (Z3l "Row" "fits" (Y8 3 (Y9 [] (callP Z4h))) (Z1 4) (Z0 (Z1 1) (Z0 (Z1 2) (Z7))))) (X3 (Z1 3)) (W7))
theorem X50 {o:D} {k:Nat} {r:Z16}:W0e [some (.d o),some (.d (.str w)),some (.d (.str m)),some (.d (.int k)),some (.d (Z3d r))] T=if Z59 w m r then .go (.rp (.int k)) T else .go (.nx [some (.d o),some (.d (.str w)),some (.d (.str m)),some (.d (.int k)),some (.d (Z3d r))]) T:=by
  have f:=W0c (w:=w) (m:=m) (r:=r)
  have me:Z3l "Row" "fits" (Y8 3 (Y9 [] (callP Z4h))) (Z1 4) (Z0 (Z1 1) (Z0 (Z1 2) (Z7))) [some (.d o),some (.d (.str w)),some (.d (.str m)),some (.d (.int k)),some (.d (Z3d r))] T = .ok (.d (.bl (Z59 w m r))) T:=by
    have io:isOf "Row" "fits" T (.d (Z3d r))=true:=by rfl
    simp [ev0,Z9,Z0r,W7,W0,X2,Q1,X3,U5,V0,V4,Z0d,Q9,Z0w,Q4,U3,Y2,V5,Z1,m_c,Z8,Z0,Z7,W9,W1,V3,V2,Y4,Z1s,Y6,X4,Z1e,Z1q,W4,U2,X7,Q0,Z25,Z0v,Z3q,Y7,W3,R.bind,R.so,RO.then,items,ixO,ixD,Z2v,Z04,op2,Y5,tb,Z0p,Z0j,Z0o,Z0i,slX,V1,U1,Y8,Y9,Z3g,Z24,Z0h,Z3t,Z27,Z2m,Z2i,Z1d,Z2r,Z3o,Q7,ints?,Z3f,Z3i,Z3h,ds?,Z19,callP,X.isD,D.noL,D.noLs,D.noLf,V8,Z0l,Z0e,Z0u,Z3k,Z3n,Z3p,Z3x,Z3l,io,f]
  unfold W0e
  cases h:Z59 w m r with
  | true=>simp [Z0r,Y7,me,h,R.bind,R.so,V1,U1,X3,Z1,X.get]
  | false=>simp [Z0r,Y7,me,h,R.bind,R.so,V1,U1,W7,X.get]
theorem Y9f {o:D}:∀ {rows:List Z16} {k:Nat} {o3 o4:Option X},(rows.findIdx? (Z59 w m)=none→∃ e,Z60 (.tp [(.nm 3),(.nm 4)]) .free W0e (X62 k rows) [some (.d o),some (.d (.str w)),some (.d (.str m)),o3,o4] T = .go (.nx e) T) ∧
    ∀ i,rows.findIdx? (Z59 w m)=some i→Z60 (.tp [(.nm 3),(.nm 4)]) .free W0e (X62 k rows) [some (.d o),some (.d (.str w)),some (.d (.str m)),o3,o4] T = .go (.rp (.int ((k + i:Nat)))) T
  | [],k,o3,o4=>⟨fun _=>⟨_,Y9d⟩,fun i h=>by cases h⟩
  | r :: l,k,o3,o4=>by
    have st:=X50 (w:=w) (m:=m) (T:=T) (o:=o) (k:=k) (r:=r)
    have asg:Tg.asg T (.tp [(.nm 3),(.nm 4)]) (.d (.tup [.int k,Z3d r])) [some (.d o),some (.d (.str w)),some (.d (.str m)),o3,o4]=some [some (.d o),some (.d (.str w)),some (.d (.str m)),some (.d (.int k)),some (.d (Z3d r))]:=rfl
    cases h:Z59 w m r with
    | true =>
      rw [h,if_pos rfl] at st
      refine ⟨fun z=>by simp [List.findIdx?_cons,h] at z,fun i z=>?_⟩
      have:i=0:=by simpa [List.findIdx?_cons,h] using z.symm
      subst this
      show Z60 _ .free W0e (.d (.tup [.int k,Z3d r]) :: X62 (k + 1) l) _ T=_
      simp [Z60,Lk.ok,asg,st]
    | false =>
      rw [h,if_neg (by simp)] at st
      have nx:=Z9e (t := .tp [(.nm 3),(.nm 4)]) (xs:=X62 (k + 1) l) asg st
      obtain ⟨a,c⟩:=Y9f (rows:=l) (k:=k + 1) (o3:=some (.d (.int k))) (o4:=some (.d (Z3d r)))
      refine ⟨fun z=>?_,fun i z=>?_⟩
      · obtain ⟨e,q⟩:=a (by simpa [List.findIdx?_cons,h] using z)
        exact ⟨e,nx.trans q⟩
      · rw [List.findIdx?_cons,h] at z
        simp only [Bool.false_eq_true,if_false] at z
        obtain ⟨j,hj,rfl⟩:=Option.map_eq_some_iff.mp z
        have:=nx.trans (c j hj)
        rw [show k + 1 + j=k + (j + 1) by omega] at this
        exact this
end
end Lw
namespace Lw
open PySem PySem.Spec L2 Bv
open PyProof.Rows hiding St
variable [HasW]
theorem X17 {m:M} {ms:MG (List X)} {e:Ev} {S S1 S2:Sto} {x:X} {xs:List X} (h1:m e S = .ok x S1) (h2:ms e S1 = .ok xs S2):Z0 m ms e S = .ok (x :: xs) S2:=by
  unfold Z0
  rw [h1]
  show (ms e S1).bind _=_
  rw [h2]
  rfl
section
variable {m0 w m:Str} {ms sh as:List Str} {rows:List Z16} {T:Sto}
theorem Y8q:Z0i ["Tool"] "blank" T (.d (Z84 m0 ms sh as rows))=some (.d (.str m0)):=by rfl
theorem X07:Z2k [Z84 m0 ms sh as rows, .str w, .str m] = .ok (if m=m0∧w ≠ "give" then .non else match rows.findIdx? (Z59 w m) with
    | none => .non
    | some i => .int i):=by
  let e0:Ev:=[some (.d (Z84 m0 ms sh as rows)),some (.d (.str w)),some (.d (.str m)),none,none]
  have hi:Z4z (Z0 (Y4 ["Tool"] "rows" (Z1 0)) (Z7)) e0 [] = .ok (X62 0 rows, .free) []:=by
    have a:Y4 ["Tool"] "rows" (Z1 0) e0 [] = .ok (.d (.tup (rows.map Z3d))) []:=by
      show Z04 (Z0i ["Tool"] "rows" [] (.d (Z84 m0 ms sh as rows))) []=_
      rw [Y60]
      rfl
    have c:=X17 a (show Z7 e0 [] = .ok [] [] from rfl)
    unfold Z4z
    rw [c]
    show Z04 (some (Bv.numbered (rows.map Z3d),Lk.free)) []=_
    rw [Y7w]
    rfl
  obtain ⟨l1,l2⟩:=Y9f (w:=w) (m:=m) (T:=[]) (o:=Z84 m0 ms sh as rows) (rows:=rows) (k:=0) (o3:=none) (o4:=none)
  have lp:=Y4y (t := .tp [(.nm 3),(.nm 4)]) (body:=W0e) hi
  have bl:=Y8q (T:=[]) (m0:=m0) (ms:=ms) (sh:=sh) (as:=as) (rows:=rows)
  have p0:(Z0r (W4 (U3 (Y2 eqD (Z1 2) (Y4 ["Tool"] "blank" (Z1 0)))) (U3 (Y2 neD (Z1 1) (m_c (.str "give"))))) (X3 (m_c .non)) (W7)) e0 []=if m=m0∧w ≠ "give" then .go (.rp .non) [] else .go (.nx e0) []:=by
    simp only [e0]
    by_cases h1:m=m0 <;> by_cases h2:w = "give"
    · simp [ev0,Z9,Z0r,W7,W0,X2,Q1,X3,U5,V0,V4,Z0d,Q9,Z0w,Q4,U3,Y2,V5,Z1,m_c,Z8,Z0,Z7,W9,W1,V3,V2,Y4,Z1s,Y6,X4,Z1e,Z1q,W4,U2,X7,Q0,Z25,Z0v,Z3q,Y7,W3,R.bind,R.so,RO.then,items,ixO,ixD,Z2v,Z04,op2,Y5,tb,Z0p,Z0j,Z0o,slX,V1,U1,Y8,Y9,Z3g,Z24,Z0h,Z3t,Z27,Z2m,Z2i,Z1d,Z2r,Z3o,Q7,ints?,Z3f,Z3i,Z3h,ds?,Z19,callP,X.isD,D.noL,D.noLs,D.noLf,V8,Z0l,Z0e,Z0u,Z3k,Z3n,Z3p,Z3x,bl,Z2n,Z50,h1,h2]
    · simp [ev0,Z9,Z0r,W7,W0,X2,Q1,X3,U5,V0,V4,Z0d,Q9,Z0w,Q4,U3,Y2,V5,Z1,m_c,Z8,Z0,Z7,W9,W1,V3,V2,Y4,Z1s,Y6,X4,Z1e,Z1q,W4,U2,X7,Q0,Z25,Z0v,Z3q,Y7,W3,R.bind,R.so,RO.then,items,ixO,ixD,Z2v,Z04,op2,Y5,tb,Z0p,Z0j,Z0o,slX,V1,U1,Y8,Y9,Z3g,Z24,Z0h,Z3t,Z27,Z2m,Z2i,Z1d,Z2r,Z3o,Q7,ints?,Z3f,Z3i,Z3h,ds?,Z19,callP,X.isD,D.noL,D.noLs,D.noLf,V8,Z0l,Z0e,Z0u,Z3k,Z3n,Z3p,Z3x,bl,Z2n,Z50,h1,h2]
    · simp [ev0,Z9,Z0r,W7,W0,X2,Q1,X3,U5,V0,V4,Z0d,Q9,Z0w,Q4,U3,Y2,V5,Z1,m_c,Z8,Z0,Z7,W9,W1,V3,V2,Y4,Z1s,Y6,X4,Z1e,Z1q,W4,U2,X7,Q0,Z25,Z0v,Z3q,Y7,W3,R.bind,R.so,RO.then,items,ixO,ixD,Z2v,Z04,op2,Y5,tb,Z0p,Z0j,Z0o,slX,V1,U1,Y8,Y9,Z3g,Z24,Z0h,Z3t,Z27,Z2m,Z2i,Z1d,Z2r,Z3o,Q7,ints?,Z3f,Z3i,Z3h,ds?,Z19,callP,X.isD,D.noL,D.noLs,D.noLf,V8,Z0l,Z0e,Z0u,Z3k,Z3n,Z3p,Z3x,bl,Z2n,Z50,h1,h2]
    · simp [ev0,Z9,Z0r,W7,W0,X2,Q1,X3,U5,V0,V4,Z0d,Q9,Z0w,Q4,U3,Y2,V5,Z1,m_c,Z8,Z0,Z7,W9,W1,V3,V2,Y4,Z1s,Y6,X4,Z1e,Z1q,W4,U2,X7,Q0,Z25,Z0v,Z3q,Y7,W3,R.bind,R.so,RO.then,items,ixO,ixD,Z2v,Z04,op2,Y5,tb,Z0p,Z0j,Z0o,slX,V1,U1,Y8,Y9,Z3g,Z24,Z0h,Z3t,Z27,Z2m,Z2i,Z1d,Z2r,Z3o,Q7,ints?,Z3f,Z3i,Z3h,ds?,Z19,callP,X.isD,D.noL,D.noLs,D.noLf,V8,Z0l,Z0e,Z0u,Z3k,Z3n,Z3p,Z3x,bl,Z2n,Z50,h1,h2]
  unfold Z2k Z6e Z5y
  show Z24 (Z9 _ (Z9 (Z1f (.tp [(.nm 3),(.nm 4)]) (Z4z (Z0 (Y4 ["Tool"] "rows" (Z1 0)) (Z7))) W0e) (X3 (m_c .non))) e0 [])=_
  by_cases h:m=m0∧w ≠ "give"
  · rw [if_pos h] at p0 ⊢
    unfold Z9
    rw [p0]
    rfl
  · rw [if_neg h] at p0 ⊢
    rw [Z1t p0]
    cases q:rows.findIdx? (Z59 w m) with
    | none =>
      obtain ⟨e,l1⟩:=l1 q
      rw [Z1t (lp.trans l1)]
      rfl
    | some i =>
      have l2:=lp.trans (l2 i q)
      rw [Nat.zero_add] at l2
      unfold Z9
      rw [l2]
      rfl
end
end Lw
namespace Lw
open PySem PySem.Spec L2 Bv
open PyProof.Rows hiding St
variable [HasW]
def bD (p:Str × Bool):D := .tup [.str p.1, .bl p.2]
section
variable {m0 w m:Str} {ms sh as:List Str} {rows:List Z16} {T:Sto}
theorem W1j {s:Str} {ss:List Str}:X32 (.str s) (.tup (ss.map D.str))=some (.bl (!decide (s ∈ ss))):=by
  have h:=Z8j (s:=s) (ss:=ss)
  unfold inD at h
  obtain ⟨b,h1,h2⟩:=Option.map_eq_some_iff.mp h
  cases h2
  unfold X32
  rw [h1]
  rfl
theorem X1x {r:Z16}:Z0i ["Row"] "take" T (.d (Z3d r))=some (.d (.bl r.2.2.2)):=by rfl
theorem W0q {i:Nat} {r:Z16} (h:rows[i]?=some r):ixO T (.d (.tup (rows.map Z3d))) (i:Int)=some (.d (Z3d r)):=by
  obtain ⟨lt,e⟩:=List.getElem?_eq_some_iff.mp h
  simp [ixO,ixD,items,atI,ixN,lt,e]
theorem X0d (hm:m ∈ m0 :: ms):U7 [Z84 m0 ms sh as rows, .str w, .str m] = .ok (bD (Y6w m0 w m rows)):=by
  have rf:=X07 (m0:=m0) (w:=w) (m:=m) (ms:=ms) (sh:=sh) (as:=as) (rows:=rows)
  have a1:=Y8r (T:=[]) (m0:=m0) (ms:=ms) (sh:=sh) (as:=as) (rows:=rows)
  have a2:=Y8q (T:=[]) (m0:=m0) (ms:=ms) (sh:=sh) (as:=as) (rows:=rows)
  have a3:=Y60 (T:=[]) (m0:=m0) (ms:=ms) (sh:=sh) (as:=as) (rows:=rows)
  have is1:isX (Y02 "str") [("Row",false),("Tool",false)] [] (.d (.str m))=some true:=by
    show (Y02 "str").lookup "str" = some true
    decide +kernel
  have nn:X32 (.str m) (.tup ((m0 :: ms).map D.str))=some (.bl false):=by
    rw [W1j,decide_eq_true hm]
    rfl
  have io:isOf "Tool" "row_for" [] (.d (Z84 m0 ms sh as rows))=true:=by rfl
  have z2:2 ≤ sizeLine:=by rw [sizeLine_eq]; decide
  have noneCase:Z2k [Z84 m0 ms sh as rows, .str w, .str m] = .ok .non→U7 [Z84 m0 ms sh as rows, .str w, .str m] = .ok (bD (doQ m0 w m none)):=fun rf=>by
    have isN:isD .non .non=some (.bl true):=rfl
    unfold U7 Z6e Z4n
    by_cases c:w = "carry"
    · subst c
      simp [-List.map_cons,ev0,Z9,Z0r,W7,W0,X2,Q1,X3,U5,V0,V4,Z0d,Q9,Z0w,Q4,U3,Y2,V5,Z1,m_c,Z8,Z0,Z7,W9,W1,V3,V2,Y4,Z1s,Y6,X4,Z1e,Z1q,W4,U2,X7,Q0,Z25,Z0v,Z3q,Y7,W3,R.bind,R.so,RO.then,items,ixO,ixD,Z2v,Z04,op2,Y5,tb,Z0p,Z0j,Z0o,slX,V1,U1,Y8,Y9,Z3g,Z24,Z0h,Z3t,Z27,Z2m,Z2i,Z1d,Z2r,Z3o,Q7,ints?,Z3f,Z3i,Z3h,ds?,Z19,callP,X.isD,D.noL,D.noLs,D.noLf,V8,Z0l,Z0e,Z0u,Z3k,Z3n,Z3p,Z3x,Z6b,Z3l,is1,a1,nn,io,rf,isN,a2,Z2n,z2,bD,doQ]
    · simp [-List.map_cons,ev0,Z9,Z0r,W7,W0,X2,Q1,X3,U5,V0,V4,Z0d,Q9,Z0w,Q4,U3,Y2,V5,Z1,m_c,Z8,Z0,Z7,W9,W1,V3,V2,Y4,Z1s,Y6,X4,Z1e,Z1q,W4,U2,X7,Q0,Z25,Z0v,Z3q,Y7,W3,R.bind,R.so,RO.then,items,ixO,ixD,Z2v,Z04,op2,Y5,tb,Z0p,Z0j,Z0o,slX,V1,U1,Y8,Y9,Z3g,Z24,Z0h,Z3t,Z27,Z2m,Z2i,Z1d,Z2r,Z3o,Q7,ints?,Z3f,Z3i,Z3h,ds?,Z19,callP,X.isD,D.noL,D.noLs,D.noLf,V8,Z0l,Z0e,Z0u,Z3k,Z3n,Z3p,Z3x,Z6b,Z3l,is1,a1,nn,io,rf,isN,a2,Z2n,c,z2,bD,doQ]
  by_cases h:m=m0∧w ≠ "give"
  · rw [if_pos h] at rf
    unfold Y6w
    rw [if_pos h]
    exact noneCase rf
  · rw [if_neg h] at rf
    unfold Y6w
    rw [if_neg h]
    rcases Y88 (p:=Z59 w m) (rows:=rows) with ⟨h1,h2⟩ | ⟨i,r,h1,h2,h3⟩
    · rw [h1] at rf
      rw [h2]
      exact noneCase rf
    · rw [h1] at rf
      rw [h3]
      have isN:isD (.int (i:Int)) .non=some (.bl false):=rfl
      have ix:=W0q (T:=[]) h2
      have t1:=X1x (T:=[]) (r:=r)
      have t2:=Y61 (T:=[]) (r:=r)
      unfold U7 Z6e Z4n
      by_cases c1:m=m0 <;> by_cases c2:r.2.2.2=true <;> by_cases c3:r.2.2.1 = "same" <;> by_cases c4:w = "give"
      all_goals
        first
          | (subst c1; subst c4; simp [-List.map_cons,ev0,Z9,Z0r,W7,W0,X2,Q1,X3,U5,V0,V4,Z0d,Q9,Z0w,Q4,U3,Y2,V5,Z1,m_c,Z8,Z0,Z7,W9,W1,V3,V2,Y4,Z1s,Y6,X4,Z1e,Z1q,W4,U2,X7,Q0,Z25,Z0v,Z3q,Y7,W3,R.bind,R.so,RO.then,items,ixD,Z2v,Z04,op2,Y5,tb,Z0p,Z0j,Z0o,slX,V1,U1,Y8,Y9,Z3g,Z24,Z0h,Z3t,Z27,Z2m,Z2i,Z1d,Z2r,Z3o,Q7,ints?,Z3f,Z3i,Z3h,ds?,Z19,callP,X.isD,D.noL,D.noLs,D.noLf,V8,Z0l,Z0e,Z0u,Z3k,Z3n,Z3p,Z3x,Z6b,Z3l,is1,a1,nn,io,rf,isN,a2,a3,ix,t1,t2,Z2n,Z50,c2,c3,z2,bD,doQ])
          | (subst c1; simp [-List.map_cons,ev0,Z9,Z0r,W7,W0,X2,Q1,X3,U5,V0,V4,Z0d,Q9,Z0w,Q4,U3,Y2,V5,Z1,m_c,Z8,Z0,Z7,W9,W1,V3,V2,Y4,Z1s,Y6,X4,Z1e,Z1q,W4,U2,X7,Q0,Z25,Z0v,Z3q,Y7,W3,R.bind,R.so,RO.then,items,ixD,Z2v,Z04,op2,Y5,tb,Z0p,Z0j,Z0o,slX,V1,U1,Y8,Y9,Z3g,Z24,Z0h,Z3t,Z27,Z2m,Z2i,Z1d,Z2r,Z3o,Q7,ints?,Z3f,Z3i,Z3h,ds?,Z19,callP,X.isD,D.noL,D.noLs,D.noLf,V8,Z0l,Z0e,Z0u,Z3k,Z3n,Z3p,Z3x,Z6b,Z3l,is1,a1,nn,io,rf,isN,a2,a3,ix,t1,t2,Z2n,Z50,c2,c3,c4,z2,bD,doQ])
          | (subst c4; simp [-List.map_cons,ev0,Z9,Z0r,W7,W0,X2,Q1,X3,U5,V0,V4,Z0d,Q9,Z0w,Q4,U3,Y2,V5,Z1,m_c,Z8,Z0,Z7,W9,W1,V3,V2,Y4,Z1s,Y6,X4,Z1e,Z1q,W4,U2,X7,Q0,Z25,Z0v,Z3q,Y7,W3,R.bind,R.so,RO.then,items,ixD,Z2v,Z04,op2,Y5,tb,Z0p,Z0j,Z0o,slX,V1,U1,Y8,Y9,Z3g,Z24,Z0h,Z3t,Z27,Z2m,Z2i,Z1d,Z2r,Z3o,Q7,ints?,Z3f,Z3i,Z3h,ds?,Z19,callP,X.isD,D.noL,D.noLs,D.noLf,V8,Z0l,Z0e,Z0u,Z3k,Z3n,Z3p,Z3x,Z6b,Z3l,is1,a1,nn,io,rf,isN,a2,a3,ix,t1,t2,Z2n,Z50,c1,c2,c3,z2,bD,doQ])
          | simp [-List.map_cons,ev0,Z9,Z0r,W7,W0,X2,Q1,X3,U5,V0,V4,Z0d,Q9,Z0w,Q4,U3,Y2,V5,Z1,m_c,Z8,Z0,Z7,W9,W1,V3,V2,Y4,Z1s,Y6,X4,Z1e,Z1q,W4,U2,X7,Q0,Z25,Z0v,Z3q,Y7,W3,R.bind,R.so,RO.then,items,ixD,Z2v,Z04,op2,Y5,tb,Z0p,Z0j,Z0o,slX,V1,U1,Y8,Y9,Z3g,Z24,Z0h,Z3t,Z27,Z2m,Z2i,Z1d,Z2r,Z3o,Q7,ints?,Z3f,Z3i,Z3h,ds?,Z19,callP,X.isD,D.noL,D.noLs,D.noLf,V8,Z0l,Z0e,Z0u,Z3k,Z3n,Z3p,Z3x,Z6b,Z3l,is1,a1,nn,io,rf,isN,a2,a3,ix,t1,t2,Z2n,Z50,c1,c2,c3,c4,z2,bD,doQ]
end
end Lw
namespace Lw
open PySem PySem.Spec L2 Bv
open PyProof.Rows hiding St
variable [HasW]
def rw:MS:=(Z9 (X2 2 (Z8 (Y8 2 (Y9 [] g__law_pick)) (Z0 (Z1 0) (Z0 (V3 (Z0 (m_c (.str "give")) (Z0 (m_c (.str "give")) (Z0 (m_c (.str "carry")) (Z0 (m_c (.str "drop")) (Z0 (m_c (.str "back")) (Z0 (m_c (.str "right")) (Z0 (m_c (.str "wrong")) Z7)))))))) Z7)))) (Z9 (X2 3 (Z8 (Y8 2 (Y9 [] g__law_pick)) (Z0 (Z1 0) (Z0 (Y2 Z4e (V3 (Z0 (m_c (.str "any")) (Z0 (m_c (.str "any")) Z7))) (Z1q (U3 (Y2 eqD (Z1 2) (m_c (.str "give")))) (Z1 1) (Y2 Z4e (Y6 (Z1 1) (X4 (m_c (.int 1))) Z1e) (V3 (Z0 (m_c (.str "any")) Z7))))) Z7)))) (Z9 (X2 4 (Z25 (Y2 neD (Z1 2) (m_c (.str "give"))) (Y2 gtD (Z8 (Y8 2 (Y9 [] g__law_draw)) (Z0 (Z1 0) (Z0 (m_c (.int 4)) Z7))) (m_c (.int 0))))) (Q1 (W1 (Z0 (Z1 2) (Z0 (Z1 3) (Z0 (Z8 (Y8 2 (Y9 [] g__law_pick)) (Z0 (Z1 0) (Z0 (Y2 Z4e (Y2 Z4e (Z1 1) (V3 (Z0 (m_c (.str "same")) Z7))) (Y6 (Z1 1) (X4 (m_c (.int 1))) Z1e)) Z7))) (Z0 (Z1 4) Z7)))))))))
theorem W8m:Z7v=rw:=by kernel_rfl
def Gd (S:Sto) (b:Nat) (T:Sto):Prop:=OkS T∧Z62 T b∧Z6i S b T
theorem Gd.refl {S:Sto} {b:Nat} (hS:OkS S) (hb:Z62 S b):Gd S b S:=by
  refine ⟨hS,hb,?_⟩
  obtain ⟨gs,s,e1,e2,hd⟩:=id hb
  have:=Y82 (gs:=gs) (gs2:=gs) e2 hd
  have e:S.set b (glO gs)=S:=by
    refine List.ext_getElem? fun i=>?_
    by_cases hi:b=i
    · subst hi
      rw [List.getElem?_set_self (by have:=hb.lt; omega),e1]
    · rw [List.getElem?_set_ne hi]
  rwa [e] at this
section
variable {S T:Sto} {b:Nat}
theorem Gd.ok (h:Gd S b T):OkS T:=h.1
theorem Gd.at_ (h:Gd S b T):Z62 T b:=h.2.1
theorem Gd.len (h:Gd S b T):T.length=S.length:=h.2.2.len
theorem Gd.trans {T2:Sto} (h:Gd S b T) (h2:Z6i T b T2):Gd S b T2:=⟨h2.ok h.ok h.at_.lt,h2.at_ h.at_.lt,h.2.2.trans h2⟩
theorem Gd.tr {T2:Sto} (h:Gd S b T) (h2:Gd T b T2):Gd S b T2:=h.trans h2.2.2
theorem Gd.cut (h:Gd S b T):Bv.cut S.length T=some T:=by
  have:=h.ok.cut0
  rwa [h.len] at this
theorem Gd.other (h:Gd S b T) {c:Nat} (h1:c ≠ b) (h2:c ≠ b + 1):T[c]?=S[c]?:=h.2.2.other h1 h2
theorem Gd.drop {o:O} (hS:OkS S) (hb:b + 1 < S.length) (h:Gd (S++[o]) b T):∃ T2,T=T2++[o]∧Gd S b T2:=by
  obtain ⟨ho,ha,gs,s,e,hd⟩:=h
  have e2:T=(S.set b (glO gs)).set (b + 1) (dlO b s)++[o]:=by
    rw [e,List.set_append_left _ _ (by omega),List.set_append_left _ _ (by simp; omega)]
  have d:Z6i S b ((S.set b (glO gs)).set (b + 1) (dlO b s)):=⟨gs,s,rfl,hd⟩
  exact ⟨_,e2,d.ok hS hb,d.at_ hb,d⟩
theorem Z8i {m:Int} (h:Gd S b T) (hm:0 < m∧m < 1073741824):∃ (d:Int) (T2:Sto),g__law_draw [.r (b + 1), .d (.int m)] T = .ok (.d (.int d)) T2∧0 ≤ d∧d < m∧Gd S b T2:=by
  obtain ⟨d,T2,e,h0,h1,dl⟩:=X2g h.ok h.at_ hm
  exact ⟨d,T2,e,h0,h1,h.trans dl⟩
theorem W5m {ds:List D} (h:Gd S b T) (h0:ds ≠ []) (hl:ds.length < 1073741824):∃ (d:D) (T2:Sto),g__law_pick [.r (b + 1), .d (.lst ds)] T = .ok (.d d) T2∧d ∈ ds∧Gd S b T2:=by
  obtain ⟨d,T2,e,hm,dl⟩:=W1x h.ok h.at_ h0 hl
  exact ⟨d,T2,e,hm,h.trans dl⟩
theorem Y58 {ss:List Str} (h:Gd S b T) (h0:ss ≠ []) (hl:ss.length < 1073741824):∃ (s:Str) (T2:Sto),g__law_pick [.r (b + 1), .d (.lst (ss.map D.str))] T = .ok (.d (.str s)) T2∧s ∈ ss∧Gd S b T2:=by
  obtain ⟨d,T2,e,hm,g⟩:=W5m (ds:=ss.map D.str) h (by simpa using h0) (by simpa using hl)
  obtain ⟨s,h1,rfl⟩:=List.mem_map.mp hm
  exact ⟨s,T2,e,h1,g⟩
theorem W5n {ds:List D} {n:Nat} (h:Gd S b T) (h1:n ≠ b) (h2:n ≠ b + 1) (hn:S[n]?=some (.lst (ds.map X.d))) (h0:ds ≠ []) (hl:ds.length < 1073741824):∃ (d:D) (T2:Sto),g__law_pick [.r (b + 1), .r n] T = .ok (.d d) T2∧d ∈ ds∧Gd S b T2:=by
  have hp:0 < ds.length:=List.length_pos_iff.mpr h0
  have hT:T[n]?=some (.lst (ds.map X.d)):=by rw [h.other h1 h2]; exact hn
  obtain ⟨i,T2,e,i0,i1,g⟩:=Z8i (m:=ds.length) h (by omega)
  have hT2:T2[n]?=some (.lst (ds.map X.d)):=by rw [g.other h1 h2]; exact hn
  obtain ⟨d,q,hm⟩:=X7x (l:=ds) i0 i1
  have hc:=g.ok.cut0
  rw [g.len,← h.len] at hc
  refine ⟨d,T2,?_,hm,g⟩
  unfold g__law_pick
  refine Z85 (x := .d d) (X4v (Z0a (Z6 rfl) (X5 (Z5 (Z6 rfl) (Z5 (X5 (Z5 (Z6 rfl) Y3) (X8m hT)) Y3)) (Q8 rfl (by rw [List.length_map]; exact e))) ?_)) rfl hc
  have it:items T2 (.r n)=some (ds.map X.d):=by
    show (match T2[n]? with
      | some (.lst xs)=>some xs
      | _=>none)=_
    rw [hT2]
  unfold ixO
  rw [it]
  show atI (ds.map X.d) i=_
  unfold atI at q ⊢
  rw [List.length_map]
  cases h:ixN ds.length i with
  | none=>rw [h] at q; cases q
  | some j =>
    rw [h] at q
    show (ds.map X.d)[j]?=_
    rw [List.getElem?_map,show ds[j]?=some d from q]
    rfl
end
section
variable {S T:Sto} {b:Nat} {m0:Str} {ms:List Str}
theorem X4o {T:Sto} {x:D} {l:List D}:slX T (.d (.lst (x :: l))) (some 1) none=some (.d (.lst l)):=by
  show some (X.d (.lst (Z4w (x :: l) (some 1) none)))=_
  rw [Y03]
theorem W50 (g0:Gd S b T) (hl:ms.length < 100):∃ (w o t:Str) (k:Bool) (T2:Sto),g__law_row [.r (b + 1), .d (Z9t (m0 :: ms))] T = .ok (.d (X7s w o t k)) T2∧Z8v m0 ms w o t k∧Gd S b T2:=by
  have hS:=g0.ok
  have hb:=g0.at_
  suffices h:Fw (Z7v (ev0 5 [.r (b + 1), .d (Z9t (m0 :: ms))]) T) (fun r=>∃ (w o t:Str) (k:Bool) (T2:Sto),r = .go (.rt (.d (X7s w o t k))) T2∧Z8v m0 ms w o t k∧Gd T b T2) by
    obtain ⟨w,o,t,k,T2,e,hr,g⟩:=h
    exact ⟨w,o,t,k,T2,Z85 e rfl g.cut,hr,g0.tr g⟩
  have g:=Gd.refl hS hb
  rw [W8m]
  unfold rw
  obtain ⟨w,T1,e1,hw,g⟩:=Y58 (ss:=["give", "give", "carry", "drop", "back", "right", "wrong"]) g (by simp) (by simp)
  have hw6:w ∈ X9j:=by
    unfold X9j
    simp only [List.mem_cons,List.not_mem_nil,or_false] at hw ⊢
    rcases hw with h | h | h | h | h | h | h <;> simp [h]
  refine Fw.set (X5 (Z5 (Z6 rfl) (Z5 (Z3v (Z5 U0 (Z5 U0 (Z5 U0 (Z5 U0 (Z5 U0 (Z5 U0 (Z5 U0 Y3))))))) rfl (hz4 (by decide))) Y3)) (Q8 rfl e1)) ?_
  let os:List Str:=("any" : Str) :: "any" :: (if w = "give" then m0 :: ms else ms++[("any" : Str)])
  have ho:Y2 Z4e (V3 (Z0 (m_c (.str "any")) (Z0 (m_c (.str "any")) (Z7)))) (Z1q (U3 (Y2 eqD (Z1 2) (m_c (.str "give")))) (Z1 1) (Y2 Z4e (Y6 (Z1 1) (X4 (m_c (.int 1))) (Z1e)) (V3 (Z0 (m_c (.str "any")) (Z7))))) [some (.r (b + 1)),some (.d (Z9t (m0 :: ms))),some (.d (.str w)),none,none] T1 = .ok (.d (.lst (os.map D.str))) T1:=by
    by_cases c:w = "give"
    · have e:os=("any" : Str) :: "any" :: m0 :: ms:=by show _ :: _ :: (if _ then _ else _)=_; rw [if_pos c]
      rw [e]
      exact W2 (Z3v (ds:=[.str "any", .str "any"]) (Z5 U0 (Z5 U0 Y3)) rfl (hz4 (by decide))) (X2q (Z1z (W2 (Z6 rfl) U0 Y5 Y5 (X94 c))) (Z6 rfl)) Y5 Y5 (Z8c (by simp; omega))
    · have e:os=("any" : Str) :: "any" :: (ms++[("any" : Str)]):=by show _ :: _ :: (if _ then _ else _)=_; rw [if_neg c]
      rw [e]
      refine W2 (d2 := .lst ((ms++[("any" : Str)]).map D.str)) (Z3v (ds:=[.str "any", .str "any"]) (Z5 U0 (Z5 U0 Y3)) rfl (hz4 (by decide))) (X2p (Z1z (W2 (Z6 rfl) U0 Y5 Y5 (X93 c))) (W2 (Z26 (Z6 rfl) (Z38 U0) Y0w X4o) (Z3v (ds:=[.str "any"]) (Z5 U0 Y3) rfl (hz4 (by decide))) Y5 Y5 ?_)) Y5 Y5 (Z8c (by simp; omega))
      rw [Z8c (by simp; omega)]
      simp
  obtain ⟨o,T2,e2,hm,g⟩:=Y58 (ss:=os) g (by simp [os]) (by show (_ :: _ :: _:List Str).length < _; simp only [List.length_cons]; split <;> simp <;> omega)
  refine Fw.set (X5 (Z5 (Z6 rfl) (Z5 ho Y3)) (Q8 rfl e2)) ?_
  have hkey:∃ (k:Bool) (T3:Sto),Z25 (Y2 neD (Z1 2) (m_c (.str "give"))) (Y2 gtD (Z8 (Y8 2 (Y9 [] g__law_draw)) (Z0 (Z1 0) (Z0 (m_c (.int 4)) (Z7)))) (m_c (.int 0))) [some (.r (b + 1)),some (.d (Z9t (m0 :: ms))),some (.d (.str w)),some (.d (.str o)),none] T2 = .ok (.d (.bl k)) T3∧(w ≠ "give" → k=true)∧Gd T b T3:=by
    by_cases c:w = "give"
    · obtain ⟨d,T3,e3,d0,d1,g⟩:=Z8i (m:=4) g (by decide)
      exact ⟨_,T3,X98 (W2 (Z6 rfl) U0 Y5 Y5 (W45 c)) rfl (W2 (X5 (Z5 (Z6 rfl) (Z5 U0 Y3)) (Q8 rfl e3)) U0 Y5 Y5 Z3k),fun h=>absurd c h,g⟩
    · exact ⟨true,T2,W33 (W2 (Z6 rfl) U0 Y5 Y5 (W46 c)) rfl,fun _=>rfl,g⟩
  obtain ⟨k,T3,e3,hk,g⟩:=hkey
  refine Fw.set e3 ?_
  obtain ⟨t,T4,e4,ht,g⟩:=Y58 (ss:=(m0 :: ms)++[("same" : Str)]++ms) g (by simp) (by simp; omega)
  have ht2:Y2 Z4e (Y2 Z4e (Z1 1) (V3 (Z0 (m_c (.str "same")) (Z7)))) (Y6 (Z1 1) (X4 (m_c (.int 1))) (Z1e)) [some (.r (b + 1)),some (.d (Z9t (m0 :: ms))),some (.d (.str w)),some (.d (.str o)),some (.d (.bl k))] T3 = .ok (.d (.lst (((m0 :: ms)++[("same" : Str)]++ms).map D.str))) T3:=by
    refine W2 (d1 := .lst (((m0 :: ms)++[("same" : Str)]).map D.str)) (d2 := .lst (ms.map D.str)) (W2 (Z6 rfl) (Z3v (ds:=[.str "same"]) (Z5 U0 Y3) rfl (hz4 (by decide))) Y5 Y5 ?_) (Z26 (Z6 rfl) (Z38 U0) Y0w X4o) Y5 Y5 ?_
    · exact (Z8c (by simp; omega)).trans (by simp)
    · exact (Z8c (by simp; omega)).trans (by simp)
  refine Fw.one (Fw.ret (Z12 (ds:=[.str w, .str o, .str t, .bl k]) (Z5 (Z6 rfl) (Z5 (Z6 rfl) (Z5 (X5 (Z5 (Z6 rfl) (Z5 ht2 Y3)) (Q8 rfl e4)) (Z5 (Z6 rfl) Y3)))) rfl (hz4 (by simp))) ⟨w,o,t,k,T4,rfl,⟨hw6,?_,?_,fun c=>⟨hk c,?_⟩⟩,g⟩)
  · have hm:o ∈ ("any" : Str) :: "any" :: (if w = "give" then m0 :: ms else ms++[("any" : Str)]):=hm
    split at hm <;> simp at hm ⊢ <;> rcases hm with h | h | h <;> simp [h]
  · simp at ht ⊢
    rcases ht with h | h | h | h <;> simp [h]
  · have hm:o ∈ ("any" : Str) :: "any" :: (if w = "give" then m0 :: ms else ms++[("any" : Str)]):=hm
    rw [if_neg c] at hm
    simp at hm ⊢
    rcases hm with h | h | h <;> simp [h]
end
end Lw
namespace Lw
open PySem PySem.Spec L2 Bv
open PyProof.Rows hiding St
variable [HasW]
def W9l:MS:=(Z9 (X2 11 (Z8 (Y8 2 (Y9 [] g__law_draw)) (Z0 (Z1 0) (Z0 (Y2 Z4e (Z8 Z1d (Z0 (Z1 9) Z7)) (m_c (.int 1))) Z7)))) (X2 9 (Y2 Z4e (Y2 Z4e (Y6 (Z1 9) Z1e (X4 (Z1 11))) (V3 (Z0 (Z8 (Y8 2 (Y9 [] g__law_row)) (Z0 (Z1 0) (Z0 (Z1 4) Z7))) Z7))) (Y6 (Z1 9) (X4 (Y2 Z4e (Z1 11) (Z8 (Y8 2 (Y9 [] g__law_draw)) (Z0 (Z1 0) (Z0 (m_c (.int 2)) Z7))))) Z1e))))
def tl:MS:=(Z9 (X2 3 (V2 (Z0 (V3 (Z0 (m_c (.str "none")) (Z0 (m_c (.str "doubt")) (Z0 (m_c (.str "good")) (Z0 (m_c (.str "old")) (Z0 (m_c (.str "bad")) Z7)))))) (Z0 (V3 (Z0 (m_c (.str "a")) (Z0 (m_c (.str "b")) (Z0 (m_c (.str "c")) (Z0 (m_c (.str "d")) (Z0 (m_c (.str "e")) Z7)))))) Z7)))) (Z9 (W0 (Z1s V8 U4 (Z1 3) (Z0 (V3 (Z0 (m_c (.str "give")) (Z0 (m_c (.str "drop")) (Z0 (m_c (.str "right")) (Z0 (m_c (.str "back")) (Z0 (m_c (.str "wrong")) Z7)))))) Z7))) (Z9 (X2 4 (Y6 (Z8 (Y8 2 (Y9 [] g__law_pick)) (Z0 (Z1 0) (Z0 (Z1 3) Z7))) Z1e (X4 (Y2 Z4e (m_c (.int 2)) (Z8 (Y8 2 (Y9 [] g__law_draw)) (Z0 (Z1 0) (Z0 (Y2 W6x (Z1 1) (m_c (.int 1))) Z7))))))) (Z9 (X2 5 (Z14 (.nm 12) (V7 (Y6 (Z1 4) (X4 (m_c (.int 1))) Z1e)) (U2 (U3 (Y2 eqD (Z8 (Y8 2 (Y9 [] g__law_draw)) (Z0 (Z1 0) (Z0 (m_c (.int 2)) Z7))) (m_c (.int 0)))) (U3 (Y2 eqD (Z1 12) (V5 (Z1 4) (Y5t (m_c (.int 1))))))) (Z1 12) [12])) (Z9 (X2 6 (Z14 (.nm 12) (V7 (Z1 4)) (U3 (Y2 eqD (Z8 (Y8 2 (Y9 [] g__law_draw)) (Z0 (Z1 0) (Z0 (m_c (.int 3)) Z7))) (m_c (.int 0)))) (Z1 12) [12])) (Z9 (Q9 7 8 (Z0 (V5 (Z1 4) (Y5t (m_c (.int 1)))) (Z0 (V5 (Z1 4) (m_c (.int 1))) Z7))) (Z9 (X2 9 (V3 (Z0 (W1 (Z0 (m_c (.str "give")) (Z0 (m_c (.str "any")) (Z0 (Z1 7) (Z0 (m_c (.bl true)) Z7))))) (Z0 (W1 (Z0 (m_c (.str "carry")) (Z0 (m_c (.str "any")) (Z0 (Z1 8) (Z0 (m_c (.bl true)) Z7))))) (Z0 (W1 (Z0 (m_c (.str "right")) (Z0 (m_c (.str "any")) (Z0 (Z1 7) (Z0 (m_c (.bl true)) Z7))))) Z7))))) (Z9 (X2 9 (Y2 Z4e (Z1 9) (V3 (Z0 (W1 (Z0 (m_c (.str "wrong")) (Z0 (m_c (.str "any")) (Z0 (V5 (Z1 4) (m_c (.int 0))) (Z0 (m_c (.bl true)) Z7))))) (Z0 (W1 (Z0 (m_c (.str "drop")) (Z0 (Z1 8) (Z0 (V5 (Z1 4) (m_c (.int 0))) (Z0 (m_c (.bl true)) Z7))))) Z7))))) (Z9 (X2 9 (Y6 (Z1 9) Z1e (X4 (Y2 Z4e (m_c (.int 3)) (Z8 (Y8 2 (Y9 [] g__law_draw)) (Z0 (Z1 0) (Z0 (m_c (.int 3)) Z7))))))) (Z9 (Z1f (.nm 10) (Z5p (Z0 (Z8 (Y8 2 (Y9 [] g__law_draw)) (Z0 (Z1 0) (Z0 (m_c (.int 4)) (Z7)))) (Z7))) W9l) (Q1 (W1 (Z0 (Z8 Z75 (Z0 (Z1 4) Z7)) (Z0 (Z8 Z75 (Z0 (Z1 5) Z7)) (Z0 (Z8 Z75 (Z0 (Z1 6) Z7)) (Z0 (Z8 Z75 (Z0 (Y6 (Z1 9) Z1e (X4 (Z1 2))) Z7)) Z7))))))))))))))))
theorem W8t:Z6p=tl:=by kernel_rfl
theorem X4p {S:Sto} {b i:Nat} {mt:MG Bool} {e:Ev}:∀ {l:List Str} {T:Sto},i < e.length→Gd S b T→(∀ s ∈ l,∀ T,Gd S b T→∃ c T2,mt (e.set i (some (.d (.str s)))) T = .ok c T2∧Gd S b T2) →
    ∃ (l':List Str) (T2:Sto),lcL (.nm i) .free mt (Z1 i) e (l.map fun s=>X.d (.str s)) T = .ok (l'.map D.str) T2∧l'.Sublist l∧Gd S b T2
  | [],T,_,g,_=>⟨[],T,by simp [lcL,Lk.ok],List.Sublist.refl _,g⟩
  | s :: l,T,hi,g,h=>by
    obtain ⟨c,T1,ht,g1⟩:=h s (by simp) T g
    obtain ⟨l',T2,e2,hs,g2⟩:=X4p (l:=l) hi g1 fun s hs T g=>h s (List.mem_cons_of_mem _ hs) T g
    have hv:Z1 i (e.set i (some (X.d (.str s)))) T1 = .ok (.d (.str s)) T1:=Z6 (List.getElem?_set_self hi)
    cases c with
    | true=>exact ⟨s :: l',T2,by simp only [List.map_cons,lcL,Lk.ok,if_true,Tg.asg,ht,R.ne,R.bind,hv,e2],hs.cons₂ s,g2⟩
    | false=>exact ⟨l',T2,by simp only [List.map_cons,lcL,Lk.ok,if_true,Tg.asg,ht,R.ne,R.bind,Bool.false_eq_true,if_false,e2],hs.cons s,g2⟩
theorem X4q {S T:Sto} {b i:Nat} {mt:MG Bool} {mi:MIt} {e:Ev} {l:List Str} (hi:i < e.length) (g:Gd S b T) (hl:l.length < 1000) (hit:mi e T = .ok (l.map fun s=>X.d (.str s), .free) T) (h:∀ s ∈ l,∀ T,Gd S b T→∃ c T2,mt ((Z0s e [i]).set i (some (.d (.str s)))) T = .ok c T2∧Gd S b T2) :
    ∃ (l':List Str) (T2:Sto),Z14 (.nm i) mi mt (Z1 i) [i] e T = .ok (.d (.lst (l'.map D.str))) T2∧l'.Sublist l∧Gd S b T2:=by
  obtain ⟨l',T2,e1,hs,g2⟩:=X4p (e:=Z0s e [i]) (by rw [Z34]; exact hi) g h
  refine ⟨l',T2,?_,hs,g2⟩
  unfold Z14
  rw [hit]
  show (lcL (.nm i) .free mt (Z1 i) (Z0s e [i]) (l.map fun s=>X.d (.str s)) T).bind Y0k=_
  rw [e1]
  show Y0k (l'.map D.str) T2=_
  unfold Y0k
  have:=hs.length_le
  rw [if_pos (by rw [List.length_map,sizeLine_eq]; omega)]
def P1:List Str:=["none", "doubt", "good", "old", "bad"]
def P2:List Str:=["a", "b", "c", "d", "e"]
def P3:List Str:=["give", "drop", "right", "back", "wrong"]
def Y76:List D:=[Z9t P1,Z9t P2,Z9t P3]
theorem X03:∀ p ∈ [P1,P2,P3],(∀ x ∈ p,x ∈ Z5m)∧p.Nodup∧p.length=5:=by decide +kernel
theorem W1z {d:D} (h:d ∈ Y76):∃ p,d=Z9t p∧p ∈ [P1,P2,P3]:=by
  unfold Y76 at h
  simp only [List.mem_cons,List.not_mem_nil,or_false] at h
  rcases h with rfl | rfl | rfl
  · exact ⟨P1,rfl,by simp⟩
  · exact ⟨P2,rfl,by simp⟩
  · exact ⟨P3,rfl,by simp⟩
theorem X49:∀ p ∈ [P1,P2,P3],("twin" : Str) ∉ p:=by decide +kernel
theorem X5s {p:List Str} (h:p ∈ [P1,P2,P3]) {j:Nat} (hj:j < 4):∃ m0 m1 r,p.take (2 + j)=m0 :: m1 :: r∧(∀ x ∈ m0 :: m1 :: r,x ∈ Z5m)∧(m0 :: m1 :: r).Nodup∧r.length=j∧("twin" : Str) ∉ m0 :: m1 :: r:=by
  have tw:=X49 p h
  obtain ⟨h1,h2,h3⟩:=X03 p h
  match p,h3,tw with
  | a :: b :: r,h3,tw =>
    refine ⟨a,b,r.take j,by rw [Nat.add_comm]; rfl,fun x hx=>h1 x ?_,?_,by rw [List.length_take]; simp at h3; omega,fun hx=>tw ((List.take_sublist (j + 2) (a :: b :: r)).subset hx)⟩
    · exact (List.take_sublist (j + 2) (a :: b :: r)).subset hx
    · exact h2.sublist (List.take_sublist (j + 2) (a :: b :: r))
theorem W4i {m0:Str} {ms:List Str} {T:Sto}:∃ z ∈ m0 :: ms,ixO T (.d (Z9t (m0 :: ms))) (-1)=some (.d (.str z)):=by
  have hl:((m0 :: ms).map fun s=>X.d (.str s)).length=ms.length + 1:=by simp
  refine ⟨(m0 :: ms)[ms.length]'(by simp),List.getElem_mem _,?_⟩
  have e1:items T (.d (Z9t (m0 :: ms)))=some ((m0 :: ms).map fun s=>X.d (.str s)):=by simp [items,Z9t]
  unfold ixO
  rw [e1]
  show atI ((m0 :: ms).map fun s=>X.d (.str s)) (-1)=_
  unfold atI ixN
  rw [hl,if_neg (by omega),if_pos (by omega)]
  show ((m0 :: ms).map fun s=>X.d (.str s))[((-1:Int) + ((ms.length + 1:Nat):Int)).toNat]?=_
  rw [show ((-1:Int) + ((ms.length + 1:Nat):Int)).toNat=ms.length by omega,List.getElem?_map,List.getElem?_eq_getElem (by simp)]
  rfl
theorem W86 {m0:Str} {ms:List Str} {T:Sto}:ixO T (.d (Z9t (m0 :: ms))) 0=some (.d (.str m0)):=by
  simp only [ixO,ixD,items,Z9t,atI,ixN]
  rw [if_pos (by decide),if_pos (by simp <;> omega)]
  try rfl
theorem W90 {m0 m1:Str} {ms:List Str} {T:Sto}:ixO T (.d (Z9t (m0 :: m1 :: ms))) 1=some (.d (.str m1)):=by
  simp only [ixO,ixD,items,Z9t,atI,ixN]
  rw [if_pos (by decide),if_pos (by simp <;> omega)]
  try rfl
theorem Y42 {T:Sto} {rows:List Z16} {lo hi:Option Int}:slX T (.d (.lst (rows.map Z61))) lo hi=some (.d (.lst ((Z4w rows lo hi).map Z61))):=by
  show some (X.d (.lst (Z4w (rows.map Z61) lo hi)))=_
  unfold Z4w
  simp only [List.length_map,List.map_take,List.map_drop]
theorem Y99 {T:Sto} {l:List Str}:Y0g T (.d (Z9t l))=some (l.map (fun s=>X.d (.str s)), .free):=by
  show some ((l.map D.str).map X.d,Lk.free)=_
  rw [List.map_map]
  rfl
theorem X1g {i:Int} (h0:0 ≤ i) (h:i < 1000):Y0p i=true:=by
  have:=Z73 (n:=i.toNat) (by omega)
  rwa [Int.toNat_of_nonneg h0] at this
theorem W03 {α:Type} {xs:List α} {lo hi:Option Int} {x:α} (h:x ∈ Z4w xs lo hi):x ∈ xs:=by
  unfold Z4w at h
  exact (List.drop_sublist _ _).subset ((List.take_sublist _ _).subset h)
theorem W62 {a c:List Z16} (h:a.length + c.length < 1000):Z4e (.lst (a.map Z61)) (.lst (c.map Z61))=some (.lst ((a++c).map Z61)):=(Z8c (by simp; omega)).trans (by simp)
def evT (b:Nat) (most many:Int) (n:Nat) (m0 m1:Str) (r sh as:List Str) (g w:Str) (rows:List Z16) (o10 o11:Option X):Ev:=[some (.r (b + 1)),some (.d (.int most)),some (.d (.int many)),some (.r n),some (.d (Z9t (m0 :: m1 :: r))),some (.d (Z9t sh)),some (.d (Z9t as)),some (.d (.str g)),some (.d (.str w)),some (.d (.lst (rows.map Z61))),o10,o11,none]
theorem W24 {S T:Sto} {b:Nat} {most many:Nat} (g0:Gd S b T) (h1:2 ≤ most) (h2:most ≤ 5) (h3:many ≤ 8):∃ (m0:Str) (ms sh as:List Str) (rows:List Z16) (T2:Sto),g__law_tool [.r (b + 1), .d (.int most), .d (.int many)] T = .ok (.d (Z5n m0 ms sh as rows)) T2∧ToolOk m0 ms sh as rows∧ms.length < most∧rows.length ≤ many∧("twin" : Str) ∉ m0 :: ms∧Gd S b T2:=by
  have hT:=g0.ok
  have hbT:=g0.at_
  have hlt:=hbT.lt
  let o:O := .lst (Y76.map X.d)
  have ho:OkS (T++[o]):=hT.push rfl
  have hbo:Z62 (T++[o]) b:=by
    obtain ⟨gs,s,e1,e2,hd⟩:=hbT
    exact ⟨gs,s,by rw [List.getElem?_append_left (by omega)]; exact e1,by rw [List.getElem?_append_left (by omega)]; exact e2,hd⟩
  suffices h:Fw (Z6p (ev0 13 [.r (b + 1), .d (.int most), .d (.int many)]) T) (fun r=>∃ (m0:Str) (ms sh as:List Str) (rows:List Z16) (T2:Sto),r = .go (.rt (.d (Z5n m0 ms sh as rows))) T2∧ToolOk m0 ms sh as rows∧ms.length < most∧rows.length ≤ many∧("twin" : Str) ∉ m0 :: ms∧Gd (T++[o]) b T2) by
    obtain ⟨m0,ms,sh,as,rows,T2,e,hk,hm,hr,htw,g⟩:=h
    obtain ⟨T3,rfl,g3⟩:=g.drop hT hlt
    refine ⟨m0,ms,sh,as,rows,T3,Z85 e rfl ?_,hk,hm,hr,htw,g0.tr g3⟩
    have:=(g3.ok).cut (T:=[o])
    rwa [g3.len] at this
  have g:=Gd.refl ho hbo
  rw [W8t]
  unfold tl
  refine Fw.set (Z94 (Z5 (Z3v (ds:=P1.map D.str) (Z5 U0 (Z5 U0 (Z5 U0 (Z5 U0 (Z5 U0 Y3))))) rfl (hz4 (by first | decide | simp))) (Z5 (Z3v (ds:=P2.map D.str) (Z5 U0 (Z5 U0 (Z5 U0 (Z5 U0 (Z5 U0 Y3))))) rfl (hz4 (by first | decide | simp))) Y3)) (hz4 (by decide))) ?_
  have q0:(T++[O.lst [X.d (Z9t P1),X.d (Z9t P2)]])[T.length]?=some (.lst [X.d (Z9t P1),X.d (Z9t P2)]):=by simp
  refine Fw.expr (x := .d .non) (S1:=T++[o]) (Y21 (Z6 rfl) (Z5q q0) (Z5 (Z3v (ds:=P3.map D.str) (Z5 U0 (Z5 U0 (Z5 U0 (Z5 U0 (Z5 U0 Y3))))) rfl (hz4 (by first | decide | simp))) Y3) ((Y1k q0 (by rw [sizeLine_eq]; decide)).trans (by simp [o,Y76]; rfl))) ?_
  have q1:(T++[o])[T.length]?=some (.lst (Y76.map X.d)):=by simp [o]
  obtain ⟨d,T1,e1,hd,g⟩:=W5n (n:=T.length) g (by omega) (by omega) q1 (by simp [Y76]) (by simp [Y76])
  obtain ⟨p,rfl,hp⟩:=W1z hd
  obtain ⟨j,T2,e2,j0,j1,g⟩:=Z8i (m:=(most:Int) - 1) g (by omega)
  obtain ⟨m0,m1,r,ec,hn,hnd,hr,htw⟩:=X5s hp (j:=j.toNat) (by omega)
  have hcut:slX T2 (.d (Z9t p)) none (some (2 + j))=some (.d (Z9t (m0 :: m1 :: r))):=by
    show some (X.d (.lst (Z4w (p.map D.str) none (some (2 + j)))))=_
    rw [X19 _ (by omega),← List.map_take,show (2 + j).toNat=2 + j.toNat by omega,ec]
    rfl
  refine Fw.set (Z26 (X5 (Z5 (Z6 rfl) (Z5 (Z6 rfl) Y3)) (Q8 rfl e1)) Y0w (Z38 (W2 U0 (X5 (Z5 (Z6 rfl) (Z5 (W2 (Z6 rfl) U0 Y5 Y5 Z0u) Y3)) (Q8 rfl e2)) Y5 Y5 Z0e)) hcut) ?_
  obtain ⟨sh,T3,e3,hsh,g⟩:=X4q (i:=12) (mt:=(U2 (U3 (Y2 eqD (Z8 (Y8 2 (Y9 [] g__law_draw)) (Z0 (Z1 0) (Z0 (m_c (.int 2)) (Z7)))) (m_c (.int 0)))) (U3 (Y2 eqD (Z1 12) (V5 (Z1 4) (Y5t (m_c (.int 1)))))))) (mi:=V7 (Y6 (Z1 4) (X4 (m_c (.int 1))) (Z1e))) (e:=[some (.r (b + 1)),some (.d (.int most)),some (.d (.int many)),some (.r T.length),some (.d (Z9t (m0 :: m1 :: r))),none,none,none,none,none,none,none,none]) (l:=m1 :: r) (by simp) g (by simp; omega) (Z13 (Z26 (Z6 rfl) (Z38 U0) Y0w X4o) Y99) fun s hs T4 g=>by
    obtain ⟨k,T5,e5,_,_,g⟩:=Z8i (m:=2) g (by decide)
    by_cases hk:k=0
    · exact ⟨true,T5,X76 (Z1z (W2 (X5 (Z5 (Z6 rfl) (Z5 U0 Y3)) (Q8 rfl e5)) U0 Y5 Y5 (W7h hk))),g⟩
    · obtain ⟨z,_,hz⟩:=W4i (m0:=m0) (ms:=m1 :: r) (T:=T5)
      exact ⟨_,T5,Y5k (Z1z (W2 (X5 (Z5 (Z6 rfl) (Z5 U0 Y3)) (Q8 rfl e5)) U0 Y5 Y5 (W7g hk))) (Z1z (W2 (Z6 rfl) (Z0a (j:=-1) (Z6 rfl) rfl hz) Y5 Y5 Z2n)),g⟩
  refine Fw.set e3 ?_
  obtain ⟨as,T4,e4,has,g⟩:=X4q (i:=12) (mt:=(U3 (Y2 eqD (Z8 (Y8 2 (Y9 [] g__law_draw)) (Z0 (Z1 0) (Z0 (m_c (.int 3)) (Z7)))) (m_c (.int 0))))) (mi:=V7 (Z1 4)) (e:=[some (.r (b + 1)),some (.d (.int most)),some (.d (.int many)),some (.r T.length),some (.d (Z9t (m0 :: m1 :: r))),some (.d (Z9t sh)),none,none,none,none,none,none,none]) (l:=m0 :: m1 :: r) (by simp) g (by simp; omega) (Z13 (Z6 rfl) Y99) fun s hs T4 g=>by
    obtain ⟨k,T5,e5,_,_,g⟩:=Z8i (m:=3) g (by decide)
    exact ⟨_,T5,Z1z (W2 (X5 (Z5 (Z6 rfl) (Z5 U0 Y3)) (Q8 rfl e5)) U0 Y5 Y5 Y10),g⟩
  refine Fw.set e4 ?_
  obtain ⟨gd,hgd,hgx⟩:=W4i (m0:=m0) (ms:=m1 :: r) (T:=T4)
  refine Fw.par (Z5 (Z0a (j:=-1) (Z6 rfl) rfl hgx) (Z5 (Z0a (Z6 rfl) U0 W90) Y3)) ?_
  have hHAP:∀ w ∈ (["give", "carry", "right", "wrong", "drop"]:List Str),w ∈ X9j:=by decide +kernel
  have r1:Z8v m0 (m1 :: r) "give" "any" gd true:=⟨hHAP _ (by simp),List.mem_cons_self,List.mem_cons_of_mem _ hgd,fun _=>⟨rfl,List.mem_cons_self⟩⟩
  have r2:Z8v m0 (m1 :: r) "carry" "any" m1 true:=⟨hHAP _ (by simp),List.mem_cons_self,by simp,fun _=>⟨rfl,List.mem_cons_self⟩⟩
  have r3:Z8v m0 (m1 :: r) "right" "any" gd true:=⟨hHAP _ (by simp),List.mem_cons_self,List.mem_cons_of_mem _ hgd,fun _=>⟨rfl,List.mem_cons_self⟩⟩
  have r4:Z8v m0 (m1 :: r) "wrong" "any" m0 true:=⟨hHAP _ (by simp),List.mem_cons_self,by simp,fun _=>⟨rfl,List.mem_cons_self⟩⟩
  have r5:Z8v m0 (m1 :: r) "drop" m1 m0 true:=⟨hHAP _ (by simp),by simp,by simp,fun _=>⟨rfl,by simp⟩⟩
  let R3:List Z16:=[("give", "any",gd,true),("carry", "any",m1,true),("right", "any",gd,true)]
  let R5:List Z16:=[("wrong", "any",m0,true),("drop",m1,m0,true)]
  have hR:Y29 m0 (m1 :: r) (R3++R5):=fun q hq=>by
    simp only [R3,R5,List.cons_append,List.nil_append,List.mem_cons,List.not_mem_nil,or_false] at hq
    rcases hq with rfl | rfl | rfl | rfl | rfl
    · exact r1
    · exact r2
    · exact r3
    · exact r4
    · exact r5
  refine Fw.set (x := .d (.lst (R3.map Z61))) (S1:=T4) (Z3v (ds:=R3.map Z61) (Z5 (Z12 (ds:=[.str "give", .str "any", .str gd, .bl true]) (Z5 U0 (Z5 U0 (Z5 (Z6 rfl) (Z5 U0 Y3)))) rfl (hz4 (by first | decide | simp))) (Z5 (Z12 (ds:=[.str "carry", .str "any", .str m1, .bl true]) (Z5 U0 (Z5 U0 (Z5 (Z6 rfl) (Z5 U0 Y3)))) rfl (hz4 (by first | decide | simp))) (Z5 (Z12 (ds:=[.str "right", .str "any", .str gd, .bl true]) (Z5 U0 (Z5 U0 (Z5 (Z6 rfl) (Z5 U0 Y3)))) rfl (hz4 (by first | decide | simp))) Y3))) rfl (hz4 (by simp [R3,R5]))) ?_
  refine Fw.set (x := .d (.lst ((R3++R5).map Z61))) (S1:=T4) (W2 (Z6 rfl) (Z3v (ds:=R5.map Z61) (Z5 (Z12 (ds:=[.str "wrong", .str "any", .str m0, .bl true]) (Z5 U0 (Z5 U0 (Z5 (Z0a (Z6 rfl) U0 W86) (Z5 U0 Y3)))) rfl (hz4 (by first | decide | simp))) (Z5 (Z12 (ds:=[.str "drop", .str m1, .str m0, .bl true]) (Z5 U0 (Z5 (Z6 rfl) (Z5 (Z0a (Z6 rfl) U0 W86) (Z5 U0 Y3)))) rfl (hz4 (by first | decide | simp))) Y3)) rfl (hz4 (by simp [R3,R5]))) Y5 Y5 (W62 (by simp [R3,R5]))) ?_
  obtain ⟨k,T5,e5,k0,k1,g⟩:=Z8i (m:=3) g (by decide)
  refine Fw.set (Z26 (Z6 rfl) Y0w (Z38 (W2 U0 (X5 (Z5 (Z6 rfl) (Z5 U0 Y3)) (Q8 rfl e5)) Y5 Y5 Z0e)) Y42) ?_
  obtain ⟨n,T6,e6,n0,n1,g⟩:=Z8i (m:=4) g (by decide)
  have hI0:Y29 m0 (m1 :: r) (Z4w (R3++R5) none (some (3 + k)))∧(Z4w (R3++R5) none (some (3 + k))).length ≤ 5:=⟨fun q hq=>hR q (W03 hq),Y4b _ _ _⟩
  generalize Z4w (R3++R5) none (some (3 + k))=R0 at hI0
  refine Fw.for_ (t := .nm 10) (l:=List.range n.toNat) (f:=fun (i:Nat)=>X.d (.int (0 + (i:Int)))) (S1:=T6) (lk := .free) (Z69 (n:=n) (Z5 (X5 (Z5 (Z6 rfl) (Z5 U0 Y3)) (Q8 rfl e6)) Y3) (X1g n0 (by omega))) (fun l e T'=>∃ (rows:List Z16) (o10 o11:Option X),e=evT b most many T.length m0 m1 r sh as gd m1 rows o10 o11∧Y29 m0 (m1 :: r) rows∧rows.length + l.length ≤ 8∧Gd (T++[o]) b T') (fun _ _=>False) ⟨R0,none,none,rfl,hI0.1,by rw [List.length_range]; omega,g⟩ (fun _ _ _ _=>rfl) ?_ ?_
  · rintro i l e T' ⟨rows,o10,o11,rfl,hrows,hlen,g⟩
    refine ⟨_,rfl,?_⟩
    rw [List.length_cons] at hlen
    unfold W9l
    obtain ⟨d,T7,e7,d0,d1,g⟩:=Z8i (m:=(rows.length:Int) + 1) g (by omega)
    refine Fw.set (X5 (Z5 (Z6 rfl) (Z5 (W2 (X5 (Z5 (Z6 rfl) Y3) (W4j.trans (by rw [List.length_map]))) U0 Y5 Y5 Z0e) Y3)) (Q8 rfl e7)) ?_
    obtain ⟨w,o',t,kk,T8,e8,hrow,g⟩:=W50 (m0:=m0) (ms:=m1 :: r) g (by simp; omega)
    obtain ⟨d2,T9,e9,d20,d21,g⟩:=Z8i (m:=2) g (by decide)
    refine Fw.one (Fw.set (x := .d (.lst ((rows.take d.toNat++[(w,o',t,kk)]++rows.drop (d + d2).toNat).map Z61))) (S1:=T9) (W2 (W2 (d1 := .lst ((rows.take d.toNat).map Z61)) (d2 := .lst ([(w,o',t,kk)].map Z61)) (Z26 (Z6 rfl) Y0w (Z38 (Z6 rfl)) (Y42.trans (by rw [X19 _ d0]))) (Z3v (Z5 (X5 (Z5 (Z6 rfl) (Z5 (Z6 rfl) Y3)) (Q8 rfl e8)) Y3) rfl (hz4 (by first | decide | simp))) Y5 Y5 (W62 (by rw [List.length_take]; simp; omega))) (Z26 (Z6 rfl) (Z38 (W2 (Z6 rfl) (X5 (Z5 (Z6 rfl) (Z5 U0 Y3)) (Q8 rfl e9)) Y5 Y5 Z0e)) Y0w (Y42.trans (by rw [Y8z _ (by omega)]))) Y5 Y5 (W62 (by simp; omega))) (Fw.nil (.nx ⟨_,_,_,rfl,?_,?_,g⟩)))
    · intro q hq
      rcases List.mem_append.mp hq with hq | hq
      · rcases List.mem_append.mp hq with hq | hq
        · exact hrows q ((List.take_sublist _ _).subset hq)
        · rw [List.mem_singleton.mp hq]; exact hrow
      · exact hrows q ((List.drop_sublist _ _).subset hq)
    · simp only [List.length_append,List.length_take,List.length_drop,List.length_cons,List.length_nil]
      omega
  · rintro e T' (⟨rows,o10,o11,rfl,hrows,hlen,g⟩ | h)
    · refine Fw.one (Fw.ret (x := .d (Z5n m0 (m1 :: r) sh as (rows.take many))) (S1:=T') (Z12 (ds:=[Z52 (m0 :: m1 :: r),Z52 sh,Z52 as,X7j (rows.take many)]) (Z5 (X5 (Z5 (Z6 rfl) Y3) X1m) (Z5 (X5 (Z5 (Z6 rfl) Y3) X1m) (Z5 (X5 (Z5 (Z6 rfl) Y3) X1m) (Z5 (X5 (Z5 (Z26 (Z6 rfl) Y0w (Z38 (Z6 rfl)) (Y42.trans (by rw [X19 _ (by omega)]; rfl))) Y3) X1m) Y3)))) rfl (hz4 (by first | decide | simp))) ⟨m0,m1 :: r,sh,as,rows.take many,T',rfl,⟨hn,by simp; omega,by simp,hnd,hsh,has,by rw [List.length_take]; omega,fun q hq=>hrows q ((List.take_sublist _ _).subset hq)⟩,by simp; omega,by rw [List.length_take]; omega,htw,g⟩)
    · exact h.elim
end Lw
namespace Lw
open PySem PySem.Spec L2 Bv
open PyProof.Rows hiding St
variable [HasW]
section
variable {S T:Sto} {b:Nat} {m0:Str} {ms sh as:List Str} {rows:List Z16}
theorem X0j:ixO T (.d (Z5n m0 ms sh as rows)) 0=some (.d (Z52 (m0 :: ms))):=rfl
theorem W9x:ixO T (.d (Z5n m0 ms sh as rows)) 1=some (.d (Z52 sh)):=rfl
theorem W9y:ixO T (.d (Z5n m0 ms sh as rows)) 2=some (.d (Z52 as)):=rfl
theorem W6r:ixO T (.d (Z5n m0 ms sh as rows)) 3=some (.d (X7j rows)):=rfl
theorem W4k {ds:List D} (h:ds.length < 2000):X0l [.d (.tup ds)] T = .ok (.d (.lst ds)) T:=by
  have:=hz4 h
  simp [X0l,items,Y1z,this]
theorem W8o:slX T (.d (Z5n m0 ms sh as rows)) none (some 3)=some (.d (.tup [Z52 (m0 :: ms),Z52 sh,Z52 as])):=rfl
end
end Lw
namespace Lw
open PySem PySem.Spec L2 Bv
open PyProof.Rows hiding St
variable [HasW]
def rl:MS:=(Z9 (X2 1 (Y2 Z4e (V3 (Z0 (V5 (Z1 0) (m_c (.int 0))) (Z0 (V5 (Z1 0) (m_c (.int 1))) Z7))) (Z1q (U3 (Y2 neD (V5 (Z1 0) (m_c (.int 0))) (m_c (.str "give")))) (V3 Z7) (V3 (Z0 (Z1q (Y7 (V5 (Z1 0) (m_c (.int 3)))) (m_c (.str "take")) (m_c (.str "keep"))) Z7))))) (X3 (Z2s Z2q (m_c (.str " ")) (Y2 Z4e (Z1 1) (V3 (Z0 (m_c (.str "to")) (Z0 (V5 (Z1 0) (m_c (.int 2))) Z7)))))))
theorem W8h:Z47=rl:=by kernel_rfl
def tn:MS:=(Z9 (X2 1 (Z14 (.tp [(.nm 2),(.nm 3)]) (Y3l (Z0 (W1 (Z0 (m_c (.str "marks")) (Z0 (m_c (.str "shown")) (Z0 (m_c (.str "asked")) Z7)))) (Z0 (Y6 (Z1 0) Z1e (X4 (m_c (.int 3)))) Z7))) W8 (Z2s Z2q (m_c (.str " ")) (Y2 Z4e (W1 (Z0 (Z1 2) Z7)) (Z1 3))) [2,3])) (X3 (Y2 Z4e (Z1 1) (Z14 (.nm 4) (V7 (V5 (Z1 0) (m_c (.int 3)))) W8 (Z8 (Y8 1 (Y9 [] (callP g__law_row_line))) (Z0 (Z1 4) Z7)) [4]))))
theorem W8u:Z4g=tn:=by kernel_rfl
section
variable {m0:Str} {ms sh as:List Str} {rows:List Z16} {T:Sto}
theorem W0p {ms:MG (List X)} {e:Ev} {S S1:Sto} {xs:List X} {r:List X × Lk} (h:ms e S = .ok xs S1) (hz:X7u xs=some r):Y3l ms e S = .ok r S1:=by
  unfold Y3l
  rw [h]
  show Z04 (X7u xs) S1=_
  rw [hz]
  rfl
theorem X6f {k:Nat} {a:Str} {l:List Str} {T:Sto} (h:∀ z ∈ l,z.length ≤ k) (hb:l.length * (k + a.length) ≤ 16777216):Z2q a (.d (.tup (l.map D.str))) T = .ok (.d (.str (Str.join a l))) T:=by
  have:=Y4j (T:=T) h hb
  unfold Z2q at *
  exact this
theorem W6s {w o t:Str} {k:Bool}:ixO T (.d (X7s w o t k)) 0=some (.d (.str w)):=rfl
theorem W84 {w o t:Str} {k:Bool}:ixO T (.d (X7s w o t k)) 1=some (.d (.str o)):=rfl
theorem W9z {w o t:Str} {k:Bool}:ixO T (.d (X7s w o t k)) 2=some (.d (.str t)):=rfl
theorem W85 {w o t:Str} {k:Bool}:ixO T (.d (X7s w o t k)) 3=some (.d (.bl k)):=rfl
theorem Y77 {w o t:Str} {k:Bool} (h:Y1j w o t k):g__law_row_line [X7s w o t k] = .ok (.str (zR w o t k)):=by
  refine Z51 ?_
  rw [W8h]
  unfold rl
  let u:List Str:=if w = "give" then [w,o,if k then "take" else "keep"] else [w,o]
  have hu:Z35 w o t k=u++[("to" : Str),t]:=by
    show _=(if _ then _ else _)++_
    unfold Z35
    split <;> rfl
  have e1:Y2 Z4e (V3 (Z0 (V5 (Z1 0) (m_c (.int 0))) (Z0 (V5 (Z1 0) (m_c (.int 1))) (Z7)))) (Z1q (U3 (Y2 neD (V5 (Z1 0) (m_c (.int 0))) (m_c (.str "give")))) (V3 (Z7)) (V3 (Z0 (Z1q (Y7 (V5 (Z1 0) (m_c (.int 3)))) (m_c (.str "take")) (m_c (.str "keep"))) (Z7)))) (ev0 2 ([X7s w o t k].map X.d)) [] = .ok (.d (.lst (u.map D.str))) []:=by
    by_cases c:w = "give"
    · have hu:u=[w,o,if k then "take" else "keep"]:=if_pos c
      rw [hu]
      refine W2 (d1 := .lst [.str w, .str o]) (d2 := .lst [.str (if k then "take" else "keep")]) (Z3v (Z5 (Z0a (Z6 rfl) U0 W6s) (Z5 (Z0a (Z6 rfl) U0 W84) Y3)) rfl (hz4 (by simp))) (X2p (Z1z (W2 (Z0a (Z6 rfl) U0 W6s) U0 Y5 Y5 (W45 c))) (Z3v (Z5 (x := .d (.str (if k then "take" else "keep"))) ?_ Y3) rfl (hz4 (by simp)))) Y5 Y5 (Z8c (by simp))
      cases k with
      | true=>exact X2q (Y04 (Z0a (Z6 rfl) U0 W85) rfl) U0
      | false=>exact X2p (Y04 (Z0a (Z6 rfl) U0 W85) rfl) U0
    · have hu:u=[w,o]:=if_neg c
      rw [hu]
      exact W2 (d1 := .lst [.str w, .str o]) (d2 := .lst []) (Z3v (Z5 (Z0a (Z6 rfl) U0 W6s) (Z5 (Z0a (Z6 rfl) U0 W84) Y3)) rfl (hz4 (by simp))) (X2q (Z1z (W2 (Z0a (Z6 rfl) U0 W6s) U0 Y5 Y5 (W46 c))) (Z3v Y3 rfl (hz4 (by simp)))) Y5 Y5 (Z8c (by simp))
  refine Fw.set e1 ?_
  have ha:Z4e (.lst (u.map D.str)) (.lst [.str "to", .str t])=some (.lst ((Z35 w o t k).map D.str)):=by
    rw [hu]
    refine (Z8c ?_).trans (by simp)
    show (List.map D.str (if w = "give" then [w,o,if k then "take" else "keep"] else [w,o])).length + 2 < 2000
    split <;> simp
  have hz:∀ z ∈ Z35 w o t k,z.length ≤ 5:=fun z m=>(Z4u (Z9u h z m)).1
  have hl:(Z35 w o t k).length ≤ 5:=by unfold Z35; split <;> simp
  have hj:=Y4j (T:=[]) (a := " ") hz (by rw [Z2u.2.2.2.2]; omega)
  exact Fw.one (Fw.retP (Y87 U0 (W2 (Z6 rfl) (Z3v (ds:=[.str "to", .str t]) (Z5 U0 (Z5 (Z0a (Z6 rfl) U0 W9z) Y3)) rfl (hz4 (by simp))) Y5 Y5 ha) hj) Y5 rfl)
theorem Z6v (h:ToolOk m0 ms sh as rows):g__law_tool_lines [Z5n m0 ms sh as rows] = .ok (.lst ((Z3y m0 ms sh as rows).map D.str)):=by
  obtain ⟨q1,q2,q3,_⟩:=Z2u
  have lm:=h.few
  have lr:=h.len
  have ls:sh.length ≤ ms.length:=h.sh.length_le
  have la:as.length ≤ ms.length + 1:=h.as.length_le
  have hin:∀ p ∈ Z5o m0 ms sh as,p.1.length=5∧(∀ z ∈ p.2,z ∈ Z5m)∧p.2.length ≤ 5:=fun p hp=>by
    unfold Z5o at hp
    simp only [List.mem_cons,List.not_mem_nil,or_false] at hp
    rcases hp with rfl | rfl | rfl
    · exact ⟨q1,h.names,by simp; omega⟩
    · exact ⟨q2,fun y hy=>h.names y (List.mem_cons_of_mem _ (h.sh.subset hy)),by show sh.length ≤ 5; omega⟩
    · exact ⟨q3,fun y hy=>h.names y (h.as.subset hy),by show as.length ≤ 5; omega⟩
  refine Z51 ?_
  rw [W8u]
  unfold tn
  have e1:Z14 (.tp [(.nm 2),(.nm 3)]) (Y3l (Z0 (W1 (Z0 (m_c (.str "marks")) (Z0 (m_c (.str "shown")) (Z0 (m_c (.str "asked")) (Z7))))) (Z0 (Y6 (Z1 0) (Z1e) (X4 (m_c (.int 3)))) (Z7)))) (W8) (Z2s Z2q (m_c (.str " ")) (Y2 Z4e (W1 (Z0 (Z1 2) (Z7))) (Z1 3))) [2,3] (ev0 5 ([Z5n m0 ms sh as rows].map X.d)) [] = .ok (.d (.lst ((Z5o m0 ms sh as).map fun p => .str (Str.join " " (p.1 :: p.2))))) []:=by
    refine Z4f (fun p=>X.d (.tup [.str p.1,Z52 p.2])) (fun p => .str (Str.join " " (p.1 :: p.2))) (l:=Z5o m0 ms sh as) ?_ (hz4 (by simp [Z5o])) fun p hp=>?_
    · exact W0p (Z5 (Z12 (ds:=[.str "marks", .str "shown", .str "asked"]) (Z5 U0 (Z5 U0 (Z5 U0 Y3))) rfl (hz4 (by simp))) (Z5 (Z26 (Z6 rfl) Y0w (Z38 U0) W8o) Y3)) rfl
    · obtain ⟨a1,a2,a3⟩:=hin p hp
      have hz:∀ z ∈ p.1 :: p.2,z.length ≤ 5:=fun z m=>(List.mem_cons.mp m).elim (fun e=>by rw [e]; omega) fun m=>X33 (a2 z m)
      have hj:=X6f (T:=[]) (a := " ") (l:=p.1 :: p.2) hz (by rw [Z2u.2.2.2.2,List.length_cons]; omega)
      exact ⟨_,rfl,Y87 U0 (W2 (d1 := .tup [.str p.1]) (d2:=Z52 p.2) (Z12 (Z5 (Z6 rfl) Y3) rfl (hz4 (by simp))) (Z6 rfl) Y5 Y5 (X1v (by simp [Z52]; omega))) hj⟩
  refine Fw.set e1 ?_
  have e2:Z14 (.nm 4) (V7 (V5 (Z1 0) (m_c (.int 3)))) (W8) (Z8 (Y8 1 (Y9 [] (callP g__law_row_line))) (Z0 (Z1 4) (Z7))) [4] ((ev0 5 ([Z5n m0 ms sh as rows].map X.d)).set 1 (some (.d (.lst ((Z5o m0 ms sh as).map fun p => .str (Str.join " " (p.1 :: p.2))))))) [] = .ok (.d (.lst (rows.map fun r => .str (zQ r)))) []:=by
    refine Z4f (fun r=>X.d (Z61 r)) (fun r => .str (zQ r)) (l:=rows) (Z13 (Z0a (Z6 rfl) U0 W6r) Z4l) (hz4 (by omega)) fun r hr=>⟨_,rfl,?_⟩
    exact X5 (Z5 (Z6 rfl) Y3) (Q8 rfl (Y0v (Y77 ((h.rows r hr).ok h.names))))
  refine Fw.one (Fw.retP (W2 (Z6 rfl) e2 Y5 Y5 ((Z8c (by simp [Z5o]; omega)).trans ?_)) Y5 rfl)
  simp [Z5o,Z3y,List.map_map]
theorem X1k (h:ToolOk m0 ms sh as rows):g__law_tool_of [Z5n m0 ms sh as rows] = .ok (Z84 m0 ms sh as rows):=by
  refine Z51 ?_
  unfold Z5z
  exact Fw.one (Fw.retP (X5y U0 (Z5 (Y87 U0 (X5 (Z5 (Z6 rfl) Y3) (Q8 rfl (Y0v (Z6v h)))) (Y3m h (List.Perm.refl _) (List.Perm.refl _))) Y3) (Q8 rfl (Y5j (X4g h (List.Perm.refl _) (List.Perm.refl _))))) Y5 rfl)
end
end Lw
namespace Lw
open PySem
structure TQ where
  m0:Str
  ms:List Str
  sh:List Str
  as:List Str
  rows:List Z16
abbrev TQ.Ok (t:TQ):Prop:=ToolOk t.m0 t.ms t.sh t.as t.rows
abbrev TQ.marks (t:TQ):List Str:=t.m0 :: t.ms
def TQ.bec (t:TQ) (w m:Str):Str × Bool:=Y6w t.m0 w m t.rows
def TQ.told (t:TQ) (m:Str):Bool × Bool × Bool:=(decide (m=t.m0),decide (m ∈ t.sh),decide (m ∈ t.as))
def TQ.go (t:TQ):Str→List Str→Str
  | m,[]=>m
  | m,w :: l=>t.go (t.bec w m).1 l
theorem TQ.go_app (t:TQ):∀ (l:List Str) (m w:Str),t.go m (l++[w])=(t.bec w (t.go m l)).1
  | [],_,_=>rfl
  | a :: l,m,w=>t.go_app l (t.bec a m).1 w
def eqv (p q:TQ):Nat→Str→Str→Prop
  | 0,s,t=>p.told s=q.told t
  | n + 1,s,t=>p.told s=q.told t∧∀ w ∈ W6,(p.bec w s).2=(q.bec w t).2∧eqv p q n (p.bec w s).1 (q.bec w t).1
theorem eqv.told {p q:TQ} {n:Nat} {s t:Str} (h:eqv p q n s t):p.told s=q.told t:=by
  cases n with
  | zero=>exact h
  | succ n=>exact h.1
theorem eqv.down {p q:TQ}:∀ {n:Nat} {s t:Str},eqv p q (n + 1) s t→eqv p q n s t
  | 0,_,_,h=>h.1
  | _ + 1,_,_,h=>⟨h.1,fun w hw=>⟨(h.2 w hw).1,(h.2 w hw).2.down⟩⟩
theorem eqv.mono {p q:TQ} {n k:Nat} {s t:Str} (h:eqv p q n s t) (hk:k ≤ n):eqv p q k s t:=by
  induction n with
  | zero =>
    have e:k=0:=by omega
    subst e
    exact h
  | succ n ih =>
    by_cases c:k=n + 1
    · rw [c]; exact h
    · exact ih h.down (by omega)
theorem eqv.symm {p q:TQ}:∀ {n:Nat} {s t:Str},eqv p q n s t→eqv q p n t s
  | 0,_,_,h=>Eq.symm h
  | _ + 1,_,_,h=>⟨h.1.symm,fun w hw=>⟨(h.2 w hw).1.symm,(h.2 w hw).2.symm⟩⟩
theorem eqv.trans {p q r:TQ}:∀ {n:Nat} {s t u:Str},eqv p q n s t→eqv q r n t u→eqv p r n s u
  | 0,_,_,_,h,h2=>Eq.trans h h2
  | _ + 1,_,_,_,h,h2=>⟨h.1.trans h2.1,fun w hw=>⟨(h.2 w hw).1.trans (h2.2 w hw).1,(h.2 w hw).2.trans (h2.2 w hw).2⟩⟩
theorem Y86 {p:TQ}:∀ {n:Nat} {s:Str},eqv p p n s s
  | 0,_=>rfl
  | _ + 1,_=>⟨rfl,fun _ _=>⟨rfl,Y86⟩⟩
def Dif (p q:TQ) (s t:Str) (u:List Str) (w:Str):Prop:=(p.bec w (p.go s u)).2 ≠ (q.bec w (q.go t u)).2 ∨ p.told (p.bec w (p.go s u)).1 ≠ q.told (q.bec w (q.go t u)).1
theorem X70 {p q:TQ}:∀ {u:List Str} {w s t:Str},(∀ x ∈ u,x ∈ W6)→w ∈ W6→Dif p q s t u w→¬ eqv p q (u.length + 1) s t
  | [],w,s,t,_,hw,hd,h=>by
    rcases hd with d | d
    · exact d (h.2 w hw).1
    · exact d (h.2 w hw).2.told
  | a :: u,w,s,t,hu,hw,hd,h=>X70 (u:=u) (fun x hx=>hu x (List.mem_cons_of_mem _ hx)) hw hd (h.2 a (hu a (by simp))).2
theorem X74 {p q:TQ}:∀ {k:Nat} {s t:Str},p.told s=q.told t→(∀ u w,(∀ x ∈ u,x ∈ W6)→w ∈ W6→u.length < k→¬ Dif p q s t u w)→eqv p q k s t
  | 0,_,_,h,_=>h
  | k + 1,s,t,h,hd=>⟨h,fun w hw=>by
    have h0:=hd [] w (fun _ h=>nomatch h) hw (by simp)
    unfold Dif at h0
    have h1:=not_or.mp h0
    refine ⟨Decidable.byContradiction fun c=>h1.1 c,X74 (Decidable.byContradiction fun c=>h1.2 c) fun u v hu hv hl hdif=>hd (w :: u) v (fun x hx=>?_) hv (by simp; omega) hdif⟩
    rcases List.mem_cons.mp hx with rfl | hx
    · exact hw
    · exact hu x hx⟩
def Y0h (p q:TQ):Option (List Str)→Prop
  | none=>∀ n,eqv p q n p.m0 q.m0
  | some l=>l.length ≤ 40∧(∀ x ∈ l,x ∈ W6)∧(∀ k,k < l.length→eqv p q k p.m0 q.m0)∧((l=[]∧p.told p.m0 ≠ q.told q.m0) ∨ ∃ u w,l=u++[w]∧Dif p q p.m0 q.m0 u w)
theorem Y0h.ne {p q:TQ} {l:List Str} (h:Y0h p q (some l)):¬ eqv p q l.length p.m0 q.m0:=by
  obtain ⟨_,h2,_,h4⟩:=h
  rcases h4 with ⟨rfl,h4⟩ | ⟨u,w,rfl,h4⟩
  · exact fun z=>h4 z.told
  · rw [List.length_append]
    exact X70 (fun x hx=>h2 x (by simp [hx])) (h2 w (by simp)) h4
theorem Y0h.none_iff {p q:TQ} {r:Option (List Str)} (h:Y0h p q r):r=none ↔ ∀ n,eqv p q n p.m0 q.m0:=by
  cases r with
  | none=>exact ⟨fun _=>h,fun _=>rfl⟩
  | some l=>exact ⟨fun e=>(nomatch e),fun e=>(h.ne (e _)).elim⟩
abbrev Nd:=(Str × Str) × List Str
structure Bfs (p q:TQ) (N:List Nd) (a:Nat):Prop where
  head:N[0]?=some ((p.m0,q.m0),[])
  nd:(N.map (·.1)).Nodup
  ok:∀ e ∈ N,(∀ x ∈ e.2,x ∈ W6)∧p.go p.m0 e.2=e.1.1∧q.go q.m0 e.2=e.1.2∧p.told e.1.1=q.told e.1.2∧e.1.1 ∈ p.marks∧e.1.2 ∈ q.marks
  up:∀ (i j:Nat) (e f:Nd),N[i]?=some e→N[j]?=some f→i ≤ j→e.2.length ≤ f.2.length
  near:∀ (i:Nat) (e f:Nd),a ≤ i→N[i]?=some e→f ∈ N→f.2.length ≤ e.2.length + 1
  done:∀ (i:Nat) (e:Nd),i < a→N[i]?=some e→∀ w ∈ W6,(p.bec w e.1.1).2=(q.bec w e.1.2).2∧∃ f ∈ N,f.1=((p.bec w e.1.1).1,(q.bec w e.1.2).1)∧f.2.length ≤ e.2.length + 1
  deep:∀ (i:Nat) (e:Nd),N[i]?=some e→e.2.length ≤ i
structure Bfw (p q:TQ) (N:List Nd) (a:Nat) (e0:Nd) (ws:List Str):Prop where
  b:Bfs p q N a
  at_:N[a]?=some e0
  ws:∀ w ∈ ws,(p.bec w e0.1.1).2=(q.bec w e0.1.2).2∧∃ f ∈ N,f.1=((p.bec w e0.1.1).1,(q.bec w e0.1.2).1)∧f.2.length ≤ e0.2.length + 1
section
variable {p q:TQ} {N:List Nd} {a:Nat} {e0:Nd} {ws:List Str} {w:Str}
theorem Bfs.len (h:Bfs p q N a):N.length ≤ p.marks.length * q.marks.length:=by
  have h1:∀ x ∈ N.map (·.1),x ∈ p.marks.flatMap fun s=>q.marks.map fun t=>(s,t):=fun x hx=>by
    obtain ⟨e,he,rfl⟩:=List.mem_map.mp hx
    obtain ⟨_,_,_,_,h5,h6⟩:=h.ok e he
    exact List.mem_flatMap.mpr ⟨e.1.1,h5,List.mem_map.mpr ⟨e.1.2,h6,rfl⟩⟩
  have h2:=h.nd.length_le_of_subset (fun x hx=>h1 x hx)
  rw [List.length_map] at h2
  have h3:∀ l:List Str,(l.flatMap fun s=>q.marks.map fun t=>(s,t)).length=l.length * q.marks.length:=fun l=>by
    induction l with
    | nil=>simp
    | cons x l ih=>rw [List.flatMap_cons,List.length_append,ih,List.length_map,show (x :: l).length=l.length + 1 from rfl,Nat.succ_mul,Nat.add_comm]
  rw [h3] at h2
  exact h2
theorem Bfw.on (h:Bfw p q N a e0 W6):Bfs p q N (a + 1) where
  head:=h.b.head
  nd:=h.b.nd
  ok:=h.b.ok
  up:=h.b.up
  near:=fun i e f hi he hf=>h.b.near i e f (by omega) he hf
  done:=fun i e hi he=>by
    by_cases c:i < a
    · exact h.b.done i e c he
    · have:i=a:=by omega
      subst this
      rw [h.at_] at he
      cases he
      exact h.ws
  deep:=h.b.deep
theorem Bfw.old (h:Bfw p q N a e0 ws) (hw:(p.bec w e0.1.1).2=(q.bec w e0.1.2).2) {f:Nd} (hf:f ∈ N) (he:f.1=((p.bec w e0.1.1).1,(q.bec w e0.1.2).1)):Bfw p q N a e0 (ws++[w]) where
  b:=h.b
  at_:=h.at_
  ws:=fun v hv=>by
    rcases List.mem_append.mp hv with hv | hv
    · exact h.ws v hv
    · rw [List.mem_singleton.mp hv]
      exact ⟨hw,f,hf,he,h.b.near a e0 f (Nat.le_refl _) h.at_ hf⟩
theorem Y3a {N:List Nd} {x e:Nd} {i:Nat} (h:(N++[x])[i]?=some e):N[i]?=some e ∨ (i=N.length∧e=x):=by
  rcases Nat.lt_trichotomy i N.length with c | c | c
  · rw [List.getElem?_append_left c] at h
    exact .inl h
  · subst c
    simp at h
    exact .inr ⟨rfl,h.symm⟩
  · rw [List.getElem?_eq_none (by simp; omega)] at h
    cases h
theorem Bfw.new (h:Bfw p q N a e0 ws) (hw:(p.bec w e0.1.1).2=(q.bec w e0.1.2).2) (ht:p.told (p.bec w e0.1.1).1=q.told (q.bec w e0.1.2).1) (h6:w ∈ W6) (h1:(p.bec w e0.1.1).1 ∈ p.marks) (h2:(q.bec w e0.1.2).1 ∈ q.marks) (hn:((p.bec w e0.1.1).1,(q.bec w e0.1.2).1) ∉ N.map (·.1)) :
    Bfw p q (N++[(((p.bec w e0.1.1).1,(q.bec w e0.1.2).1),e0.2++[w])]) a e0 (ws++[w]):=by
  have hm:=List.mem_of_getElem? h.at_
  have hal:=(List.getElem?_eq_some_iff.mp h.at_).1
  obtain ⟨k1,k2,k3,k4,k5,k6⟩:=h.b.ok e0 hm
  have hl:(e0.2++[w]).length=e0.2.length + 1:=by simp
  have hmx:∀ f ∈ N,f.2.length ≤ e0.2.length + 1:=fun f hf=>h.b.near a e0 f (Nat.le_refl _) h.at_ hf
  have up1:∀ i e,a ≤ i→N[i]?=some e→e0.2.length ≤ e.2.length:=fun i e hi he=>h.b.up a i e0 e h.at_ he hi
  refine ⟨⟨?_,?_,?_,?_,?_,?_,?_⟩,?_,?_⟩
  · have:=(List.getElem?_eq_some_iff.mp h.b.head).1
    rw [List.getElem?_append_left this]
    exact h.b.head
  · rw [List.map_append,List.nodup_append]
    refine ⟨h.b.nd,by simp,fun x hx y hy e=>?_⟩
    rw [List.map_cons,List.map_nil,List.mem_singleton] at hy
    rw [e,hy] at hx
    exact hn hx
  · intro e he
    rcases List.mem_append.mp he with he | he
    · exact h.b.ok e he
    · rw [List.mem_singleton.mp he]
      refine ⟨fun x hx=>?_,?_,?_,ht,h1,h2⟩
      · rcases List.mem_append.mp hx with hx | hx
        · exact k1 x hx
        · rw [List.mem_singleton.mp hx]; exact h6
      · rw [p.go_app,k2]
      · rw [q.go_app,k3]
  · intro i j e f he hf hij
    rcases Y3a he with he | ⟨rfl,rfl⟩
    · rcases Y3a hf with hf | ⟨rfl,rfl⟩
      · exact h.b.up i j e f he hf hij
      · rw [hl]; exact hmx e (List.mem_of_getElem? he)
    · rcases Y3a hf with hf | ⟨rfl,rfl⟩
      · have:=(List.getElem?_eq_some_iff.mp hf).1
        omega
      · exact Nat.le_refl _
  · intro i e f hi he hf
    rcases Y3a he with he | ⟨rfl,rfl⟩
    · have:=up1 i e hi he
      rcases List.mem_append.mp hf with hf | hf
      · exact h.b.near i e f hi he hf
      · rw [List.mem_singleton.mp hf,hl]; omega
    · rcases List.mem_append.mp hf with hf | hf
      · have:=hmx f hf; rw [hl]; omega
      · rw [List.mem_singleton.mp hf]; omega
  · intro i e hi he v hv
    rcases Y3a he with he | ⟨rfl,rfl⟩
    · obtain ⟨x1,f,hf,x2,x3⟩:=h.b.done i e hi he v hv
      exact ⟨x1,f,List.mem_append_left _ hf,x2,x3⟩
    · omega
  · intro i e he
    rcases Y3a he with he | ⟨rfl,rfl⟩
    · exact h.b.deep i e he
    · rw [hl]
      have:=h.b.deep a e0 h.at_
      omega
  · rw [List.getElem?_append_left hal]
    exact h.at_
  · intro v hv
    rcases List.mem_append.mp hv with hv | hv
    · obtain ⟨x1,f,hf,x2,x3⟩:=h.ws v hv
      exact ⟨x1,f,List.mem_append_left _ hf,x2,x3⟩
    · rw [List.mem_singleton.mp hv]
      exact ⟨hw,_,List.mem_append_right _ (List.mem_singleton.mpr rfl),rfl,by rw [hl]; omega⟩
theorem Bfs.reach (h:Bfs p q N a):∀ {n:Nat} {u:List Str},(∀ x ∈ u,x ∈ W6)→u.length=n→(∀ i e,N[i]?=some e→e.2.length < n→i < a)→∃ f ∈ N,f.1=(p.go p.m0 u,q.go q.m0 u)∧f.2.length ≤ n
  | 0,u,_,hl,_=>by
    have e:=List.eq_nil_of_length_eq_zero hl
    subst e
    exact ⟨_,List.mem_of_getElem? h.head,rfl,Nat.zero_le _⟩
  | n + 1,u,hu,hl,hd=>by
    have hne:u ≠ []:=fun e=>by rw [e] at hl; cases hl
    obtain ⟨v,w,rfl⟩:∃ v w,u=v++[w]:=⟨u.dropLast,u.getLast hne,(List.dropLast_concat_getLast hne).symm⟩
    have hl2:v.length=n:=by simpa using hl
    obtain ⟨f,hf,e1,l1⟩:=h.reach (n:=n) (u:=v) (fun x hx=>hu x (by simp [hx])) hl2 fun i e he hlt=>hd i e he (by omega)
    obtain ⟨i,hi⟩:=List.getElem?_of_mem hf
    obtain ⟨_,g,hg,e2,l2⟩:=h.done i f (hd i f hi (by omega)) hi w (hu w (by simp))
    refine ⟨g,hg,?_,by omega⟩
    rw [e2,e1,p.go_app,q.go_app]
theorem Bfs.short (h:Bfs p q N a) {n:Nat} (hd:∀ i e,N[i]?=some e→e.2.length < n→i < a):∀ {k:Nat},k ≤ n→eqv p q k p.m0 q.m0:=fun {k} hk=>by
  have h0:=h.ok _ (List.mem_of_getElem? h.head)
  refine X74 h0.2.2.2.1 fun u w hu hw hl hdif=>?_
  obtain ⟨f,hf,e1,l1⟩:=h.reach (n:=u.length) hu rfl fun i e he hlt=>hd i e he (by omega)
  obtain ⟨i,hi⟩:=List.getElem?_of_mem hf
  obtain ⟨x1,g,hg,e2,_⟩:=h.done i f (hd i f hi (by omega)) hi w hw
  rw [e1] at x1 e2
  have h4:=(h.ok g hg).2.2.2.1
  rw [e2] at h4
  rcases hdif with d | d
  · exact d x1
  · exact d h4
theorem Bfs.all (h:Bfs p q N a) (ha:N.length ≤ a):Y0h p q none:=fun n=>h.short (n:=n) (fun i e he _=>by have:=(List.getElem?_eq_some_iff.mp he).1; omega) (Nat.le_refl _)
theorem Bfw.part (h:Bfw p q N a e0 ws) (h6:w ∈ W6) (hl:N.length ≤ 30) (hd:(p.bec w e0.1.1).2 ≠ (q.bec w e0.1.2).2 ∨ p.told (p.bec w e0.1.1).1 ≠ q.told (q.bec w e0.1.2).1):Y0h p q (some (e0.2++[w])):=by
  have hm:=List.mem_of_getElem? h.at_
  have hal:=(List.getElem?_eq_some_iff.mp h.at_).1
  obtain ⟨k1,k2,k3,_⟩:=h.b.ok e0 hm
  have hdp:=h.b.deep a e0 h.at_
  refine ⟨by simp; omega,fun x hx=>?_,fun k hk=>h.b.short (n:=e0.2.length) (fun i e he hlt=>?_) (by simpa using Nat.lt_succ_iff.mp (by simpa using hk)), .inr ⟨_,_,rfl,?_⟩⟩
  · rcases List.mem_append.mp hx with hx | hx
    · exact k1 x hx
    · rw [List.mem_singleton.mp hx]; exact h6
  · refine Decidable.byContradiction fun c=>?_
    have:=h.b.up a i e0 e h.at_ he (by omega)
    omega
  · unfold Dif
    rw [k2,k3]
    exact hd
theorem X11 (h:p.told p.m0=q.told q.m0):Bfs p q [((p.m0,q.m0),[])] 0 where
  head:=rfl
  nd:=by simp
  ok:=fun e he=>by
    rw [List.mem_singleton.mp he]
    exact ⟨fun _ h=>(nomatch h),rfl,rfl,h,by simp,by simp⟩
  up:=fun i j e f he hf _=>by
    have h1:=List.mem_singleton.mp (List.mem_of_getElem? he)
    have h2:=List.mem_singleton.mp (List.mem_of_getElem? hf)
    rw [h1,h2]
    exact Nat.le_refl _
  near:=fun i e f _ he hf=>by
    rw [List.mem_singleton.mp hf]
    exact Nat.zero_le _
  done:=fun i e hi=>by omega
  deep:=fun i e he=>by
    rw [List.mem_singleton.mp (List.mem_of_getElem? he)]
    exact Nat.zero_le _
end
end Lw
namespace Lw
open PySem PySem.Spec L2 Bv
open PyProof.Rows hiding St
variable [HasW]
def X4c:MS:=(Z9 (Q9 9 10 (Z0 (Z3l "Tool" "becomes" (Y8 3 (Y9 [] (callP U7))) (Z1 0) (Z0 (Z1 8) (Z0 (Z1 6) Z7))) (Z0 (Z3l "Tool" "becomes" (Y8 3 (Y9 [] (callP U7))) (Z1 1) (Z0 (Z1 8) (Z0 (Z1 7) Z7))) Z7))) (Z9 (X2 11 (W1 (W9 (Y5v (Z1 3) (W1 (Z0 (Z1 6) (Z0 (Z1 7) Z7)))) (Z0 (Z1 8) Z7)))) (Z9 (Z0r (U2 (U3 (Y2 neD (V5 (Z1 9) (m_c (.int 1))) (V5 (Z1 10) (m_c (.int 1))))) (U3 (Y2 neD (Z8 (Y8 2 (Y9 [] (callP g_told_of))) (Z0 (Z1 0) (Z0 (V5 (Z1 9) (m_c (.int 0))) Z7))) (Z8 (Y8 2 (Y9 [] (callP g_told_of))) (Z0 (Z1 1) (Z0 (V5 (Z1 10) (m_c (.int 0))) Z7)))))) (X3 (Z1 11)) W7) (Z9 (X2 12 (W1 (Z0 (V5 (Z1 9) (m_c (.int 0))) (Z0 (V5 (Z1 10) (m_c (.int 0))) Z7)))) (Z0r (U3 (Y7n true (Z1 12) (Z1 3))) (Z9 (Y6c (Z1 3) (Z1 12) (Z1 11)) (W0 (Z1s V8 U4 (Z1 4) (Z0 (Z1 12) Z7)))) W7)))))
def W5p:MS:=(Z9 (Z0d (.tp [(.nm 6),(.nm 7)]) (V5 (Z1 4) (Z1 5))) (Z9 (Y78 5 W61 (m_c (.int 1))) (Z1f (.nm 8) (V7 (m_c (.tup ((["give", "carry", "drop", "back", "right", "wrong"]:List Str).map D.str)))) X4c)))
def prt:MS:=(Z9 (X2 2 (W1 (Z0 (Y4 ["Tool"] "blank" (Z1 0)) (Z0 (Y4 ["Tool"] "blank" (Z1 1)) Z7)))) (Z9 (Z0r (U3 (Y2 neD (Z8 (Y8 2 (Y9 [] (callP g_told_of))) (Z0 (Z1 0) (Z0 (Y4 ["Tool"] "blank" (Z1 0)) Z7))) (Z8 (Y8 2 (Y9 [] (callP g_told_of))) (Z0 (Z1 1) (Z0 (Y4 ["Tool"] "blank" (Z1 1)) Z7))))) (V4 Z7) W7) (Z9 (Y3x 3 4 5 (Z0 (Y7o (Z1 2) (W1 Z7)) (Z0 (V2 (Z0 (Z1 2) Z7)) (Z0 (m_c (.int 0)) Z7)))) (Z9 (Z7o (U3 (Y2 ltD (Z1 5) (Z8 Z1d (Z0 (Z1 4) (Z7))))) W5p) (X3 (m_c .non))))))
theorem W5q:Z89=prt:=by kernel_rfl
def TQ.D (t:TQ):D:=Z84 t.m0 t.ms t.sh t.as t.rows
def t3D (b:Bool × Bool × Bool):D := .tup [.bl b.1, .bl b.2.1, .bl b.2.2]
section
variable {p q t:TQ} {T:Sto} {m w:Str}
theorem Z56:Z0i ["Tool"] "blank" T (.d t.D)=some (.d (.str t.m0)):=by rfl
theorem Z6h:g_told_of [t.D, .str m] = .ok (t3D (t.told m)):=by
  refine Z51 ?_
  unfold Y1o
  exact Fw.one (Fw.retT (Z5 (W2 (Z6 rfl) (Z1j (Z6 rfl) Z56) Y5 Y5 Z2n) (Z5 (W2 (Z6 rfl) (Z1j (Z6 rfl) Y8t) Y5 Y5 Z8j) (Z5 (W2 (Z6 rfl) (Z1j (Z6 rfl) Y8p) Y5 Y5 Z8j) Y3))) rfl (hz4 (by simp)) rfl)
theorem W44 {a b:Bool × Bool × Bool}:neD (t3D a) (t3D b)=some (.bl (!decide (a=b))):=by
  obtain ⟨a1,a2,a3⟩:=a
  obtain ⟨b1,b2,b3⟩:=b
  rw [W43 (p := .tuple [.bool a1, .bool a2, .bool a3]) (q := .tuple [.bool b1, .bool b2, .bool b3]) rfl rfl (by simp [PyData.depth,PyData.depthAll]) (by simp [PyData.depth,PyData.depthAll])]
  cases a1 <;> cases a2 <;> cases a3 <;> cases b1 <;> cases b2 <;> cases b3 <;> simp [PyData.eqv,PyData.eqvAll]
theorem Y65 (hm:m ∈ t.marks):U7 [t.D, .str w, .str m] = .ok (bD (t.bec w m)):=X0d hm
def prD (k:Str × Str):D := .tup [.str k.1, .str k.2]
def wyD (l:List Str):D := .tup (l.map D.str)
def nK (N:List Nd):List (D × X):=N.map fun e=>(prD e.1,X.d (wyD e.2))
def nL (N:List Nd):List X:=N.map fun e=>X.d (prD e.1)
def nS (N:List Nd):Sto:=[.tdc (nK N), .lst (nL N)]
theorem prK {k:Str × Str}:(prD k).tkey?=some [.text k.1, .text k.2]:=rfl
theorem X4b {a k:Str × Str}:decide ((prD a).tkey?=some [.text k.1, .text k.2])=decide (a=k):=by
  rw [prK]
  obtain ⟨a1,a2⟩:=a
  obtain ⟨k1,k2⟩:=k
  simp
theorem X6h {k:Str × Str}:∀ {N:List Nd},Z6a (nK N) [.text k.1, .text k.2]=(N.find? fun e=>decide (e.1=k)).map fun e=>X.d (wyD e.2)
  | []=>rfl
  | e :: N=>by
    have ih:=X6h (k:=k) (N:=N)
    unfold Z6a nK at *
    rw [List.map_cons,List.find?_cons,List.find?_cons]
    rw [X4b]
    cases c:decide (e.1=k) with
    | true=>rfl
    | false=>exact ih
theorem X2s {N:List Nd} {e:Nd} (hn:(N.map (·.1)).Nodup) (he:e ∈ N):(N.find? fun f=>decide (f.1=e.1))=some e:=by
  induction N with
  | nil=>cases he
  | cons a N ih =>
    rw [List.find?_cons]
    rw [List.map_cons,List.nodup_cons] at hn
    rcases List.mem_cons.mp he with rfl | he
    · simp
    · have:a.1 ≠ e.1:=fun z=>hn.1 (by rw [z]; exact List.mem_map.mpr ⟨e,he,rfl⟩)
      rw [decide_eq_false this]
      exact ih hn.2 he
theorem W0b {N:List Nd} {k:Str × Str} (h:k ∉ N.map (·.1)):(N.find? fun f=>decide (f.1=k))=none:=by
  rw [List.find?_eq_none]
  intro x hx
  simp only [decide_eq_true_eq]
  exact fun e=>h (List.mem_map.mpr ⟨x,hx,e⟩)
theorem W98 {N:List Nd} {k:Str × Str} {l:List Str} (h:k ∉ N.map (·.1)):X4d (nK N) (prD k) [.text k.1, .text k.2] (X.d (wyD l))=nK (N++[(k,l)]):=by
  unfold X4d
  have:((nK N).any fun p=>decide (p.1.tkey?=some [.text k.1, .text k.2]))=false:=by
    rw [List.any_eq_false]
    intro x hx
    obtain ⟨e,he,rfl⟩:=List.mem_map.mp hx
    rw [X4b]
    simp only [decide_eq_true_eq]
    exact fun z=>h (List.mem_map.mpr ⟨e,he,z⟩)
  rw [this]
  simp [nK]
theorem tkN {N:List Nd} {k:Str × Str}:tkX (nS N) (.r 0) (.d (prD k))=some (nK N,prD k,[.text k.1, .text k.2]):=rfl
theorem W0a {mo mi:M} {e:Ev} {S S1 S2:Sto} {x y z:X} (h1:mo e S = .ok x S1) (h2:mi e S1 = .ok y S2) (h:((tkX S2 x y).bind fun p=>Z6a p.1 p.2.2)=some z):Y5v mo mi e S = .ok z S2:=by
  unfold Y5v
  rw [h1]
  show (mi e S1).bind _=_
  rw [h2]
  show Z04 _ S2=_
  rw [h]
  rfl
theorem X77 {neg b:Bool} {mo mi:M} {e:Ev} {S S1 S2:Sto} {x y:X} (h1:mi e S = .ok y S1) (h2:mo e S1 = .ok x S2) (h:(tkX S2 x y).map (fun p=>((Z6a p.1 p.2.2).isSome ^^ neg))=some b):Y7n neg mi mo e S = .ok (.d (.bl b)) S2:=by
  unfold Y7n
  rw [h1]
  show (mo e S1).bind _=_
  rw [h2]
  show Z04 ((tkX S2 x y).map fun p=>X.d (.bl ((Z6a p.1 p.2.2).isSome ^^ neg))) S2=_
  cases q:tkX S2 x y with
  | none=>rw [q] at h; cases h
  | some p =>
    rw [q] at h
    cases h
    rfl
theorem W2j {mo mi mv:M} {e:Ev} {S:Sto} {x y z:X} {p:Nat × List (D × X) × D × List Leaf} (h1:mv e S = .ok z S) (h2:mo e S = .ok x S) (h3:mi e S = .ok y S) (h:X1l S x y=some p):Y6c mo mi mv e S = .go (.nx e) (S.set p.1 (.tdc (X4d p.2.1 p.2.2.1 p.2.2.2 z))):=by
  unfold Y6c
  rw [h1]
  show (mo e S).so e _=_
  rw [h2]
  show (mi e S).so e _=_
  rw [h3]
  show (match X1l S x y with
    | some p=>RO.go (.nx e) (S.set p.1 (.tdc (X4d p.2.1 p.2.2.1 p.2.2.2 z)))
    | none => .bad)=_
  rw [h]
theorem W78 {N:List Nd} {a:Nat} {e0:Nd} (h:N[a]?=some e0):ixO (nS N) (.r 1) (a:Int)=some (.d (prD e0.1)):=by
  have hl:=(List.getElem?_eq_some_iff.mp h).1
  show atI (nL N) (a:Int)=_
  unfold atI ixN nL
  rw [List.length_map,if_pos (by omega),if_pos (by omega)]
  show (N.map fun e=>X.d (prD e.1))[((a:Nat):Int).toNat]?=_
  rw [Int.toNat_natCast,List.getElem?_map,h]
  rfl
theorem X7z (h:t.Ok) (hm:m ∈ t.marks):(t.bec w m).1 ∈ t.marks:=by
  unfold TQ.bec Y6w TQ.marks
  unfold TQ.marks at hm
  have hd:∀ o:Option Z16,(∀ r,o=some r→r ∈ t.rows)→(doQ t.m0 w m o).1 ∈ t.m0 :: t.ms:=fun o ho=>by
    cases o with
    | none =>
      show (if w = "carry" then t.m0 else m) ∈ _
      split
      · simp
      · exact hm
    | some r =>
      have hr:=(h.rows r (ho r rfl)).2.2.1
      by_cases c:m=t.m0∧r.2.2.2=false
      · rw [show doQ t.m0 w m (some r)=(m,false) from if_pos c]; exact hm
      · rw [show doQ t.m0 w m (some r)=(if r.2.2.1 = "same" then m else r.2.2.1,decide (w = "give") && (r.2.2.2 && decide ((if r.2.2.1 = "same" then m else r.2.2.1) ≠ t.m0))) from if_neg c]
        show (if r.2.2.1 = "same" then m else r.2.2.1) ∈ _
        by_cases c2:r.2.2.1 = "same"
        · rw [if_pos c2]; exact hm
        · rw [if_neg c2]
          rcases List.mem_cons.mp hr with e | hr
          · exact absurd e c2
          · exact hr
  split
  · exact hd none fun r e=>(nomatch e)
  · exact hd _ fun r e=>List.mem_of_find?_eq_some e
def W6w:Option (List Str)→D
  | none => .non
  | some l=>wyD l
def evP (p q:TQ) (a:Int) (o6 o7 o8 o9 o10 o11 o12:Option X):Ev:=[some (.d p.D),some (.d q.D),some (.d (prD (p.m0,q.m0))),some (.r 0),some (.r 1),some (.d (.int a)),o6,o7,o8,o9,o10,o11,o12]
theorem X02 (hp:p.Ok) (hq:q.Ok):∃ r,g_parting [p.D,q.D] = .ok (W6w r)∧Y0h p q r:=by
  suffices h:Fw (Z89 (ev0 13 ([p.D,q.D].map X.d)) []) (fun r=>∃ x,Z24 r = .ok (W6w x)∧Y0h p q x) from h
  rw [W5q]
  unfold prt
  refine Fw.set (Z12 (ds:=[.str p.m0, .str q.m0]) (Z5 (Z1j (Z6 rfl) Z56) (Z5 (Z1j (Z6 rfl) Z56) Y3)) rfl (hz4 (by simp))) ?_
  have hN30:∀ {N:List Nd} {a:Nat},Bfs p q N a→N.length ≤ 25:=fun {N a} h=>by
    have h1:=h.len
    have h2:=hp.few
    have h3:=hq.few
    have h4:p.marks.length * q.marks.length ≤ 5 * 5:=Nat.mul_le_mul (by show p.ms.length + 1 ≤ 5; omega) (by show q.ms.length + 1 ≤ 5; omega)
    omega
  refine Fw.if_ (b := !decide (p.told p.m0=q.told q.m0)) (Z1z (W2 (X5 (Z5 (Z6 rfl) (Z5 (Z1j (Z6 rfl) Z56) Y3)) (Q8 rfl (Y5j Z6h))) (X5 (Z5 (Z6 rfl) (Z5 (Z1j (Z6 rfl) Z56) Y3)) (Q8 rfl (Y5j Z6h))) Y5 Y5 W44)) (Fw.ifc (fun hne=>?_) fun heq=>?_)
  · exact Fw.retT (ds:=[]) Y3 rfl (hz4 (by simp)) ⟨some [],rfl,by simp,fun _ h=>(nomatch h),fun k hk=>by simp at hk, .inl ⟨rfl,by simpa using hne⟩⟩
  refine Fw.seqNil ?_
  have heq:p.told p.m0=q.told q.m0:=by simpa using heq
  refine Fw.par3 (x := .r 0) (y := .r 1) (z := .d (.int 0)) (S1:=nS [((p.m0,q.m0),[])]) ?_ ?_
  · refine Z5 (S1:=[.tdc (nK [((p.m0,q.m0),[])])]) ?_ (Z5 (Z94 (Z5 (Z6 rfl) Y3) (hz4 (by simp))) (Z5 U0 Y3))
    rfl
  refine Fw.while_ 25 (by decide) (fun n e S=>∃ (N:List Nd) (a:Nat) (o6 o7 o8 o9 o10 o11 o12:Option X),n=25 - a∧e=evP p q a o6 o7 o8 o9 o10 o11 o12∧S=nS N∧Bfs p q N a) (fun e S=>∃ (N:List Nd) (a:Nat) (o6 o7 o8 o9 o10 o11 o12:Option X),e=evP p q a o6 o7 o8 o9 o10 o11 o12∧S=nS N∧Bfs p q N a∧N.length ≤ a) ⟨_,0,_,_,_,_,_,_,_,rfl,rfl,rfl,X11 heq⟩ ?_ ?_
  · rintro n e S ⟨N,a,o6,o7,o8,o9,o10,o11,o12,rfl,rfl,rfl,hB⟩
    have hl:=hN30 hB
    refine ⟨decide ((a:Int) < (N.length:Nat)),nS N,Z1z (W2 (Z6 rfl) (X5 (Z5 (Z6 rfl) Y3) ((X8m (xs:=nL N) rfl).trans (by simp [nL]))) Y5 Y5 Z3p),fun hc=>⟨N,a,_,_,_,_,_,_,_,rfl,rfl,hB,?_⟩,fun hc=>?_⟩
    · have:=of_decide_eq_false hc
      omega
    have ha:a < N.length:=by have:=of_decide_eq_true hc; omega
    refine ⟨25 - (a + 1),by omega,?_⟩
    obtain ⟨e0,he0⟩:∃ e0,N[a]?=some e0:=⟨N[a],List.getElem?_eq_getElem ha⟩
    have hm0:=List.mem_of_getElem? he0
    obtain ⟨_,_,_,_,k5,k6⟩:=hB.ok e0 hm0
    unfold W5p
    refine Fw.asg (x := .d (prD e0.1)) (Z0a (Z6 rfl) (Z6 rfl) (W78 he0)) rfl ?_
    refine Fw.aug (Z6 rfl) U0 Z0e ?_
    refine Fw.one (Fw.for_ (l:=W6) (f:=fun w=>X.d (.str w)) (S1:=nS N) (lk := .free) (Z13 U0 Z4l) (fun l e S=>∃ (ws:List Str) (N:List Nd) (o8 o9 o10 o11 o12:Option X),W6=ws++l∧e=evP p q ((a:Int) + 1) (some (.d (.str e0.1.1))) (some (.d (.str e0.1.2))) o8 o9 o10 o11 o12∧S=nS N∧Bfw p q N a e0 ws) (fun _ _=>False) ⟨[],N,_,_,_,_,_,rfl,rfl,rfl,hB,he0,fun _ h=>(nomatch h)⟩ (fun _ _ _ _=>rfl) ?_ ?_)
    · rintro w l e S ⟨ws,N,o8,o9,o10,o11,o12,hW,rfl,rfl,hF⟩
      have h6:w ∈ W6:=by rw [hW]; simp
      have hl:=hN30 hF.b
      have hm0:=List.mem_of_getElem? hF.at_
      refine ⟨_,rfl,?_⟩
      unfold X4c
      refine Fw.par (Z5 (Y7b (Z6 rfl) rfl (Z5 (Z6 rfl) (Z5 (Z6 rfl) Y3)) (Q8 rfl (X5w (Y65 k5)))) (Z5 (Y7b (Z6 rfl) rfl (Z5 (Z6 rfl) (Z5 (Z6 rfl) Y3)) (Q8 rfl (X5w (Y65 k6)))) Y3)) ?_
      have hway:((tkX (nS N) (.r 0) (.d (prD e0.1))).bind fun p=>Z6a p.1 p.2.2)=some (X.d (wyD e0.2)):=by
        rw [tkN]
        show Z6a (nK N) [.text e0.1.1, .text e0.1.2]=_
        rw [X6h,X2s hF.b.nd hm0]
        rfl
      have hdp:=hF.b.deep a e0 hF.at_
      have hal:=(List.getElem?_eq_some_iff.mp hF.at_).1
      refine Fw.set (x := .d (wyD (e0.2++[w]))) (S1:=nS N) (Z12 (ds:=(e0.2++[w]).map D.str) (X99 (ys:=(e0.2.map D.str).map X.d) (W0a (Z6 rfl) (Z12 (ds:=[.str e0.1.1, .str e0.1.2]) (Z5 (Z6 rfl) (Z5 (Z6 rfl) Y3)) rfl (hz4 (by simp))) hway) rfl (Z5 (Z6 rfl) Y3)) ?_ (hz4 (by simp; omega))) ?_
      · rw [show ((e0.2.map D.str).map X.d++[X.d (.str w)])=((e0.2++[w]).map D.str).map X.d by simp]
        exact Y1z _
      have b1:∀ {x:Str × Bool} {T:Sto},ixO T (.d (bD x)) 1=some (.d (.bl x.2)):=fun {x T}=>rfl
      have b0:∀ {x:Str × Bool} {T:Sto},ixO T (.d (bD x)) 0=some (.d (.str x.1)):=fun {x T}=>rfl
      generalize hx:p.bec w e0.1.1=x
      generalize hy:q.bec w e0.1.2=y
      refine Fw.if_ (b:=(x.2 != y.2) || !decide (p.told x.1=q.told y.1)) (X75 (Z1z (W2 (Z0a (Z6 rfl) U0 b1) (Z0a (Z6 rfl) U0 b1) Y5 Y5 W79)) fun _=>Z1z (W2 (X5 (Z5 (Z6 rfl) (Z5 (Z0a (Z6 rfl) U0 b0) Y3)) (Q8 rfl (Y5j Z6h))) (X5 (Z5 (Z6 rfl) (Z5 (Z0a (Z6 rfl) U0 b0) Y3)) (Q8 rfl (Y5j Z6h))) Y5 Y5 W44)) (Fw.ifc (fun hc=>?_) fun hc=>?_)
      · refine Fw.retP (Z6 rfl) Y5 (.rp (.rp ⟨some (e0.2++[w]),rfl,hF.part h6 (by omega) ?_⟩))
        rw [hx,hy]
        simpa using hc
      refine Fw.seqNil ?_
      have hc2:x.2=y.2∧p.told x.1=q.told y.1:=by simpa using hc
      refine Fw.set (Z12 (ds:=[.str x.1, .str y.1]) (Z5 (Z0a (Z6 rfl) U0 b0) (Z5 (Z0a (Z6 rfl) U0 b0) Y3)) rfl (hz4 (by simp))) ?_
      have hW2:W6=(ws++[w])++l:=by rw [hW]; simp
      by_cases hin:(x.1,y.1) ∈ N.map (·.1)
      · obtain ⟨f,hf,hfe⟩:=List.mem_map.mp hin
        refine Fw.one (Fw.if_ (b:=false) (Z1z (X77 (Z6 rfl) (Z6 rfl) ?_)) (Fw.iff (Fw.seqNil (Fw.nil (.nx ⟨ws++[w],N,_,_,_,_,_,hW2,rfl,rfl,hF.old (by rw [hx,hy]; exact hc2.1) hf (by rw [hx,hy]; exact hfe)⟩)))))
        show (some ((Z6a (nK N) [.text x.1, .text y.1]).isSome ^^ true))=_
        have:=X6h (N:=N) (k:=(x.1,y.1))
        rw [show Z6a (nK N) [.text x.1, .text y.1]=_ from this,← hfe,X2s hF.b.nd hf]
        rfl
      · have hlk:Z6a (nK N) [.text x.1, .text y.1]=none:=by
          have:=X6h (N:=N) (k:=(x.1,y.1))
          rw [show Z6a (nK N) [.text x.1, .text y.1]=_ from this,W0b hin]
          rfl
        refine Fw.one (Fw.if_ (b:=true) (Z1z (X77 (Z6 rfl) (Z6 rfl) ?_)) (Fw.ift (Fw.seqSeq ?_)))
        · show (some ((Z6a (nK N) [.text x.1, .text y.1]).isSome ^^ true))=_
          rw [hlk]
          rfl
        have hput:X1l (nS N) (.r 0) (.d (prD (x.1,y.1)))=some (0,nK N,prD (x.1,y.1),[.text x.1, .text y.1]):=by
          show (if decide ((nK N).length < sizeLine) then _ else _)=_
          rw [if_pos (by simp only [decide_eq_true_eq]; have:=hz4 (n:=(nK N).length + 1) (by simp [nK]; omega); omega)]
        have hst:(nS N).set 0 (.tdc (X4d (nK N) (prD (x.1,y.1)) [.text x.1, .text y.1] (.d (wyD (e0.2++[w])))))=[.tdc (nK (N++[((x.1,y.1),e0.2++[w])])), .lst (nL N)]:=by
          rw [W98 (k:=(x.1,y.1)) hin]
          rfl
        refine Fw.seq (S1:=[.tdc (nK (N++[((x.1,y.1),e0.2++[w])])), .lst (nL N)]) ((W2j (Z6 rfl) (Z6 rfl) (Z6 rfl) hput).trans (by rw [hst])) ?_
        refine Fw.expr (x := .d .non) (S1:=nS (N++[((x.1,y.1),e0.2++[w])])) (Y21 (Z6 rfl) (Z5q (xs:=nL N) rfl) (Z5 (Z6 rfl) Y3) ((Y1k (xs:=nL N) rfl (by have:=hz4 (n:=(nL N).length + 1) (by simp [nL]; omega); omega)).trans (by simp [nS,nL]; rfl))) (Fw.nil (.nx ⟨ws++[w],_,_,_,_,_,_,hW2,rfl,rfl,?_⟩))
        have h1:=X7z (w:=w) hp k5
        have h2:=X7z (w:=w) hq k6
        have:=hF.new (w:=w) (by rw [hx,hy]; exact hc2.1) (by rw [hx,hy]; exact hc2.2) h6 h1 h2 (by rw [hx,hy]; exact hin)
        rwa [hx,hy] at this
    · rintro e S (⟨ws,N,o8,o9,o10,o11,o12,hW,rfl,rfl,hF⟩ | h)
      · have hW:W6=ws:=by rw [hW]; simp
        subst hW
        exact Fw.nil (.nx ⟨N,a + 1,_,_,_,_,_,_,_,rfl,rfl,rfl,hF.on⟩)
      · exact h.elim
  · rintro e S ⟨N,a,o6,o7,o8,o9,o10,o11,o12,rfl,rfl,hB,hl⟩
    exact Fw.one (Fw.retP U0 Y5 ⟨none,rfl,hB.all hl⟩)
end
end Lw
namespace Lw
open PySem PySem.Spec L2 Bv
open PyProof.Rows hiding St
variable [HasW]
def CHS:List Nat:=[40,41,44,32,84,114,117,101,70,97,108,115,48,49,50,51,52,53,54,55,56,57]
theorem W3t:(CHS.all fun c=>decide (Builtin.Str.reprChar 39 c=[c]) && decide (c ≠ 39) && decide (c < 0x110000))=true:=by decide +kernel
theorem Y5a {c:Nat} (h:c ∈ CHS):Builtin.Str.reprChar 39 c=[c]∧c ≠ 39∧c < 0x110000:=by
  have:=List.all_eq_true.mp W3t c h
  simp only [Bool.and_eq_true,decide_eq_true_eq] at this
  exact ⟨this.1.1,this.1.2,this.2⟩
abbrev cds (x:Str):List Nat:=x.cps.toList
def Pt (k:Nat) (x:Str):Prop:=(∀ c ∈ cds x,c ∈ CHS)∧x.length ≤ k
theorem Pt.mono {k j:Nat} {x:Str} (h:Pt k x) (hk:k ≤ j):Pt j x:=⟨h.1,by have:=h.2; omega⟩
theorem Y4a {x y:Str} (h:cds x=cds y):x=y:=by
  obtain ⟨a⟩:=x
  obtain ⟨b⟩:=y
  have h2:a.toList=b.toList:=h
  rw [Array.toList_inj.mp h2]
theorem Z48 {a b:Str}:cds (a++b)=cds a++cds b:=Y66 a b
theorem Pt.strOk {k:Nat} {x:Str} (h:Pt k x):PyData.strOk x=true:=by
  unfold PyData.strOk
  rw [← Array.all_toList,List.all_eq_true]
  intro c hc
  exact decide_eq_true (Y5a (h.1 c hc)).2.2
theorem Y5o:∀ (l:List Nat) (acc:Array Nat),(∀ c ∈ l,c ∈ CHS)→(l.foldl (fun out c=>out++(Builtin.Str.reprChar 39 c).toArray) acc).toList=acc.toList++l
  | [],acc,_=>by simp
  | c :: l,acc,h=>by
    rw [List.foldl_cons,Y5o l _ fun x hx=>h x (List.mem_cons_of_mem _ hx),(Y5a (h c (by simp))).1]
    simp
theorem X7d {k:Nat} {x:Str} (h:Pt k x):reprQuote x=39:=by
  unfold reprQuote
  have:x.cps.contains 39=false:=by
    rw [Bool.eq_false_iff]
    intro z
    have:39 ∈ cds x:=by
      have:=Array.contains_iff.mp z
      exact Array.mem_toList_iff.mpr this
    exact (Y5a (h.1 39 this)).2.1 rfl
  rw [this]
  rfl
theorem X4h {k:Nat} {x:Str} (h:Pt k x):cds (reprText x)=39 :: (cds x++[39]):=by
  unfold reprText
  rw [X7d h]
  show ((x.cps.foldl (fun out c=>out++(Builtin.Str.reprChar 39 c).toArray) #[39]).push 39).toList=_
  rw [Array.toList_push,← Array.foldl_toList,Y5o _ _ h.1]
  rfl
def Y84 (l:List Str):List Nat:=l.flatMap fun x=>[44,32,39]++(cds x++[39])
theorem Y0q {k:Nat}:∀ {l:List Str} {n:Nat} {acc:Str},0 < n→(∀ x ∈ l,Pt k x)→cds (textFrom n acc (l.map reprText))=cds acc++Y84 l
  | [],n,acc,_,_=>by simp [textFrom,Y84]
  | x :: l,n,acc,hn,h=>by
    rw [List.map_cons]
    show cds (textFrom (n + 1) (acc++(if n > 0 then ", " else "" : String)++reprText x) (l.map reprText))=_
    rw [Y0q (Nat.succ_pos _) fun y hy=>h y (List.mem_cons_of_mem _ hy),if_pos hn,Z48,Z48,X4h (h x (by simp))]
    have e:cds ((", " : String):Str)=[44,32]:=by decide +kernel
    rw [e]
    simp [Y84]
theorem Y4m {k:Nat} {x:Str} {l:List Str} (h:∀ y ∈ x :: l,Pt k y):cds (listText ((x :: l).map reprText))=[91,39]++(cds x++39 :: (Y84 l++[93])):=by
  unfold listText
  rw [Z48,List.map_cons]
  show cds (textFrom 1 (("[" : Str)++(if (0:Nat) > 0 then ", " else "" : String)++reprText x) (l.map reprText))++_=_
  rw [Y0q (by decide) fun y hy=>h y (List.mem_cons_of_mem _ hy),if_neg (by decide),Z48,Z48,X4h (h x (by simp))]
  have e:cds (("" : String):Str)=[]∧cds ("[" : Str)=[91]∧cds ("]" : Str)=[93]:=by decide +kernel
  rw [e.1,e.2.1,e.2.2]
  simp
theorem X18 {c:Nat}:∀ {a b r s:List Nat},c ∉ a→c ∉ b→a++c :: r=b++c :: s→a=b∧r=s
  | [],[],r,s,_,_,h=>⟨rfl,by simpa using h⟩
  | [],y :: b,r,s,_,hb,h=>by
    rw [List.nil_append,List.cons_append] at h
    injection h with h1 h2
    exact absurd (by rw [h1]; simp) hb
  | x :: a,[],r,s,ha,_,h=>by
    rw [List.nil_append,List.cons_append] at h
    injection h with h1 h2
    exact absurd (by rw [← h1]; simp) ha
  | x :: a,y :: b,r,s,ha,hb,h=>by
    rw [List.cons_append,List.cons_append] at h
    injection h with h1 h2
    rw [List.mem_cons,not_or] at ha hb
    obtain ⟨h3,h4⟩:=X18 ha.2 hb.2 h2
    exact ⟨by rw [h1,h3],h4⟩
theorem W6t {k:Nat} {x:Str} (h:Pt k x):39 ∉ cds x:=fun z=>(Y5a (h.1 39 z)).2.1 rfl
theorem X2i {k:Nat}:∀ {l m:List Str} {r s:List Nat},l.length=m.length→(∀ x ∈ l,Pt k x)→(∀ x ∈ m,Pt k x)→Y84 l++r=Y84 m++s→l=m
  | [],[],_,_,_,_,_,_=>rfl
  | [],_ :: _,_,_,hl,_,_,_=>by cases hl
  | _ :: _,[],_,_,hl,_,_,_=>by cases hl
  | x :: l,y :: m,r,s,hl,h1,h2,e=>by
    have e:[44,32,39]++(cds x++39 :: (Y84 l++r))=[44,32,39]++(cds y++39 :: (Y84 m++s)):=by
      have e':=e
      unfold Y84 at e' ⊢
      simpa using e'
    obtain ⟨e1,e2⟩:=X18 (W6t (h1 x (by simp))) (W6t (h2 y (by simp))) (List.append_cancel_left e)
    rw [Y4a e1,X2i (by simpa using hl) (fun z hz=>h1 z (List.mem_cons_of_mem _ hz)) (fun z hz=>h2 z (List.mem_cons_of_mem _ hz)) e2]
theorem list_inj {k:Nat} {x y:Str} {l m:List Str} (hl:l.length=m.length) (h1:∀ z ∈ x :: l,Pt k z) (h2:∀ z ∈ y :: m,Pt k z) (e:listText ((x :: l).map reprText)=listText ((y :: m).map reprText)):x :: l=y :: m:=by
  have e1:=congrArg cds e
  rw [Y4m h1,Y4m h2] at e1
  obtain ⟨e2,e3⟩:=X18 (W6t (h1 x (by simp))) (W6t (h2 y (by simp))) (List.append_cancel_left e1)
  rw [Y4a e2,X2i hl (fun z hz=>h1 z (List.mem_cons_of_mem _ hz)) (fun z hz=>h2 z (List.mem_cons_of_mem _ hz)) e3]
theorem X2j {k:Nat}:∀ {l:List Str},(∀ x ∈ l,Pt k x)→(Y84 l).length ≤ l.length * (k + 4)
  | [],_=>by simp [Y84]
  | x :: l,h=>by
    have h1:=X2j (l:=l) fun y hy=>h y (List.mem_cons_of_mem _ hy)
    have h2:x.cps.size ≤ k:=(h x (by simp)).2
    unfold Y84 at h1 ⊢
    rw [List.flatMap_cons,List.length_append,List.length_cons,Nat.succ_mul]
    simp at h1 ⊢
    omega
theorem X06 {k:Nat} {x:Str} {l:List Str} (h:∀ z ∈ x :: l,Pt k z) (hk:k ≤ 40) (hl:l.length ≤ 20):Y0e (.lst ((x :: l).map D.str))=some (listText ((x :: l).map reprText)):=by
  have hc:=Y4m h
  have hlen:(listText ((x :: l).map reprText)).length ≤ sizeLine:=by
    have e:(listText ((x :: l).map reprText)).length=(cds (listText ((x :: l).map reprText))).length:=rfl
    have h1:=X2j (l:=l) fun y hy=>h y (List.mem_cons_of_mem _ hy)
    have h2:x.cps.size ≤ k:=(h x (by simp)).2
    have h3:l.length * (k + 4) ≤ 20 * 44:=Nat.mul_le_mul hl (by omega)
    rw [e,hc,sizeLine_eq]
    simp
    omega
  have hok:PyData.strOk (listText ((x :: l).map reprText))=true:=by
    unfold PyData.strOk
    rw [← Array.all_toList,List.all_eq_true]
    intro c hcm
    have hcm:c ∈ cds (listText ((x :: l).map reprText)):=hcm
    rw [hc] at hcm
    have hall:∀ y ∈ x :: l,∀ c ∈ cds y,c < 0x110000:=fun y hy c hc=>(Y5a ((h y hy).1 c hc)).2.2
    have henc:∀ c ∈ Y84 l,c < 0x110000:=fun c hc=>by
      unfold Y84 at hc
      obtain ⟨y,hy,hc⟩:=List.mem_flatMap.mp hc
      simp only [List.mem_append,List.mem_cons,List.not_mem_nil,or_false] at hc
      rcases hc with (rfl | rfl | rfl) | hc | rfl
      · decide
      · decide
      · decide
      · exact hall y (List.mem_cons_of_mem _ hy) c hc
      · decide
    refine decide_eq_true ?_
    simp only [List.mem_append,List.mem_cons,List.not_mem_nil,or_false] at hcm
    rcases hcm with (rfl | rfl) | hcm | rfl | hcm | rfl
    · decide
    · decide
    · exact hall x (by simp) c hcm
    · decide
    · exact henc c hcm
    · decide
  have hp:(D.lst ((x :: l).map D.str)).py=some (.list ((x :: l).map PyData.str)):=Y3w (Y4x _)
  have hs:PyData.shown (.list ((x :: l).map PyData.str))=listText ((x :: l).map reprText):=by
    show listText (PyData.shownAll ((x :: l).map PyData.str))=_
    rw [PyData.shownAll_strs]
  have h1:PyData.showable (.list ((x :: l).map PyData.str))=true:=by
    show PyData.showableAll _=true
    have:∀ ss:List Str,PyData.showableAll (ss.map PyData.str)=true:=fun ss=>by
      induction ss with
      | nil=>rfl
      | cons s ss ih=>rw [List.map_cons]; show (PyData.showable (.str s) && PyData.showableAll (ss.map PyData.str))=true; rw [ih]; rfl
    exact this _
  have h2:PyData.hasDict (.list ((x :: l).map PyData.str))=false:=by
    show PyData.hasDictAll _=false
    have:∀ ss:List Str,PyData.hasDictAll (ss.map PyData.str)=false:=fun ss=>by
      induction ss with
      | nil=>rfl
      | cons s ss ih=>rw [List.map_cons]; show (PyData.hasDict (.str s) || PyData.hasDictAll (ss.map PyData.str))=false; rw [ih]; rfl
    exact this _
  have h3:dOk (.list ((x :: l).map PyData.str))=true:=decide_eq_true (X90 _)
  unfold Y0e
  have hb:X22 (.lst ((x :: l).map D.str))=true:=rfl
  rw [if_pos hb]
  unfold Y41
  rw [hp]
  show (if (PyData.showable (.list ((x :: l).map PyData.str)) && !PyData.hasDict (.list ((x :: l).map PyData.str)) && dOk (.list ((x :: l).map PyData.str)) && decide ((PyData.shown (.list ((x :: l).map PyData.str))).length ≤ sizeLine) && PyData.strOk (PyData.shown (.list ((x :: l).map PyData.str))))=true then some (PyData.shown (.list ((x :: l).map PyData.str))) else none).bind _=_
  rw [hs,h1,h2,h3,decide_eq_true hlen,hok]
  show (if PyData.strOk (listText ((x :: l).map reprText))=true then some (listText ((x :: l).map reprText)) else none)=_
  rw [hok]
  rfl
end Lw
namespace Lw
open PySem PySem.Spec L2 Bv
open PyProof.Rows hiding St
variable [HasW]
section
variable {t:TQ}
def Y0s (t:TQ) (n:Nat) (f:Str→Str):Prop:=∀ a ∈ t.marks,∀ b ∈ t.marks,f a=f b ↔ eqv t t n a b
theorem X1j {n:Nat} {f g:Str→Str} (hm:∀ w,∀ a ∈ t.marks,(t.bec w a).1 ∈ t.marks) (h:Y0s t n f)
    (hg:∀ a ∈ t.marks,∀ b ∈ t.marks,g a=g b ↔ (f a=f b∧∀ w ∈ W6,f (t.bec w a).1=f (t.bec w b).1∧(t.bec w a).2=(t.bec w b).2)):Y0s t (n + 1) g:=fun a ha b hb=>by
  rw [hg a ha b hb]
  constructor
  · rintro ⟨h1,h2⟩
    exact ⟨((h a ha b hb).mp h1).told,fun w hw=>⟨(h2 w hw).2,(h _ (hm w a ha) _ (hm w b hb)).mp (h2 w hw).1⟩⟩
  · intro e
    exact ⟨(h a ha b hb).mpr e.down,fun w hw=>⟨(h _ (hm w a ha) _ (hm w b hb)).mpr (e.2 w hw).2,(e.2 w hw).1⟩⟩
noncomputable def isF (t:TQ) (n:Nat) (l:List Str) (a:Str):Bool:=@decide (∀ b ∈ l.takeWhile (fun b=>decide (b ≠ a)),¬ eqv t t n b a) (Classical.propDecidable _)
theorem Y14 {n:Nat} {l:List Str} {a:Str}:isF t n l a=true ↔ ∀ b ∈ l.takeWhile (fun b=>decide (b ≠ a)),¬ eqv t t n b a:=by
  unfold isF
  exact @decide_eq_true_iff _ (Classical.propDecidable _)
noncomputable def fst? (t:TQ) (n:Nat) (l:List Str):List Str:=l.filter (isF t n l)
theorem X52 {n:Nat} {l:List Str}:(fst? t n l).Sublist (fst? t (n + 1) l):=by
  unfold fst?
  have e:l.filter (isF t n l)=(l.filter (isF t (n + 1) l)).filter (isF t n l):=by
    rw [List.filter_filter]
    congr 1
    funext a
    rw [Bool.eq_iff_iff,Bool.and_eq_true,Y14,Y14]
    exact ⟨fun h=>⟨h,fun b hb e=>h b hb e.down⟩,fun h=>h.1⟩
  rw [e]
  exact List.filter_sublist
theorem Y2y {x a:Str} {l:List Str} (h:x ≠ a):(x :: l).takeWhile (fun b=>decide (b ≠ a))=x :: l.takeWhile (fun b=>decide (b ≠ a)):=by
  rw [List.takeWhile_cons,if_pos (by simp [h])]
theorem W26 {a:Str} {l:List Str}:(a :: l).takeWhile (fun b=>decide (b ≠ a))=[]:=by
  rw [List.takeWhile_cons,if_neg (by simp)]
theorem Y7g {n:Nat}:∀ {l:List Str} {a:Str},a ∈ l→∃ b ∈ fst? t n l,eqv t t n b a:=fun {l a} ha=>by
  have key:∀ (l:List Str),a ∈ l→∃ b ∈ l,eqv t t n b a∧∀ c ∈ l.takeWhile (fun c=>decide (c ≠ b)),¬ eqv t t n c a:=fun l=>by
    induction l with
    | nil=>intro h; cases h
    | cons x l ih =>
      intro h
      rcases Classical.em (eqv t t n x a) with e | e
      · exact ⟨x,by simp,e,fun c hc=>by rw [W26] at hc; cases hc⟩
      · have hne:a ≠ x:=fun z=>e (by rw [z]; exact Y86)
        obtain ⟨b,h1,h2,h3⟩:=ih ((List.mem_cons.mp h).resolve_left hne)
        refine ⟨b,List.mem_cons_of_mem _ h1,h2,fun c hc=>?_⟩
        by_cases hx:x=b
        · exact absurd (hx ▸ h2) e
        · rw [Y2y hx] at hc
          rcases List.mem_cons.mp hc with rfl | hc
          · exact e
          · exact h3 c hc
  obtain ⟨b,h1,h2,h3⟩:=key l ha
  refine ⟨b,?_,h2⟩
  unfold fst?
  rw [List.mem_filter]
  exact ⟨h1,Y14.mpr fun c hc e=>h3 c hc (e.trans h2)⟩
theorem X53 {n:Nat} {l:List Str} {a b:Str} (ha:a ∈ fst? t n l) (hb:b ∈ fst? t n l) (e:eqv t t n a b):a=b:=by
  unfold fst? at ha hb
  obtain ⟨a1,a2⟩:=List.mem_filter.mp ha
  obtain ⟨b1,b2⟩:=List.mem_filter.mp hb
  have a2:=Y14.mp a2
  have b2:=Y14.mp b2
  refine Decidable.byContradiction fun hne=>?_
  have key:∀ l:List Str,a ∈ l→b ∈ l→a ∈ l.takeWhile (fun c=>decide (c ≠ b)) ∨ b ∈ l.takeWhile (fun c=>decide (c ≠ a)):=fun l=>by
    induction l with
    | nil=>intro h; cases h
    | cons x l ih =>
      intro h1 h2
      by_cases ca:x=a
      · left
        rw [Y2y (by rw [ca]; exact hne),ca]
        simp
      · by_cases cb:x=b
        · right
          rw [Y2y ca,cb]
          simp
        · rcases ih ((List.mem_cons.mp h1).resolve_left (Ne.symm ca)) ((List.mem_cons.mp h2).resolve_left (Ne.symm cb)) with h | h
          · left; rw [Y2y cb]; exact List.mem_cons_of_mem _ h
          · right; rw [Y2y ca]; exact List.mem_cons_of_mem _ h
  rcases key l a1 b1 with h | h
  · exact b2 a h e
  · exact a2 b h e.symm
theorem W6c {n:Nat} (hm:∀ w,∀ a ∈ t.marks,(t.bec w a).1 ∈ t.marks) (h:∀ a ∈ t.marks,∀ b ∈ t.marks,eqv t t n a b→eqv t t (n + 1) a b):∀ k,∀ a ∈ t.marks,∀ b ∈ t.marks,eqv t t n a b→eqv t t (n + k) a b
  | 0,_,_,_,_,e=>e
  | k + 1,a,ha,b,hb,e=>by
    have e1:=h a ha b hb e
    have ih:=W6c hm h k
    rw [show n + (k + 1)=(n + k) + 1 by omega]
    exact ⟨e.told,fun w hw=>⟨(e1.2 w hw).1,ih _ (hm w a ha) _ (hm w b hb) (e1.2 w hw).2⟩⟩
theorem X0i (hm:∀ w,∀ a ∈ t.marks,(t.bec w a).1 ∈ t.marks) {a b:Str} (ha:a ∈ t.marks) (hb:b ∈ t.marks) (e:eqv t t t.marks.length a b) (k:Nat):eqv t t k a b:=by
  have step:∀ n,(∃ i,i < n∧∀ a ∈ t.marks,∀ b ∈ t.marks,eqv t t i a b→eqv t t (i + 1) a b) ∨ n + 1 ≤ (fst? t n t.marks).length:=fun n=>by
    induction n with
    | zero =>
      right
      obtain ⟨b,hb,_⟩:=Y7g (t:=t) (n:=0) (l:=t.marks) (a:=t.m0) (by simp)
      exact List.length_pos_iff.mpr fun z=>by rw [z] at hb; cases hb
    | succ n ih =>
      rcases ih with ⟨i,h1,h2⟩ | ih
      · exact .inl ⟨i,by omega,h2⟩
      · have hs:=X52 (t:=t) (n:=n) (l:=t.marks)
        by_cases c:(fst? t n t.marks).length=(fst? t (n + 1) t.marks).length
        · left
          refine ⟨n,by omega,fun a ha b hb e=>?_⟩
          have eq:=hs.eq_of_length c
          obtain ⟨a',ha1,ha2⟩:=Y7g (t:=t) (n:=n + 1) (l:=t.marks) ha
          obtain ⟨b',hb1,hb2⟩:=Y7g (t:=t) (n:=n + 1) (l:=t.marks) hb
          rw [← eq] at ha1 hb1
          have hu:=X53 ha1 hb1 ((ha2.down.trans e).trans hb2.down.symm)
          subst hu
          exact ha2.symm.trans hb2
        · right
          have:=hs.length_le
          omega
  rcases step t.marks.length with ⟨i,h1,h2⟩ | h
  · by_cases c:k ≤ t.marks.length
    · exact e.mono c
    · have:=W6c hm h2 (k - i) a ha b hb (e.mono (by omega))
      rwa [show i + (k - i)=k by omega] at this
  · have:(fst? t t.marks.length t.marks).length ≤ t.marks.length:=by
      unfold fst?
      exact List.length_filter_le _ _
    omega
structure Hd (t:TQ) (hd:Str→Str):Prop where
  mem:∀ a ∈ t.marks,hd a ∈ t.marks
  eqv:∀ a ∈ t.marks,∀ k,eqv t t k a (hd a)
  same:∀ a ∈ t.marks,∀ b ∈ t.marks,(∀ k,Lw.eqv t t k a b)→hd a=hd b
  first:hd t.m0=t.m0
  out:∀ a,a ∉ t.marks→hd a=a
def Z8m (hd:Str→Str) (r:Z16):Z16:=(r.1,hd r.2.1,hd r.2.2.1,r.2.2.2)
def mgM (t:TQ) (hd:Str→Str):List Str:=Z4d (t.marks.map hd)
def mgS (t:TQ) (hd:Str→Str):List Str:=Z4d (t.sh.map hd)
def mgA (t:TQ) (hd:Str→Str):List Str:=Z4d (t.as.map hd)
def mg (t:TQ) (hd:Str→Str):TQ:=⟨t.m0,(mgM t hd).tail,(mgM t hd).tail.filter fun x=>decide (x ∈ mgS t hd),(mgM t hd).filter fun x=>decide (x ∈ mgA t hd),t.rows.map (Z8m hd)⟩
variable {hd:Str→Str}
theorem W3k:("any" : Str) ∉ Z5m:=by decide +kernel
theorem W2a:("same" : Str) ∉ Z5m:=by decide +kernel
theorem Y0n (h:Hd t hd):mgM t hd=t.m0 :: (mg t hd).ms:=by
  unfold mg mgM
  obtain ⟨r,e⟩:=X5a (a:=hd t.m0) (l:=t.ms.map hd)
  rw [show t.marks.map hd=hd t.m0 :: t.ms.map hd from rfl,e,h.first]
  rfl
theorem Z9i (h:Hd t hd):(mg t hd).marks=mgM t hd:=by
  rw [Y0n h]
  rfl
theorem Y2a {x:Str}:x ∈ mgM t hd ↔ ∃ a ∈ t.marks,hd a=x:=by
  unfold mgM
  rw [Z76,List.mem_map]
theorem Z4r (h:Hd t hd) {a:Str} (ha:a ∈ t.marks):hd a=t.m0 ↔ a=t.m0:=by
  constructor
  · intro e
    have e1:=(h.eqv a ha 0).told
    rw [e] at e1
    have e2:=congrArg (fun z:Bool × Bool × Bool=>z.1) e1
    have e3:decide (a=t.m0)=decide (t.m0=t.m0):=e2
    simpa using e3
  · rintro rfl
    exact h.first
theorem X9g (h:Hd t hd) {a b:Str} (ha:a ∈ t.marks) (hb:b ∈ t.marks) (e:hd a=hd b):t.told a=t.told b:=by
  have e1:=(h.eqv a ha 0).told
  have e2:=(h.eqv b hb 0).told
  rw [e1,e2,e]
theorem X9c (h:Hd t hd) (hk:t.Ok) {a:Str} (ha:a ∈ t.marks):hd a ∈ (mg t hd).sh ↔ a ∈ t.sh:=by
  have hsub:∀ x ∈ t.sh,x ∈ t.ms:=fun x hx=>hk.sh.subset hx
  show hd a ∈ (mgM t hd).tail.filter _ ↔ _
  rw [List.mem_filter,decide_eq_true_iff]
  unfold mgS
  rw [Z76,List.mem_map]
  constructor
  · rintro ⟨_,b,hb,e⟩
    have:=X9g h ha (List.mem_cons_of_mem _ (hsub b hb)) e.symm
    have e2:decide (a ∈ t.sh)=decide (b ∈ t.sh):=congrArg (fun z:Bool × Bool × Bool=>z.2.1) this
    rw [decide_eq_true hb] at e2
    exact of_decide_eq_true e2
  · intro hs
    refine ⟨?_,a,hs,rfl⟩
    have h1:hd a ∈ mgM t hd:=Y2a.mpr ⟨a,ha,rfl⟩
    rw [Y0n h] at h1 ⊢
    rcases List.mem_cons.mp h1 with e | h1
    · have:=(Z4r h ha).mp e
      exact absurd (hsub a hs) (fun z=>(List.nodup_cons.mp hk.nd).1 (this ▸ z))
    · exact h1
theorem X7w (h:Hd t hd) (hk:t.Ok) {a:Str} (ha:a ∈ t.marks):hd a ∈ (mg t hd).as ↔ a ∈ t.as:=by
  show hd a ∈ (mgM t hd).filter _ ↔ _
  rw [List.mem_filter,decide_eq_true_iff]
  unfold mgA
  rw [Z76,List.mem_map]
  constructor
  · rintro ⟨_,b,hb,e⟩
    have:=X9g h ha (hk.as.subset hb) e.symm
    have e2:decide (a ∈ t.as)=decide (b ∈ t.as):=congrArg (fun z:Bool × Bool × Bool=>z.2.2) this
    rw [decide_eq_true hb] at e2
    exact of_decide_eq_true e2
  · exact fun hs=>⟨Y2a.mpr ⟨a,ha,rfl⟩,a,hs,rfl⟩
theorem X3i (h:Hd t hd) (hk:t.Ok) {a:Str} (ha:a ∈ t.marks):t.told a=(mg t hd).told (hd a):=by
  unfold TQ.told
  have e1:decide (hd a=(mg t hd).m0)=decide (a=t.m0):=by
    rw [Bool.eq_iff_iff]; simp only [decide_eq_true_eq]; exact Z4r h ha
  have e2:decide (hd a ∈ (mg t hd).sh)=decide (a ∈ t.sh):=by
    rw [Bool.eq_iff_iff]; simp only [decide_eq_true_eq]; exact X9c h hk ha
  have e3:decide (hd a ∈ (mg t hd).as)=decide (a ∈ t.as):=by
    rw [Bool.eq_iff_iff]; simp only [decide_eq_true_eq]; exact X7w h hk ha
  rw [e1,e2,e3]
theorem Z82 (hk:t.Ok):("any" : Str) ∉ t.marks:=fun z=>W3k (hk.names _ z)
theorem Y1a (hk:t.Ok):("same" : Str) ∉ t.marks:=fun z=>W2a (hk.names _ z)
theorem W36 (h:Hd t hd) (hk:t.Ok) {x:Str} (hx:x ∈ ("any" : Str) :: t.marks):hd x = "any" ↔ x = "any" := by
  rcases List.mem_cons.mp hx with rfl | hx
  · exact ⟨fun _=>rfl,fun _=>h.out _ (Z82 hk)⟩
  · exact ⟨fun e=>absurd (e ▸ h.mem x hx) (Z82 hk),fun e=>absurd (e ▸ hx) (Z82 hk)⟩
theorem W0j (h:Hd t hd) (hk:t.Ok) {x:Str} (hx:x ∈ ("same" : Str) :: t.marks):hd x = "same" ↔ x = "same" := by
  rcases List.mem_cons.mp hx with rfl | hx
  · exact ⟨fun _=>rfl,fun _=>h.out _ (Y1a hk)⟩
  · exact ⟨fun e=>absurd (e ▸ h.mem x hx) (Y1a hk),fun e=>absurd (e ▸ hx) (Y1a hk)⟩
theorem Y7d (h:Hd t hd) (hk:t.Ok) {r:Z16} (hr:r ∈ t.rows) {w a:Str} (ha:a ∈ t.marks):Z59 w (hd a) (Z8m hd r)=(decide (r.1=w) && (decide (r.2.1 = "any") || decide (hd r.2.1=hd a))):=by
  have h1:=(hk.rows r hr).2.1
  have e:=W36 h hk h1
  unfold Z59 Z8m
  rw [show decide (hd r.2.1 = "any")=decide (r.2.1 = "any") by rw [Bool.eq_iff_iff]; simp only [decide_eq_true_eq]; exact e]
theorem Y89 {p q:Z16→Bool} {rows:List Z16} {r:Z16} (h:rows.find? p=some r) (hq:q r=true) (himp:∀ x ∈ rows,q x=true→p x=true):rows.find? q=some r:=by
  obtain ⟨h1,l1,l2,e,h2⟩:=List.find?_eq_some_iff_append.mp h
  refine List.find?_eq_some_iff_append.mpr ⟨hq,l1,l2,e,fun x hx=>?_⟩
  have h3:=h2 x hx
  cases c:q x with
  | false=>rfl
  | true =>
    rw [himp x (by rw [e]; exact List.mem_append_left _ hx) c] at h3
    cases h3
theorem Y8v {m0 w m:Str} {rows:List Z16} (h:rows.find? (Z59 w m)=none):Y6w m0 w m rows=(if w = "carry" then m0 else m,false):=by
  unfold Y6w
  rw [h]
  split <;> rfl
theorem Y49 {m0 w:Str} {rows:List Z16} (h:w ≠ "give"):Y6w m0 w m0 rows=(m0,false):=by
  unfold Y6w
  rw [if_pos ⟨rfl,h⟩]
  show (if w = "carry" then m0 else m0,false)=_
  split <;> rfl
theorem Y8w {m0 w m:Str} {rows:List Z16} {r:Z16} (h:rows.find? (Z59 w m)=some r) (hn:¬ (m=m0∧w ≠ "give")):Y6w m0 w m rows=if m=m0∧r.2.2.2=false then (m,false) else (if r.2.2.1 = "same" then m else r.2.2.1,decide (w = "give") && (r.2.2.2 && decide ((if r.2.2.1 = "same" then m else r.2.2.1) ≠ m0))):=by
  unfold Y6w
  rw [if_neg hn,h]
  rfl
theorem W4v (h:Hd t hd) (hk:t.Ok) {w a:Str} (ha:a ∈ t.marks):∃ a2 ∈ t.marks,hd a2=hd a∧(mg t hd).bec w (hd a)=(hd (t.bec w a2).1,(t.bec w a2).2):=by
  have hb:=Z4r h ha
  by_cases c0:a=t.m0∧w ≠ "give"
  · refine ⟨a,ha,rfl,?_⟩
    unfold TQ.bec
    rw [c0.1,h.first]
    show Y6w t.m0 w t.m0 (t.rows.map (Z8m hd))=_
    rw [Y49 c0.2,Y49 c0.2,h.first]
  have c1:¬ (hd a=t.m0∧w ≠ "give"):=fun z=>c0 ⟨hb.mp z.1,z.2⟩
  unfold TQ.bec
  show ∃ a2 ∈ t.marks,hd a2=hd a∧Y6w t.m0 w (hd a) (t.rows.map (Z8m hd))=_
  have hf:(t.rows.map (Z8m hd)).find? (Z59 w (hd a))=(t.rows.find? (fun r=>Z59 w (hd a) (Z8m hd r))).map (Z8m hd):=by rw [List.find?_map]; rfl
  cases hx:t.rows.find? (fun r=>Z59 w (hd a) (Z8m hd r)) with
  | none =>
    rw [hx] at hf
    have hn:=List.find?_eq_none.mp hx
    have hf2:t.rows.find? (Z59 w a)=none:=List.find?_eq_none.mpr fun r hr z=>by
      refine hn r hr ?_
      rw [Y7d h hk hr ha]
      unfold Z59 at z
      simp only [Bool.and_eq_true,Bool.or_eq_true,decide_eq_true_eq] at z ⊢
      exact ⟨z.1,z.2.imp id fun e=>by rw [e]⟩
    refine ⟨a,ha,rfl,?_⟩
    rw [Y8v hf,Y8v hf2]
    by_cases c:w = "carry"
    · rw [if_pos c,if_pos c,h.first]
    · rw [if_neg c,if_neg c]
  | some r =>
    rw [hx] at hf
    have hr:=List.mem_of_find?_eq_some hx
    have hp:=List.find?_some hx
    have hp:Z59 w (hd a) (Z8m hd r)=true:=hp
    rw [Y7d h hk hr ha] at hp
    simp only [Bool.and_eq_true,Bool.or_eq_true,decide_eq_true_eq] at hp
    have key:∃ a2 ∈ t.marks,hd a2=hd a∧t.rows.find? (Z59 w a2)=some r:=by
      have imp:∀ a2,hd a2=hd a→∀ x ∈ t.rows,Z59 w a2 x=true→Z59 w (hd a) (Z8m hd x)=true:=fun a2 e x hx z=>by
        rw [Y7d h hk hx ha]
        unfold Z59 at z
        simp only [Bool.and_eq_true,Bool.or_eq_true,decide_eq_true_eq] at z ⊢
        exact ⟨z.1,z.2.imp id fun e2=>by rw [e2,e]⟩
      by_cases c:r.2.1 = "any"
      · refine ⟨a,ha,rfl,Y89 hx ?_ (imp a rfl)⟩
        unfold Z59
        simp [hp.1,c]
      · have h2:=hp.2.resolve_left c
        have hm:=(List.mem_cons.mp (hk.rows r hr).2.1).resolve_left c
        refine ⟨r.2.1,hm,h2,Y89 hx ?_ (imp _ h2)⟩
        unfold Z59
        simp [hp.1]
    obtain ⟨a2,ha2,e2,hf2⟩:=key
    have hb2:=Z4r h ha2
    have c2:¬ (a2=t.m0∧w ≠ "give"):=fun z=>c1 ⟨by rw [← e2]; exact hb2.mpr z.1,z.2⟩
    refine ⟨a2,ha2,e2,?_⟩
    rw [Y8w hf c1,Y8w hf2 c2]
    have hth:=(hk.rows r hr).2.2.1
    have es:hd r.2.2.1 = "same" ↔ r.2.2.1 = "same" := W0j h hk hth
    show (if hd a=t.m0∧r.2.2.2=false then (hd a,false) else (if hd r.2.2.1 = "same" then hd a else hd r.2.2.1,decide (w = "give") && (r.2.2.2 && decide ((if hd r.2.2.1 = "same" then hd a else hd r.2.2.1) ≠ t.m0))))=_
    by_cases c3:a2=t.m0∧r.2.2.2=false
    · rw [if_pos c3,if_pos ⟨by rw [← e2]; exact hb2.mpr c3.1,c3.2⟩,← e2]
    · rw [if_neg c3,if_neg (fun z=>c3 ⟨hb2.mp (by rw [e2]; exact z.1),z.2⟩)]
      have eth:(if hd r.2.2.1 = "same" then hd a else hd r.2.2.1)=hd (if r.2.2.1 = "same" then a2 else r.2.2.1):=by
        by_cases c4:r.2.2.1 = "same"
        · rw [if_pos c4,if_pos (es.mpr c4),e2]
        · rw [if_neg c4,if_neg (fun z=>c4 (es.mp z))]
      have hthm:(if r.2.2.1 = "same" then a2 else r.2.2.1) ∈ t.marks:=by
        by_cases c4:r.2.2.1 = "same"
        · rw [if_pos c4]; exact ha2
        · rw [if_neg c4]; exact (List.mem_cons.mp hth).resolve_left c4
      rw [eth]
      have eb:=Z4r h hthm
      have:decide (hd (if r.2.2.1 = "same" then a2 else r.2.2.1) ≠ t.m0)=decide ((if r.2.2.1 = "same" then a2 else r.2.2.1) ≠ t.m0):=by
        rw [Bool.eq_iff_iff]; simp only [decide_eq_true_eq]; exact not_congr eb
      rw [this]
theorem Y1p (hk:t.Ok) {w a:Str} (ha:a ∈ t.marks):(t.bec w a).1 ∈ t.marks:=by
  unfold TQ.bec Y6w TQ.marks
  unfold TQ.marks at ha
  have hdo:∀ o:Option Z16,(∀ r,o=some r→r ∈ t.rows)→(doQ t.m0 w a o).1 ∈ t.m0 :: t.ms:=fun o ho=>by
    cases o with
    | none =>
      show (if w = "carry" then t.m0 else a) ∈ _
      split
      · simp
      · exact ha
    | some r =>
      have hr:=(hk.rows r (ho r rfl)).2.2.1
      by_cases c:a=t.m0∧r.2.2.2=false
      · rw [show doQ t.m0 w a (some r)=(a,false) from if_pos c]; exact ha
      · rw [show doQ t.m0 w a (some r)=(if r.2.2.1 = "same" then a else r.2.2.1,decide (w = "give") && (r.2.2.2 && decide ((if r.2.2.1 = "same" then a else r.2.2.1) ≠ t.m0))) from if_neg c]
        show (if r.2.2.1 = "same" then a else r.2.2.1) ∈ _
        by_cases c2:r.2.2.1 = "same"
        · rw [if_pos c2]; exact ha
        · rw [if_neg c2]
          exact (List.mem_cons.mp hr).resolve_left c2
  split
  · exact hdo none fun r e=>(nomatch e)
  · exact hdo _ fun r e=>List.mem_of_find?_eq_some e
theorem Y07 (h:Hd t hd) (hk:t.Ok):∀ {k:Nat} {a:Str},a ∈ t.marks→eqv t (mg t hd) k a (hd a)
  | 0,a,ha=>X3i h hk ha
  | k + 1,a,ha=>⟨X3i h hk ha,fun w hw=>by
    obtain ⟨a2,ha2,e,e2⟩:=W4v h hk (w:=w) ha
    rw [e2]
    have he:∀ k,eqv t t k a a2:=fun k=>(h.eqv a ha k).trans (e ▸ (h.eqv a2 ha2 k).symm)
    have hs:=((he 1).2 w hw).1
    refine ⟨hs,?_⟩
    have h3:=h.same _ (Y1p hk (w:=w) ha) _ (Y1p hk (w:=w) ha2) fun k=>((he (k + 1)).2 w hw).2
    rw [← h3]
    exact Y07 h hk (Y1p hk ha)⟩
theorem W4w (h:Hd t hd) (hk:t.Ok) (k:Nat):eqv t (mg t hd) k t.m0 (mg t hd).m0:=by
  have:=Y07 h hk (k:=k) (a:=t.m0) (by simp)
  rw [h.first] at this
  exact this
theorem W04 (h:Hd t hd):(mg t hd).marks.Nodup:=by rw [Z9i h]; exact Y45
theorem W05 (h:Hd t hd) (hk:t.Ok):(mg t hd).Ok:=by
  have hmem:∀ x ∈ (mg t hd).marks,x ∈ t.marks:=fun x hx=>by
    rw [Z9i h] at hx
    obtain ⟨a,ha,rfl⟩:=Y2a.mp hx
    exact h.mem a ha
  have hin:∀ a ∈ t.marks,hd a ∈ (mg t hd).marks:=fun a ha=>by rw [Z9i h]; exact Y2a.mpr ⟨a,ha,rfl⟩
  refine ⟨fun x hx=>hk.names x (hmem x hx),?_,?_,W04 h,List.filter_sublist,?_,?_,?_⟩
  · have h1:=(W04 h).length_le_of_subset hmem
    have h2:=hk.few
    simp only [TQ.marks,List.length_cons] at h1
    omega
  · have h1:=hk.some
    obtain ⟨a,ha⟩:=List.exists_mem_of_length_pos h1
    have h2:=hin a (List.mem_cons_of_mem _ ha)
    rcases List.mem_cons.mp h2 with e | h2
    · have:=(Z4r h (List.mem_cons_of_mem _ ha)).mp e
      exact absurd (this ▸ ha) (List.nodup_cons.mp hk.nd).1
    · exact List.length_pos_of_mem h2
  · have:((mgM t hd).filter fun x=>decide (x ∈ mgA t hd)).Sublist (mgM t hd):=List.filter_sublist
    rw [Y0n h] at this
    rw [← Y0n h] at this
    have e:(mg t hd).m0 :: (mg t hd).ms=mgM t hd:=Z9i h
    rw [e]
    exact this
  · show (t.rows.map (Z8m hd)).length ≤ 20
    rw [List.length_map]
    exact hk.len
  · intro r' hr'
    have hr':r' ∈ t.rows.map (Z8m hd):=hr'
    obtain ⟨r,hr,rfl⟩:=List.mem_map.mp hr'
    obtain ⟨r1,r2,r3,r4⟩:=hk.rows r hr
    have g2:∀ x ∈ ("any" : Str) :: t.marks,hd x ∈ ("any" : Str) :: (mg t hd).marks:=fun x hx=>by
      rcases List.mem_cons.mp hx with rfl | hx
      · rw [h.out _ (Z82 hk)]; simp
      · exact List.mem_cons_of_mem _ (hin x hx)
    have g3:∀ x ∈ ("same" : Str) :: t.marks,hd x ∈ ("same" : Str) :: (mg t hd).marks:=fun x hx=>by
      rcases List.mem_cons.mp hx with rfl | hx
      · rw [h.out _ (Y1a hk)]; simp
      · exact List.mem_cons_of_mem _ (hin x hx)
    refine ⟨r1,g2 _ r2,g3 _ r3,fun z=>⟨(r4 z).1,?_⟩⟩
    have h5:=(r4 z).2
    rcases List.mem_cons.mp h5 with e | h5
    · rw [show (Z8m hd r).2.1=hd r.2.1 from rfl,e,h.out _ (Z82 hk)]; simp
    · have h6:=hin r.2.1 (List.mem_cons_of_mem _ h5)
      rcases List.mem_cons.mp h6 with e | h6
      · have:=(Z4r h (List.mem_cons_of_mem _ h5)).mp e
        exact absurd (this ▸ h5) (List.nodup_cons.mp hk.nd).1
      · exact List.mem_cons_of_mem _ h6
end
end Lw
namespace Lw
open PySem PySem.Spec L2 Bv
open PyProof.Rows hiding St
variable [HasW]
def W9e:MS:=(Z42 (Z1 1) (Z1 2) (Z3r (Z1 1) (Z1 2) (Z97 (Z8 Z1d (Z0 (Z1 1) Z7)))))
def nu:MS:=(Z9 (X2 1 Z5d) (Z9 (Z1f (.nm 2) (Y5q (Z1 0)) W9e) (Q1 (X0m (.tp [(.nm 3),(.nm 2)]) (Y12 (Z1 0)) W8 (Z1 3) (Z0t (Z1 1) (Z1 2)) [3,2]))))
theorem W8a:Z7x=nu:=by kernel_rfl
def nz (j:Nat):Str:=(toString (j:Int):String)
theorem W5c:((List.range 6).all fun j=>decide ((Int.natAbs (j:Nat)).log2 < 1920) && PyData.strOk (nz j) && ((cds (nz j)).all fun c=>CHS.contains c) && decide ((nz j).length ≤ 25) && (List.range 6).all fun i=>decide (i=j) || !decide (nz i=nz j))=true:=by kernel_rfl
theorem W5b {j:Nat} (h:j < 6):(Int.natAbs (j:Nat)).log2 < 1920∧PyData.strOk (nz j)=true∧(∀ c ∈ cds (nz j),c ∈ CHS)∧(nz j).length ≤ 25∧∀ i,i < 6→nz i=nz j→i=j:=by
  have:=List.all_eq_true.mp W5c j (by simpa using h)
  simp only [Bool.and_eq_true,decide_eq_true_eq] at this
  obtain ⟨⟨⟨⟨h1,h2⟩,h3⟩,h4⟩,h5⟩:=this
  refine ⟨h1,h2,fun c hc=>?_,h4,fun i hi e=>?_⟩
  · have:=List.all_eq_true.mp h3 c hc
    simpa using this
  · have:=List.all_eq_true.mp h5 i (by simpa using hi)
    rw [Bool.or_eq_true,decide_eq_true_iff,decide_eq_true e] at this
    rcases this with h | h
    · exact h
    · cases h
theorem W5a {j:Nat} (h:j < 6):W3b (.d (.int (j:Nat)))=some (.str (nz j))∧Pt 25 (nz j):=by
  obtain ⟨h1,h2,h3,h4,_⟩:=W5b h
  refine ⟨?_,h3,h4⟩
  show (if decide ((Int.natAbs (j:Nat)).log2 < 1920) && PyData.strOk (nz j) then some (D.str (nz j)) else none)=_
  rw [decide_eq_true h1,h2]
  rfl
theorem X8x {i j:Nat} (h:i < 6) (h2:j < 6) (e:nz i=nz j):i=j:=(W5b h2).2.2.2.2 i h e
theorem X2o {m:M} {e:Ev} {S S1:Sto} {x:X} {d:D} (h:m e S = .ok x S1) (h2:W3b x=some d):Z97 m e S = .ok (.d d) S1:=by
  unfold Z97
  rw [h]
  show Z04 ((W3b x).map X.d) S1=_
  rw [h2]
  rfl
def pK (P:List (Str × Str)):List (D × X):=P.map fun p=>(D.str p.1,X.d (.str p.2))
def lK (g:Str→Str) (l:List Str):List (D × X):=l.map fun a=>(D.str a,X.d (.str (g a)))
def kD (f:Str→Str) (l:List Str):D := .dic (l.map fun a=>(.str a, .str (f a)))
theorem Y7m {P:List (Str × Str)} {x:Str}:Z2j (pK P) (.str x)=(lk P x).map fun v=>X.d (.str v):=X6g Z44 (fun v=>X.d (.str v))
theorem X87 {P:List (Str × Str)} {x v:Str}:Z6d (pK P) (.str x) (X.d (.str v))=pK (pt P x v):=W11 Z44 (fun v=>X.d (.str v))
theorem X2u {P:List (Str × Str)} {x w:Str}:(Z2j (pK P) (.str x)).getD (.d (.str w)) = .d (.str ((lk P x).getD w)):=by
  rw [Y7m]
  cases lk P x <;> rfl
theorem X05 {P:List (Str × Str)} {x v w:Str} (h:lk P x=some v):(pt P x w).length=P.length:=by
  unfold pt
  rw [Y6z,h]
  show (List.map _ P).length=_
  rw [List.length_map]
theorem X04 {P:List (Str × Str)} {x w:Str} (h:lk P x=none):(pt P x w).length=P.length + 1:=by
  unfold pt
  rw [Y6z,h]
  show (P++[(x,w)]).length=_
  simp
structure Num (g:Str→Str) (done:List Str) (P:List (Str × Str)):Prop where
  all:∀ a ∈ done,∃ v,lk P (g a)=some v
  val:∀ x v,lk P x=some v→∃ j,j < P.length∧v=nz j
  inj:∀ x y v,lk P x=some v→lk P y=some v→x=y
  len:P.length ≤ done.length
theorem Num.on {g:Str→Str} {done:List Str} {P:List (Str × Str)} {a:Str} (h:Num g done P) (hl:done.length < 6):Num g (done++[a]) (pt P (g a) ((lk P (g a)).getD (nz P.length))):=by
  cases c:lk P (g a) with
  | some v =>
    have e:∀ y,lk (pt P (g a) ((some v).getD (nz P.length))) y=lk P y:=fun y=>by
      rw [W0y]
      split
      · rename_i z; rw [z,c]; rfl
      · rfl
    have el:(pt P (g a) ((some v).getD (nz P.length))).length=P.length:=X05 c
    refine ⟨fun b hb=>?_,fun x w hx=>?_,fun x y w hx hy=>?_,?_⟩
    · rw [e]
      rcases List.mem_append.mp hb with hb | hb
      · exact h.all b hb
      · rw [List.mem_singleton.mp hb]; exact ⟨v,c⟩
    · rw [e] at hx; rw [el]; exact h.val x w hx
    · rw [e] at hx hy; exact h.inj x y w hx hy
    · rw [el,List.length_append]; have:=h.len; omega
  | none =>
    have e:∀ y,lk (pt P (g a) ((none:Option Str).getD (nz P.length))) y=if y=g a then some (nz P.length) else lk P y:=fun y=>W0y
    have el:(pt P (g a) ((none:Option Str).getD (nz P.length))).length=P.length + 1:=X04 c
    have hlen:=h.len
    refine ⟨fun b hb=>?_,fun x w hx=>?_,fun x y w hx hy=>?_,?_⟩
    · rw [e]
      by_cases z:g b=g a
      · exact ⟨_,if_pos z⟩
      · rw [if_neg z]
        rcases List.mem_append.mp hb with hb | hb
        · exact h.all b hb
        · rw [List.mem_singleton.mp hb] at z; exact absurd rfl z
    · rw [e] at hx
      rw [el]
      by_cases z:x=g a
      · rw [if_pos z] at hx
        cases hx
        exact ⟨_,Nat.lt_succ_self _,rfl⟩
      · rw [if_neg z] at hx
        obtain ⟨j,h1,h2⟩:=h.val x w hx
        exact ⟨j,by omega,h2⟩
    · rw [e] at hx hy
      by_cases zx:x=g a <;> by_cases zy:y=g a
      · rw [zx,zy]
      · rw [if_pos zx] at hx
        rw [if_neg zy] at hy
        obtain ⟨j,h1,h2⟩:=h.val y w hy
        cases hx
        have:=X8x (by omega) (by omega) h2
        omega
      · rw [if_neg zx] at hx
        rw [if_pos zy] at hy
        obtain ⟨j,h1,h2⟩:=h.val x w hx
        cases hy
        have:=X8x (by omega) (by omega) h2
        omega
      · rw [if_neg zx] at hx
        rw [if_neg zy] at hy
        exact h.inj x y w hx hy
    · rw [el,List.length_append]
      simp
      omega
section
variable {S:Sto} {n:Nat} {g:Str→Str} {l:List Str}
theorem W4h:(lK g l).length=l.length:=by simp [lK]
theorem X6d (h:∀ a ∈ l,PyData.strOk a=true):Z4x (lK g l)=some (l.map fun a=>X.d (.tup [.str a, .str (g a)])):=by
  induction l with
  | nil=>rfl
  | cons a l ih =>
    show (if Z7n (.str a)=true then (Z4x (lK g l)).map _ else none)=_
    rw [show Z7n (.str a)=true from h a (by simp),if_pos rfl,ih fun b hb=>h b (List.mem_cons_of_mem _ hb)]
    rfl
theorem W28:Y0r (lK g l)=some (l.map fun a=>X.d (.str (g a))):=by
  unfold Y0r lK
  rw [if_pos (by rw [List.all_map]; exact List.all_eq_true.mpr fun _ _=>rfl),List.map_map]
  rfl
theorem X81 {k:Nat}:okO k (.fdc (lK g l))=true:=by
  show (lK g l).all _=true
  unfold lK
  rw [List.all_map]
  exact List.all_eq_true.mpr fun _ _=>rfl
theorem Y7x (hS:OkS S) (hn:S[n]?=some (.dic (lK g l))) (hl:l.length ≤ 5) (hnd:l.Nodup) (hk:∀ a ∈ l,PyData.strOk a=true):∃ f:Str→Str,g_numbered [.r n] S = .ok (.d (kD f l)) (S.set n (.fdc (lK g l)))∧(∀ a ∈ l,Pt 25 (f a))∧∀ a ∈ l,∀ b ∈ l,f a=f b ↔ g a=g b:=by
  have hlt:=(List.getElem?_eq_some_iff.mp hn).1
  let S2:Sto:=S.set n (.fdc (lK g l))
  have hS2:OkS S2:=hS.set X81
  have l2:S2.length=S.length:=by simp [S2]
  suffices h:Fw (Z7x (ev0 4 [.r n]) S) (fun r=>∃ f:Str→Str,∃ P,r = .go (.rt (.d (kD f l))) (S2++[.dic (pK P)])∧(∀ a ∈ l,Pt 25 (f a))∧∀ a ∈ l,∀ b ∈ l,f a=f b ↔ g a=g b) by
    obtain ⟨f,P,e,h1,h2⟩:=h
    refine ⟨f,Z85 e rfl ?_,h1,h2⟩
    have:=hS2.cut (T:=[.dic (pK P)])
    rwa [l2] at this
  rw [W8a]
  unfold nu
  refine Fw.set (x := .r S.length) (S1:=S++[.dic []]) rfl ?_
  have hw:Y28 Y0r (S++[.dic []]) (.r n) = .ok (l.map fun a=>X.d (.str (g a)), .free) (S2++[.dic (pK [])]):=by
    have e:X51 (S++[.dic []]) (.r n)=some (lK g l,S2++[.dic (pK [])]):=by
      show (match (S++[O.dic []])[n]? with
        | some (.dic kvs)=>some (kvs,(S++[O.dic []]).set n (.fdc kvs))
        | some (.fdc kvs)=>some (kvs,S++[O.dic []])
        | _=>none)=_
      rw [List.getElem?_append_left hlt,hn]
      show some (lK g l,(S++[O.dic []]).set n (.fdc (lK g l)))=_
      rw [List.set_append_left _ _ hlt]
      rfl
    unfold Y28
    rw [e]
    show Z04 ((Y0r (lK g l)).map fun ys=>(ys,Lk.free)) (S2++[.dic (pK [])])=_
    rw [W28]
    rfl
  refine Fw.for_ (l:=l) (f:=fun a=>X.d (.str (g a))) (S1:=S2++[.dic (pK [])]) (lk := .free) (W0o (Z6 rfl) hw) (fun rest e T=>∃ (done:List Str) (P:List (Str × Str)) (o2:Option X),l=done++rest∧e=[some (.r n),some (.r S.length),o2,none]∧T=S2++[.dic (pK P)]∧Num g done P) (fun _ _=>False) ⟨[],[],none,rfl,rfl,rfl,⟨fun _ h=>(nomatch h),fun _ _ h=>(nomatch h),fun _ _ _ h=>(nomatch h),Nat.le_refl _⟩⟩ (fun _ _ _ _=>rfl) ?_ ?_
  · rintro a rest e T ⟨done,P,o2,hd,rfl,rfl,hN⟩
    refine ⟨_,rfl,?_⟩
    unfold W9e
    have hdl:done.length < l.length:=by rw [hd]; simp
    have hPl:=hN.len
    have hT:(S2++[O.dic (pK P)])[S.length]?=some (.dic (pK P)):=by rw [← l2]; simp
    have hlen:Z1d [.r S.length] (S2++[O.dic (pK P)]) = .ok (.d (.int (P.length:Nat))) (S2++[O.dic (pK P)]):=by
      have:(pK P).length=P.length:=by simp [pK]
      simp only [Z1d,Z2r,hT]
      rw [this]
    have hfm:=(W5a (j:=P.length) (by omega)).1
    have hdk:dkX (S2++[O.dic (pK P)]) (.r S.length) (.d (.str (g a)))=some (pK P, .str (g a)):=dk_of (Y1y hT) rfl
    have hdis:(Z67 (S2++[O.dic (pK P)]) (.r S.length)).isSome=true:=by rw [Y1y hT]; rfl
    have hput:Z8b (S2++[O.dic (pK P)]) (.r S.length) (.d (.str (g a)))=some (S.length,pK P, .str (g a)):=X4f hT rfl (by have:=hz4 (n:=(pK P).length + 1) (by simp [pK]; omega); omega)
    refine Fw.one (Fw.dput (z := .d (.str ((lk P (g a)).getD (nz P.length)))) (Z7z (Z6 rfl) hdis (Z6 rfl) (X2o (X5 (Z5 (Z6 rfl) Y3) hlen) hfm) (by rw [hdk]; show some ((Z2j (pK P) (.str (g a))).getD (.d (.str (nz P.length))))=_; rw [X2u])) (Z6 rfl) (Z6 rfl) hput (Fw.nil (.nx ⟨done++[a],pt P (g a) ((lk P (g a)).getD (nz P.length)),_,by rw [hd]; simp,rfl,?_,hN.on (by omega)⟩)))
    show (S2++[O.dic (pK P)]).set S.length (.dic (Z6d (pK P) (.str (g a)) (X.d (.str ((lk P (g a)).getD (nz P.length))))))=_
    rw [X87,← l2,List.set_append_right _ _ (Nat.le_refl _),Nat.sub_self]
    rfl
  · rintro e T (⟨done,P,o2,hd,rfl,rfl,hN⟩ | h)
    · have hd:l=done:=by rw [hd]; simp
      subst hd
      have hT:(S2++[O.dic (pK P)])[S.length]?=some (.dic (pK P)):=by rw [← l2]; simp
      let f:Str→Str:=fun a=>(lk P (g a)).getD ""
      have hf:∀ a ∈ l,lk P (g a)=some (f a):=fun a ha=>by
        obtain ⟨v,hv⟩:=hN.all a ha
        show _=some ((lk P (g a)).getD "")
        rw [hv]
        rfl
      have hit:Y28 Z4x (S2++[O.dic (pK P)]) (.r n) = .ok (l.map fun a=>X.d (.tup [.str a, .str (g a)]), .free) (S2++[O.dic (pK P)]):=by
        have e:X51 (S2++[O.dic (pK P)]) (.r n)=some (lK g l,S2++[O.dic (pK P)]):=by
          show (match (S2++[O.dic (pK P)])[n]? with
            | some (.dic kvs)=>some (kvs,(S2++[O.dic (pK P)]).set n (.fdc kvs))
            | some (.fdc kvs)=>some (kvs,S2++[O.dic (pK P)])
            | _=>none)=_
          rw [List.getElem?_append_left (by rw [l2]; exact hlt),List.getElem?_set_self hlt]
        unfold Y28
        rw [e]
        show Z04 ((Z4x (lK g l)).map fun ys=>(ys,Lk.free)) (S2++[O.dic (pK P)])=_
        rw [X6d hk]
        rfl
      refine Fw.one (Fw.ret (x := .d (kD f l)) (S1:=S2++[O.dic (pK P)]) (X2c (fun a=>X.d (.tup [.str a, .str (g a)])) (fun a => .str a) (fun a => .str (f a)) (X6c (Z6 rfl) hit) (by have:=hz4 (n:=l.length + 1) (by omega); omega) (fun a ha=>⟨rfl,hk a ha⟩) ?_ fun a ha=>⟨_,rfl,Z6 rfl,Z2t (Z6 rfl) (Z6 rfl) ?_⟩) ⟨f,P,rfl,fun a ha=>?_,fun a ha b hb=>?_⟩)
      · have:∀ {l:List Str},l.Nodup→(l.map D.str).Nodup:=fun {l} h=>by
          rw [List.nodup_iff_pairwise_ne,List.pairwise_map]
          exact h.imp fun hne e=>hne (Z44 _ _ e)
        exact this hnd
      · unfold Z9c
        rw [dk_of (Y1y hT) rfl]
        show Z04 (Z2j (pK P) (.str (g a))) _=_
        rw [Y7m,hf a ha]
        rfl
      · obtain ⟨j,h1,h2⟩:=hN.val _ _ (hf a ha)
        have:=hN.len
        rw [h2]
        exact (W5a (by omega)).2
      · constructor
        · intro e
          have h1:=hf a ha
          rw [e] at h1
          exact hN.inj _ _ _ h1 (hf b hb)
        · intro e
          show (lk P (g a)).getD "" = (lk P (g b)).getD ""
          rw [e]
    · exact h.elim
end
end Lw
namespace Lw
open PySem PySem.Spec L2 Bv
open PyProof.Rows hiding St
variable [HasW]
section
variable {p q t:TQ} {T:Sto} {m w:Str}
theorem W4b {r:Option (List Str)}:isD (W6w r) .non=some (.bl (decide (r=none))):=by cases r <;> rfl
theorem X5k {r:Option (List Str)} (h:g_parting [p.D,q.D] = .ok (W6w r)):g_alike [p.D,q.D] = .ok (.bl (decide (r=none))):=by
  refine Z51 ?_
  unfold Y62
  exact Fw.one (Fw.retP (W2 (X5 (Z5 (Z6 rfl) (Z5 (Z6 rfl) Y3)) (Q8 rfl (Y5j h))) U0 Y5 Y5 W4b) Y5 rfl)
end
end Lw
namespace Lw
open PySem PySem.Spec L2 Bv
open PyProof.Rows hiding St
variable [HasW]
def X59:MS:=(Z9 (Z0d (.tp [(.nm 8),(.nm 9)]) (Z3l "Tool" "becomes" (Y8 3 (Y9 [] (callP U7))) (Z1 0) (Z0 (Z1 7) (Z0 (Z1 4) Z7)))) (W0 (Z1s V8 U4 (Z1 6) (Z0 (X1s Str.empty [Z97 (Z0t (Z1 1) (Z1 8)),m_c (.str " "),Z97 (Z1 9)]) Z7))))
def X8d:MS:=(Z9 (X2 6 (V2 (Z0 (Z0t (Z1 1) (Z1 4)) Z7))) (Z9 (Z1f (.nm 7) (V7 (m_c (.tup ((["give", "carry", "drop", "back", "right", "wrong"]:List Str).map D.str)))) X59) (Z42 (Z1 5) (Z1 4) (Z8 Z68 (Z0 (Z1 6) Z7)))))
def W81:MS:=(Z9 (X2 5 Z5d) (Z9 (Z1f (.nm 4) (V7 (Y4 ["Tool"] "marks" (Z1 0))) X8d) (X2 1 (Z8 (Y8 1 (Y9 [] g_numbered)) (Z0 (Z1 5) Z7)))))
def W82:MS:=(Z42 (Z1 3) (Z0t (Z1 1) (Z1 4)) (Z3r (Z1 3) (Z0t (Z1 1) (Z1 4)) (Z1 4)))
def ho:MS:=(Z9 (X2 1 (X0m (.nm 4) (V7 (Y4 ["Tool"] "marks" (Z1 0))) W8 (Z1 4) (Z8 Z68 (Z0 (Z8 (Y8 2 (Y9 [] (callP g_told_of))) (Z0 (Z1 0) (Z0 (Z1 4) Z7))) Z7)) [4])) (Z9 (Z1f (.nm 2) (Z5p (Z0 (Z8 Z1d (Z0 (Y4 ["Tool"] "marks" (Z1 0)) (Z7))) (Z7))) W81) (Z9 (X2 3 Z5d) (Z9 (Z1f (.nm 4) (V7 (Y4 ["Tool"] "marks" (Z1 0))) W82) (X3 (X0m (.nm 4) (V7 (Y4 ["Tool"] "marks" (Z1 0))) W8 (Z1 4) (Z0t (Z1 3) (Z0t (Z1 1) (Z1 4))) [4]))))))
theorem W7n:Z7w=ho:=by kernel_rfl
def TF (b:Bool):Str:=(if b then "True" else "False" : String)
def z0 (b:Bool × Bool × Bool):Str:=tupleText [TF b.1,TF b.2.1,TF b.2.2]
def b8:List (Bool × Bool × Bool):=[(true,true,true),(true,true,false),(true,false,true),(true,false,false),(false,true,true),(false,true,false),(false,false,true),(false,false,false)]
theorem W3o (b:Bool × Bool × Bool):b ∈ b8:=by
  obtain ⟨x,y,z⟩:=b
  cases x <;> cases y <;> cases z <;> decide
theorem W6o:(b8.all fun b=>((cds (z0 b)).all fun c=>CHS.contains c) && decide ((z0 b).length ≤ 25) && b8.all fun c=>decide (b=c) || !decide (z0 b=z0 c))=true:=by kernel_rfl
theorem W29 (b:Bool × Bool × Bool):Pt 25 (z0 b)∧∀ c,z0 b=z0 c→b=c:=by
  have:=List.all_eq_true.mp W6o b (W3o b)
  simp only [Bool.and_eq_true,decide_eq_true_eq] at this
  obtain ⟨⟨h1,h2⟩,h3⟩:=this
  refine ⟨⟨fun c hc=>?_,h2⟩,fun c e=>?_⟩
  · have:=List.all_eq_true.mp h1 c hc
    simpa using this
  · have:=List.all_eq_true.mp h3 c (W3o c)
    rw [Bool.or_eq_true,decide_eq_true_iff,decide_eq_true e] at this
    rcases this with h | h
    · exact h
    · cases h
theorem X7n {b:Bool × Bool × Bool}:PyData.shown (.tuple [.bool b.1, .bool b.2.1, .bool b.2.2])=z0 b:=by
  obtain ⟨x,y,z⟩:=b
  cases x <;> cases y <;> cases z <;> simp [PyData.shown,PyData.shownAll,z0,TF]
theorem W5x {b:Bool × Bool × Bool}:Y0e (t3D b)=some (z0 b):=by
  have h0:=(W29 b).1
  have hok:=h0.strOk
  have hlen:(z0 b).length ≤ sizeLine:=by have:=h0.2; rw [sizeLine_eq]; omega
  unfold Y0e
  rw [if_pos (show X22 (t3D b)=true from rfl)]
  unfold Y41
  show (if (PyData.showable (.tuple [.bool b.1, .bool b.2.1, .bool b.2.2]) && !PyData.hasDict (.tuple [.bool b.1, .bool b.2.1, .bool b.2.2]) && dOk (.tuple [.bool b.1, .bool b.2.1, .bool b.2.2]) && decide ((PyData.shown (.tuple [.bool b.1, .bool b.2.1, .bool b.2.2])).length ≤ sizeLine) && PyData.strOk (PyData.shown (.tuple [.bool b.1, .bool b.2.1, .bool b.2.2])))=true then some (PyData.shown (.tuple [.bool b.1, .bool b.2.1, .bool b.2.2])) else none).bind _=_
  rw [X7n,decide_eq_true hlen,hok]
  have hd:dOk (.tuple [.bool b.1, .bool b.2.1, .bool b.2.2])=true:=rfl
  have hs:PyData.showable (.tuple [.bool b.1, .bool b.2.1, .bool b.2.2])=true:=rfl
  have hn:PyData.hasDict (.tuple [.bool b.1, .bool b.2.1, .bool b.2.2])=false:=rfl
  rw [hd,hs,hn]
  show (if PyData.strOk (z0 b)=true then some (z0 b) else none)=_
  rw [hok]
  rfl
def cat (f:Str) (b:Bool):Str:=Str.empty++f ++ " " ++ TF b
theorem Z6g:cds (TF true)=[84,114,117,101]∧cds (TF false)=[70,97,108,115,101]∧cds (" " : Str)=[32]∧cds Str.empty=[]:=by decide +kernel
theorem Y39 {f:Str} {b:Bool}:cds (cat f b)=cds f++(32 :: cds (TF b)):=by
  unfold cat
  rw [Z48,Z48,Z48,Z6g.2.2.1,Z6g.2.2.2]
  simp
theorem X15 {f:Str} {b:Bool} (h:Pt 25 f):Pt 40 (cat f b):=by
  refine ⟨fun c hc=>?_,?_⟩
  · rw [Y39] at hc
    rcases List.mem_append.mp hc with hc | hc
    · exact h.1 c hc
    · cases b
      · rw [Z6g.2.1] at hc
        simp only [List.mem_cons,List.not_mem_nil,or_false] at hc
        rcases hc with rfl | rfl | rfl | rfl | rfl | rfl <;> decide
      · rw [Z6g.1] at hc
        simp only [List.mem_cons,List.not_mem_nil,or_false] at hc
        rcases hc with rfl | rfl | rfl | rfl | rfl <;> decide
  · have e:(cat f b).length=(cds (cat f b)).length:=rfl
    have h2:(cds f).length ≤ 25:=h.2
    rw [e,Y39,List.length_append]
    cases b
    · rw [Z6g.2.1]; simp only [List.length_cons,List.length_nil]; omega
    · rw [Z6g.1]; simp only [List.length_cons,List.length_nil]; omega
theorem X9w {f g:Str} {b c:Bool} (e:cat f b=cat g c):f=g∧b=c:=by
  have e1:=congrArg cds e
  rw [Y39,Y39] at e1
  cases b <;> cases c
  · exact ⟨Y4a (List.append_cancel_right e1),rfl⟩
  · rw [Z6g.1,Z6g.2.1] at e1
    have e2:(cds f++[32,70,97,108])++[115,101]=(cds g++[32,84,114])++[117,101]:=by simpa using e1
    have:=(List.append_inj' e2 rfl).2
    simp at this
  · rw [Z6g.1,Z6g.2.1] at e1
    have e2:(cds f++[32,84,114])++[117,101]=(cds g++[32,70,97,108])++[115,101]:=by simpa using e1
    have:=(List.append_inj' e2 rfl).2
    simp at this
  · exact ⟨Y4a (List.append_cancel_right e1),rfl⟩
theorem W31 {m1 m2:M} {e:Ev} {S:Sto} {f:Str} {b:Bool} (h1:m1 e S = .ok (.d (.str f)) S) (h2:m2 e S = .ok (.d (.bl b)) S) (hf:Pt 25 f):X1s Str.empty [Z97 m1,m_c (.str " "),Z97 m2] e S = .ok (.d (.str (cat f b))) S:=by
  have hl:=hf.2
  have hsz:∀ n:Nat,n < 1000→n ≤ sizeLine:=fun n h=>by rw [sizeLine_eq]; omega
  have f1:W3b (.d (.str f))=some (.str f):=by
    show (if decide (f.length ≤ sizeLine)=true then _ else _)=_
    rw [if_pos (decide_eq_true (hsz _ (by omega)))]
  have f2:W3b (.d (.bl b))=some (.str (TF b)):=rfl
  have hc:=X15 (b:=b) hf
  have len1:(Str.empty++f).length ≤ sizeLine:=by
    have:(Str.empty++f).length=(cds (Str.empty++f)).length:=rfl
    rw [this,Z48,Z6g.2.2.2]
    have h2:(cds f).length ≤ 25:=hl
    exact hsz _ (by simp only [List.length_append,List.length_nil]; omega)
  have len2:(Str.empty++f ++ " ").length ≤ sizeLine:=by
    have:(Str.empty++f ++ " ").length=(cds (Str.empty++f ++ " ")).length:=rfl
    rw [this,Z48,Z48,Z6g.2.2.2,Z6g.2.2.1]
    have h2:(cds f).length ≤ 25:=hl
    exact hsz _ (by simp only [List.length_append,List.length_nil,List.length_cons]; omega)
  have len3:(cat f b).length ≤ sizeLine:=hsz _ (by have:=hc.2; omega)
  have j1:jsX Str.empty (.d (.str f))=some (Str.empty++f):=if_pos (decide_eq_true len1)
  have j2:jsX (Str.empty++f) (.d (.str " "))=some (Str.empty++f ++ " "):=if_pos (decide_eq_true len2)
  have j3:jsX (Str.empty++f ++ " ") (.d (.str (TF b)))=some (cat f b):=if_pos (decide_eq_true len3)
  unfold X1s
  rw [X2o h1 f1]
  simp only [R.bind,j1]
  unfold X1s
  simp only [m_c,R.bind,j2]
  unfold X1s
  rw [X2o h2 f2]
  simp only [R.bind,j3]
  unfold X1s
  rw [if_pos hc.strOk]
section
variable {t:TQ} {T:Sto} {f g:Str→Str} {l:List Str} {m:Str}
def wds (t:TQ) (f:Str→Str) (m:Str) (ws:List Str):List Str:=f m :: ws.map fun w=>cat (f (t.bec w m).1) (t.bec w m).2
def lat (t:TQ) (f:Str→Str) (m:Str):Str:=listText ((wds t f m W6).map reprText)
theorem X28 (hm:m ∈ l):Z2j (l.map fun a=>(D.str a,D.str (f a))) (.str m)=some (.str (f m)):=by
  rw [Z7b (fun a:Str=>D.str a) (fun a=>D.str (f a)) (.str m) l]
  have:(l.find? fun a=>decide (D.str a=D.str m))=some m:=by
    induction l with
    | nil=>cases hm
    | cons a l ih =>
      rw [List.find?_cons]
      by_cases c:a=m
      · rw [c]; simp
      · rw [decide_eq_false (fun e=>c (Z44 _ _ e))]
        exact ih ((List.mem_cons.mp hm).resolve_left (Ne.symm c))
  rw [this]
  rfl
theorem Y11 (hm:m ∈ l):Z9c T (.d (kD f l)) (.d (.str m)) = .ok (.d (.str (f m))) T:=W3x rfl (X28 hm)
theorem W0w (hf:∀ a ∈ t.marks,Pt 25 (f a)) (hm:∀ w,∀ a ∈ t.marks,(t.bec w a).1 ∈ t.marks):∀ a ∈ t.marks,∀ b ∈ t.marks,lat t f a=lat t f b ↔ (f a=f b∧∀ w ∈ W6,f (t.bec w a).1=f (t.bec w b).1∧(t.bec w a).2=(t.bec w b).2):=fun a ha b hb=>by
  have hp:∀ a ∈ t.marks,∀ z ∈ wds t f a W6,Pt 40 z:=fun a ha z hz=>by
    unfold wds at hz
    rcases List.mem_cons.mp hz with rfl | hz
    · exact (hf a ha).mono (by decide)
    · obtain ⟨w,_,rfl⟩:=List.mem_map.mp hz
      exact X15 (hf _ (hm w a ha))
  constructor
  · intro e
    have e2:=list_inj (x:=f a) (y:=f b) (l:=W6.map fun w=>cat (f (t.bec w a).1) (t.bec w a).2) (m:=W6.map fun w=>cat (f (t.bec w b).1) (t.bec w b).2) (by rw [List.length_map,List.length_map]) (hp a ha) (hp b hb) e
    injection e2 with e3 e4
    refine ⟨e3,fun w hw=>?_⟩
    have:=(List.map_inj_left.mp e4) w hw
    exact X9w this
  · rintro ⟨h1,h2⟩
    unfold lat wds
    rw [h1]
    have:(W6.map fun w=>cat (f (t.bec w a).1) (t.bec w a).2)=W6.map fun w=>cat (f (t.bec w b).1) (t.bec w b).2:=List.map_inj_left.mpr fun w hw=>by rw [(h2 w hw).1,(h2 w hw).2]
    rw [this]
def evH (t:TQ) (f:Str→Str) (o2 o3 o4 o5 o6 o7 o8 o9:Option X):Ev:=[some (.d t.D),some (.d (kD f t.marks)),o2,o3,o4,o5,o6,o7,o8,o9]
theorem X34 {k:Nat}:okO k (.dic (lK g l))=true:=by
  show (lK g l).all _=true
  unfold lK
  rw [List.all_map]
  exact List.all_eq_true.mpr fun _ _=>rfl
theorem Y9y {k:Nat} {ss:List Str}:okO k (.lst (ss.map fun s=>X.d (.str s)))=true:=by
  show (ss.map fun s=>X.d (.str s)).all _=true
  rw [List.all_map]
  exact List.all_eq_true.mpr fun _ _=>rfl
theorem X5e (hk:t.Ok) (hf:∀ a ∈ t.marks,Pt 25 (f a)) (hm:m ∈ t.marks) {k k2:Nat} (hS:OkS T) (hkk:k ≠ k2) {done:List Str} (h1:T[k]?=some (.dic (lK g done))) (h2:T[k2]?=some (.lst ((wds t f m []).map fun s=>X.d (.str s)))) {o2 o3 o7 o8 o9:Option X} {Q:RO→Prop} {kont:MS}
    (hfin:∀ (T2:Sto) (o7 o8 o9:Option X),OkS T2→T2[k]?=some (.dic (lK g done))→T2[k2]?=some (.lst ((wds t f m W6).map fun s=>X.d (.str s)))→Fw (kont (evH t f o2 o3 (some (.d (.str m))) (some (.r k)) (some (.r k2)) o7 o8 o9) T2) Q) :
    Fw (Z9 (Z1f (.nm 7) (V7 (m_c (.tup ((["give", "carry", "drop", "back", "right", "wrong"]:List Str).map D.str)))) (Z9 (Z0d (.tp [(.nm 8),(.nm 9)]) (Z3l "Tool" "becomes" (Y8 3 (Y9 [] (callP U7))) (Z1 0) (Z0 (Z1 7) (Z0 (Z1 4) (Z7))))) (W0 (Z1s V8 U4 (Z1 6) (Z0 (X1s Str.empty [Z97 (Z0t (Z1 1) (Z1 8)),m_c (.str " "),Z97 (Z1 9)]) (Z7)))))) kont (evH t f o2 o3 (some (.d (.str m))) (some (.r k)) (some (.r k2)) o7 o8 o9) T) Q:=by
  have hmk:=fun w=>Y1p hk (w:=w) hm
  refine Fw.for_ (l:=W6) (f:=fun w=>X.d (.str w)) (S1:=T) (lk := .free) (Z13 U0 Z4l) (fun rest e T=>∃ (ws:List Str) (o7 o8 o9:Option X),W6=ws++rest∧e=evH t f o2 o3 (some (.d (.str m))) (some (.r k)) (some (.r k2)) o7 o8 o9∧OkS T∧T[k]?=some (.dic (lK g done))∧T[k2]?=some (.lst ((wds t f m ws).map fun s=>X.d (.str s)))) (fun _ _=>False) ⟨[],_,_,_,rfl,rfl,hS,h1,h2⟩ (fun _ _ _ _=>rfl) ?_ ?_
  · rintro w rest e T ⟨ws,o7,o8,o9,hW,rfl,hS,h1,h2⟩
    refine ⟨_,rfl,?_⟩
    refine Fw.asg (x := .d (bD (t.bec w m))) (S1:=T) (Y7b (Z6 rfl) rfl (Z5 (Z6 rfl) (Z5 (Z6 rfl) Y3)) (Q8 rfl (X5w (Y65 hm)))) rfl ?_
    have hlt:=(List.getElem?_eq_some_iff.mp h2).1
    have hwl:ws.length ≤ 6:=by
      have:=congrArg List.length hW
      simp [W6] at this
      omega
    have e3:T.set k2 (.lst (((wds t f m ws).map fun s=>X.d (.str s))++[X.d (.str (cat (f (t.bec w m).1) (t.bec w m).2))]))=T.set k2 (.lst ((wds t f m (ws++[w])).map fun s=>X.d (.str s))):=by
      unfold wds
      simp
    refine Fw.one (Fw.expr (x := .d .non) (S1:=T.set k2 (.lst ((wds t f m (ws++[w])).map fun s=>X.d (.str s)))) (Y21 (Z6 rfl) (Z5q h2) (Z5 (W31 (Z2t (Z6 rfl) (Z6 rfl) (Y11 (hmk w))) (Z6 rfl) (hf _ (hmk w))) Y3) ((Y1k h2 ?_).trans (by rw [e3]))) (Fw.nil (.nx ⟨ws++[w],_,_,_,by rw [hW]; simp,rfl,hS.set Y9y,?_,?_⟩)))
    · rw [List.length_map,sizeLine_eq]
      unfold wds
      simp
      omega
    · rw [List.getElem?_set_ne (Ne.symm hkk)]
      exact h1
    · rw [List.getElem?_set_self hlt]
  · rintro e T (⟨ws,o7,o8,o9,hW,rfl,hS,h1,h2⟩ | h)
    · have hW:W6=ws:=by rw [hW]; simp
      subst hW
      exact hfin T o7 o8 o9 hS h1 h2
    · exact h.elim
end
end Lw
namespace Lw
open PySem PySem.Spec L2 Bv
open PyProof.Rows hiding St
variable [HasW]
section
variable {t:TQ} {T:Sto} {f g:Str→Str} {l:List Str} {m:Str}
theorem Z57:Z0i ["Tool"] "marks" T (.d t.D)=some (.d (.tup (t.marks.map D.str))):=by rfl
theorem X30 {l:List Str} (h:l.Nodup):(l.map D.str).Nodup:=by
  rw [List.nodup_iff_pairwise_ne,List.pairwise_map]
  exact h.imp fun hne e=>hne (Z44 _ _ e)
theorem X3b (hk:t.Ok):∀ a ∈ t.marks,PyData.strOk a=true:=fun a ha=>(Z4u (show a ∈ Y20 by unfold Y20; simp [hk.names a ha])).2.2.2.2
theorem W17 {d:D} {z:Str} (h:Y0e d=some z):Z68 [.d d] T = .ok (.d (.str z)) T:=by
  show (match (some d).bind Y0e with
    | some z=>R.ok (X.d (.str z)) T
    | none => .bad)=_
  rw [Option.bind_some,h]
theorem W18 {k:Nat} {ds:List D} {z:Str} (hk:T[k]?=some (.lst (ds.map X.d))) (h:Y0e (.lst ds)=some z):Z68 [.r k] T = .ok (.d (.str z)) T:=by
  show (match ((X.r k).get T).bind Y0e with
    | some z=>R.ok (X.d (.str z)) T
    | none => .bad)=_
  rw [X2w hk,Option.bind_some,h]
theorem X86 (h:m ∉ l):Z6d (lK g l) (.str m) (X.d (.str (g m)))=lK g (l++[m]):=by
  rw [Y2q fun p hp e=>?_]
  · simp [lK]
  · obtain ⟨a,ha,rfl⟩:=List.mem_map.mp hp
    exact h ((Z44 _ _ e) ▸ ha)
def Z29 (t:TQ) (f:Str→Str) (m:Str):Str:=if m ∈ t.marks then (t.marks.find? fun x=>decide (f x=f m)).getD m else m
theorem Y4f {m:Str} (hm:m ∈ t.marks):∃ b ∈ t.marks,(t.marks.find? fun x=>decide (f x=f m))=some b∧f b=f m∧Z29 t f m=b:=by
  have h:(t.marks.find? fun x=>decide (f x=f m)).isSome:=by
    rw [List.find?_isSome]
    exact ⟨m,hm,decide_eq_true rfl⟩
  obtain ⟨b,hb⟩:=Option.isSome_iff_exists.mp h
  have h2:decide (f b=f m)=true:=by have:=List.find?_some hb; exact this
  refine ⟨b,List.mem_of_find?_eq_some hb,hb,of_decide_eq_true h2,?_⟩
  unfold Z29
  rw [if_pos hm,hb]
  rfl
theorem Y4g (hk:t.Ok) (h:Y0s t t.marks.length f):Hd t (Z29 t f):=by
  have hmk:∀ w,∀ a ∈ t.marks,(t.bec w a).1 ∈ t.marks:=fun w a ha=>Y1p hk ha
  refine ⟨fun a ha=>?_,fun a ha k=>?_,fun a ha b hb e=>?_,?_,fun a ha=>if_neg ha⟩
  · obtain ⟨b,hb,_,_,e⟩:=Y4f (f:=f) ha
    rw [e]; exact hb
  · obtain ⟨b,hb,_,h2,e⟩:=Y4f (f:=f) ha
    rw [e]
    exact X0i hmk ha hb ((h a ha b hb).mp h2.symm) k
  · have e2:=(h a ha b hb).mpr (e _)
    unfold Z29
    rw [if_pos ha,if_pos hb,e2]
    obtain ⟨c,_,h1,_⟩:=Y4f (f:=f) hb
    rw [h1]
    rfl
  · unfold Z29
    rw [if_pos (by simp)]
    show (List.find? _ (t.m0 :: t.ms)).getD _=_
    rw [List.find?_cons,decide_eq_true rfl]
    rfl
theorem X58 (hk:t.Ok):∃ f,g_heads_of [t.D] = .ok (kD (Z29 t f) t.marks)∧Y0s t t.marks.length f:=by
  suffices h:Fw (Z7w (ev0 10 ([t.D].map X.d)) []) (fun r=>∃ f,Z24 r = .ok (kD (Z29 t f) t.marks)∧Y0s t t.marks.length f) from h
  have hmk:∀ w,∀ a ∈ t.marks,(t.bec w a).1 ∈ t.marks:=fun w a ha=>Y1p hk ha
  have hn5:t.marks.length ≤ 5:=by have:=hk.few; show t.ms.length + 1 ≤ 5; omega
  have hnd:t.marks.Nodup:=hk.nd
  have hok:=X3b hk
  have hsz:t.marks.length < sizeLine:=by rw [sizeLine_eq]; omega
  rw [W7n]
  unfold ho
  let f0:Str→Str:=fun a=>z0 (t.told a)
  refine Fw.set (x := .d (kD f0 t.marks)) (S1:=[]) (X2c (fun a=>X.d (.str a)) (fun a => .str a) (fun a => .str (f0 a)) (Z13 (Z1j (Z6 rfl) Z57) Z4l) hsz (fun a ha=>⟨rfl,hok a ha⟩) (X30 hnd) fun a ha=>⟨_,rfl,Z6 rfl,X5 (Z5 (X5 (Z5 (Z6 rfl) (Z5 (Z6 rfl) Y3)) (Q8 rfl (Y5j Z6h))) Y3) (W17 W5x)⟩) ?_
  have hT0:Y0s t 0 f0:=fun a _ b _=>⟨fun e=>(W29 _).2 _ e,fun e=>by show z0 (t.told a)=z0 (t.told b); rw [show t.told a=t.told b from e]⟩
  refine Fw.for_ (t := .nm 2) (l:=List.range t.marks.length) (f:=fun (i:Nat)=>X.d (.int (0 + (i:Int)))) (S1:=[]) (lk := .free) (Z69 (n:=(t.marks.length:Nat)) (Z5 (X5 (Z5 (Z1j (Z6 rfl) Z57) Y3) (W0x.trans (by rw [List.length_map]))) Y3) (Z73 (by omega))) (fun rest e T=>∃ (i:Nat) (f:Str→Str) (o2 o4 o5 o6 o7 o8 o9:Option X),rest.length + i=t.marks.length∧e=evH t f o2 none o4 o5 o6 o7 o8 o9∧OkS T∧Y0s t i f∧∀ a ∈ t.marks,Pt 25 (f a)) (fun _ _=>False) ⟨0,f0,none,none,none,none,none,none,none,by rw [List.length_range]; rfl,rfl,Y0d,hT0,fun a _=>(W29 _).1⟩ (fun _ _ _ _=>rfl) ?_ ?_
  · rintro i0 rest e T ⟨i,f,o2,o4,o5,o6,o7,o8,o9,hl,rfl,hS,hTl,hf⟩
    refine ⟨_,rfl,?_⟩
    unfold W81
    rw [List.length_cons] at hl
    refine Fw.set (x := .r T.length) (S1:=T++[.dic (lK (lat t f) [])]) rfl ?_
    refine Fw.for_ (t := .nm 4) (l:=t.marks) (f:=fun a=>X.d (.str a)) (S1:=T++[.dic (lK (lat t f) [])]) (lk := .free) (Z13 (Z1j (Z6 rfl) Z57) Z4l) (fun rest e T2=>∃ (done:List Str) (o4 o6 o7 o8 o9:Option X),t.marks=done++rest∧e=evH t f (some (.d (.int (0 + (i0:Int))))) none o4 (some (.r T.length)) o6 o7 o8 o9∧OkS T2∧T2[T.length]?=some (.dic (lK (lat t f) done))) (fun _ _=>False) ⟨[],o4,o6,o7,o8,o9,rfl,rfl,hS.push X34,by simp⟩ (fun _ _ _ _=>rfl) ?_ ?_
    · rintro m rest e T2 ⟨done,o4,o6,o7,o8,o9,hd,rfl,hS2,hT2⟩
      refine ⟨_,rfl,?_⟩
      unfold X8d
      have hm:m ∈ t.marks:=by rw [hd]; simp
      have hmn:m ∉ done:=fun z=>by
        rw [hd] at hnd
        exact (List.nodup_append.mp hnd).2.2 m z m (by simp) rfl
      have hlt:=(List.getElem?_eq_some_iff.mp hT2).1
      refine Fw.set (x := .r T2.length) (S1:=T2++[.lst ((wds t f m []).map fun s=>X.d (.str s))]) (Z94 (Z5 (Z2t (Z6 rfl) (Z6 rfl) (Y11 hm)) Y3) (hz4 (by simp))) ?_
      refine X5e (k:=T.length) (k2:=T2.length) (done:=done) (g:=lat t f) hk hf hm (hS2.push Y9y) (by omega) (by rw [List.getElem?_append_left hlt]; exact hT2) (by simp) ?_
      intro T3 o7 o8 o9 hS3 h1 h2
      have hlt3:=(List.getElem?_eq_some_iff.mp h1).1
      have hp:∀ z ∈ wds t f m W6,Pt 40 z:=fun z hz=>by
        unfold wds at hz
        rcases List.mem_cons.mp hz with rfl | hz
        · exact (hf m hm).mono (by decide)
        · obtain ⟨w,_,rfl⟩:=List.mem_map.mp hz
          exact X15 (hf _ (hmk w m hm))
      have hrep:Y0e (.lst ((wds t f m W6).map D.str))=some (lat t f m):=X06 (k:=40) (x:=f m) (l:=W6.map fun w=>cat (f (t.bec w m).1) (t.bec w m).2) hp (by decide) (by simp [W6])
      have h2':T3[T2.length]?=some (.lst (((wds t f m W6).map D.str).map X.d)):=by rw [h2,List.map_map]; rfl
      have hdl:done.length < t.marks.length:=by rw [hd]; simp
      have hput:Z8b T3 (.r T.length) (.d (.str m))=some (T.length,lK (lat t f) done, .str m):=X4f h1 rfl (by rw [W4h,sizeLine_eq]; omega)
      refine Fw.one (Fw.dput (z := .d (.str (lat t f m))) (X5 (Z5 (Z6 rfl) Y3) (W18 h2' hrep)) (Z6 rfl) (Z6 rfl) hput (Fw.nil (.nx ⟨done++[m],_,_,_,_,_,by rw [hd]; simp,rfl,?_,?_⟩)))
      · show OkS (T3.set T.length (.dic (Z6d (lK (lat t f) done) (.str m) (X.d (.str (lat t f m))))))
        rw [X86 hmn]
        exact hS3.set X34
      · show (T3.set T.length (.dic (Z6d (lK (lat t f) done) (.str m) (X.d (.str (lat t f m))))))[T.length]?=_
        rw [X86 hmn,List.getElem?_set_self hlt3]
    · rintro e T2 (⟨done,o4,o6,o7,o8,o9,hd,rfl,hS2,hT2⟩ | h)
      · have hd:t.marks=done:=by rw [hd]; simp
        rw [← hd] at hT2
        obtain ⟨f',e1,hf',hinj⟩:=Y7x hS2 hT2 hn5 hnd hok
        refine Fw.one (Fw.set (X5 (Z5 (Z6 rfl) Y3) (Q8 rfl e1)) (Fw.nil (.nx ⟨i + 1,f',_,_,_,_,_,_,_,by omega,rfl,hS2.set X81,X1j hmk hTl fun a ha b hb=>(hinj a ha b hb).trans (W0w hf hmk a ha b hb),hf'⟩)))
      · exact h.elim
  · intro e T hor
    obtain ⟨i,f,o2,o4,o5,o6,o7,o8,o9,hl,rfl,hS,hTl,hf⟩:=hor.resolve_right id
    have hi:i=t.marks.length:=by simpa using hl
    subst hi
    refine Fw.set (x := .r T.length) (S1:=T++[.dic (pK [])]) rfl ?_
    refine Fw.for_ (t := .nm 4) (l:=t.marks) (f:=fun a=>X.d (.str a)) (S1:=T++[.dic (pK [])]) (lk := .free) (Z13 (Z1j (Z6 rfl) Z57) Z4l) (fun rest e T2=>∃ (done:List Str) (P:List (Str × Str)) (o4:Option X),t.marks=done++rest∧e=evH t f o2 (some (.r T.length)) o4 o5 o6 o7 o8 o9∧T2=T++[.dic (pK P)]∧P.length ≤ done.length∧∀ v,lk P v=done.find? fun x=>decide (f x=v)) (fun _ _=>False) ⟨[],[],_,rfl,rfl,rfl,Nat.le_refl _,fun v=>rfl⟩ (fun _ _ _ _=>rfl) ?_ ?_
    · rintro m rest e T2 ⟨done,P,o4,hd,rfl,rfl,hPl,hP⟩
      refine ⟨_,rfl,?_⟩
      unfold W82
      have hm:m ∈ t.marks:=by rw [hd]; simp
      have hdl:done.length < t.marks.length:=by rw [hd]; simp
      have hT:(T++[O.dic (pK P)])[T.length]?=some (.dic (pK P)):=by simp
      have hdk:dkX (T++[O.dic (pK P)]) (.r T.length) (.d (.str (f m)))=some (pK P, .str (f m)):=dk_of (Y1y hT) rfl
      have hdis:(Z67 (T++[O.dic (pK P)]) (.r T.length)).isSome=true:=by rw [Y1y hT]; rfl
      have hput:Z8b (T++[O.dic (pK P)]) (.r T.length) (.d (.str (f m)))=some (T.length,pK P, .str (f m)):=X4f hT rfl (by rw [show (pK P).length=P.length by simp [pK],sizeLine_eq]; omega)
      refine Fw.one (Fw.dput (z := .d (.str ((lk P (f m)).getD m))) (Z7z (Z6 rfl) hdis (Z2t (Z6 rfl) (Z6 rfl) (Y11 hm)) (Z6 rfl) (by rw [hdk]; show some ((Z2j (pK P) (.str (f m))).getD (.d (.str m)))=_; rw [X2u])) (Z6 rfl) (Z2t (Z6 rfl) (Z6 rfl) (Y11 hm)) hput (Fw.nil (.nx ⟨done++[m],pt P (f m) ((lk P (f m)).getD m),_,by rw [hd]; simp,rfl,?_,?_,fun v=>?_⟩)))
      · show (T++[O.dic (pK P)]).set T.length (.dic (Z6d (pK P) (.str (f m)) (X.d (.str ((lk P (f m)).getD m)))))=_
        rw [X87,List.set_append_right _ _ (Nat.le_refl _),Nat.sub_self]
        rfl
      · have:=W5r (l:=P) (k:=f m) (v:=(lk P (f m)).getD m)
        rw [List.length_append]
        simp
        omega
      · rw [W0y,List.find?_append,← hP v]
        by_cases c:v=f m
        · rw [if_pos c,c,List.find?_cons,decide_eq_true rfl]
          cases lk P (f m) <;> rfl
        · rw [if_neg c,List.find?_cons,decide_eq_false (fun e=>c e.symm)]
          cases lk P v <;> rfl
    · rintro e T2 (⟨done,P,o4,hd,rfl,rfl,hPl,hP⟩ | h)
      · have hd:t.marks=done:=by rw [hd]; simp
        rw [← hd] at hP
        have hT:(T++[O.dic (pK P)])[T.length]?=some (.dic (pK P)):=by simp
        refine Fw.one (Fw.retP (x := .d (kD (Z29 t f) t.marks)) (S1:=T++[.dic (pK P)]) (X2c (fun a=>X.d (.str a)) (fun a => .str a) (fun a => .str (Z29 t f a)) (Z13 (Z1j (Z6 rfl) Z57) Z4l) hsz (fun a ha=>⟨rfl,hok a ha⟩) (X30 hnd) fun a ha=>⟨_,rfl,Z6 rfl,Z2t (Z6 rfl) (Z2t (Z6 rfl) (Z6 rfl) (Y11 ha)) ?_⟩) Y5 ⟨f,rfl,hTl⟩)
        unfold Z9c
        rw [dk_of (Y1y hT) rfl]
        show Z04 (Z2j (pK P) (.str (f a))) _=_
        obtain ⟨b,_,h1,_,h3⟩:=Y4f (f:=f) ha
        rw [Y7m,hP,h1,h3]
        rfl
      · exact h.elim
end
end Lw
namespace Lw
open PySem PySem.Spec L2 Bv
open PyProof.Rows hiding St
variable [HasW]
def W9c:MS:=(Z9 (Q9 5 6 (Z0 (Z3r (Z1 1) (Y4 ["Row"] "old" (Z1 3)) (Y4 ["Row"] "old" (Z1 3))) (Z0 (Z3r (Z1 1) (Y4 ["Row"] "then" (Z1 3)) (Y4 ["Row"] "then" (Z1 3))) Z7))) (Z0r (U2 (U3 (Y2 eqD (Y4 ["Row"] "word" (Z1 3)) (m_c (.str "give")))) (U3 (Y2 neD (Z1 5) (Y4 ["Tool"] "blank" (Z1 0))))) (W0 (Z1s V8 U4 (Z1 2) (Z0 (Z8 (Y8 4 (Y9 [] (made "Row" mkF Z28))) (Z0 (Y4 ["Row"] "word" (Z1 3)) (Z0 (Z1 5) (Z0 (Z1 6) (Z0 (Y4 ["Row"] "take" (Z1 3)) Z7))))) Z7))) W7))
def me:MS:=(Z9 (X2 1 (Z8 (Y8 1 (Y9 [] (callP g_heads_of))) (Z0 (Z1 0) Z7))) (Z9 (X2 2 (V2 Z7)) (Z9 (Z1f (.nm 3) (V7 (Y4 ["Tool"] "rows" (Z1 0))) W9c) (Z9 (X2 4 (Z14 (.nm 7) (V7 (W1 (Z0 (Y4 ["Tool"] "marks" (Z1 0)) (Z0 (Y4 ["Tool"] "shown" (Z1 0)) (Z0 (Y4 ["Tool"] "asked" (Z1 0)) Z7))))) W8 (Z8 (Y8 1 (Y9 [] (callP g_once_each))) (Z0 (Z14 (.nm 8) (V7 (Z1 7)) W8 (Z0t (Z1 1) (Z1 8)) [8]) Z7)) [7])) (X3 (Z8 (Y8 4 (Y9 [] (made "Tool" mkF Z2f))) (Z0 (V5 (Z1 4) (m_c (.int 0))) (Z0 (V5 (Z1 4) (m_c (.int 1))) (Z0 (V5 (Z1 4) (m_c (.int 2))) (Z0 (Z1 2) Z7))))))))))
theorem W71:Y38=me:=by kernel_rfl
section
variable {t:TQ} {T:Sto} {f g hd:Str→Str} {l:List Str} {m:Str}
theorem W1q {ss:List Str} (hl:ss.length < 100) (hs:∀ a ∈ ss,PyData.strOk a=true):g_once_each [.lst (ss.map D.str)] = .ok (.lst ((Z4d ss).map D.str)):=by
  refine Z51 ?_
  unfold Z8z
  have e1:=X9y (t := .nm 1) (mi:=V7 (Z1 0)) (mk:=Z1 1) (mv:=m_c (.bl true)) (vs:=[1]) (e:=ev0 2 ([D.lst (ss.map D.str)].map X.d)) (S:=[]) (fun a=>X.d (.str a)) (fun a=>a) (l:=ss) (Z13 (Z6 rfl) Y8l) hl hs fun a ha=>⟨_,rfl,Z6 rfl,U0⟩
  rw [List.map_id'] at e1
  refine Fw.one (Fw.retP (x := .d (.lst ((Z4d ss).map D.str))) (S1:=[]) (X5 (Z5 e1 Y3) ?_) Y5 rfl)
  show (if (dkD (Z4d ss)).all (fun p=>Z7n p.1)=true then R.ok (X.d (.lst ((dkD (Z4d ss)).map (·.1)))) [] else .bad)=_
  have h1:(dkD (Z4d ss)).all (fun p=>Z7n p.1)=true:=List.all_eq_true.mpr fun p hp=>by
    obtain ⟨x,hx,rfl⟩:=List.mem_map.mp hp
    exact hs x (Z76.mp hx)
  rw [if_pos h1]
  unfold dkD
  rw [List.map_map]
  rfl
theorem X5t {k:Str}:(dkX T (.d (kD f l)) (.d (.str k))).map (fun p=>(Z2j p.1 p.2).getD (.d (.str k)))=some (.d (.str (if k ∈ l then f k else k))):=by
  have e:dkX T (.d (kD f l)) (.d (.str k))=some ((l.map fun a=>(D.str a,D.str (f a))).map fun p=>(p.1,X.d p.2), .str k):=by
    show (some ((l.map fun a=>(D.str a,D.str (f a))).map fun p=>(p.1,X.d p.2))).bind (fun kvs=>if (D.str k).key?.isSome then some (kvs,D.str k) else none)=_
    rw [Option.bind_some]
    rfl
  rw [e,Option.map_some]
  show some ((Z2j ((l.map fun a=>(D.str a,D.str (f a))).map fun p=>(p.1,X.d p.2)) (.str k)).getD (.d (.str k)))=_
  rw [Z7b (fun p:D × D=>p.1) (fun p=>X.d p.2) (.str k)]
  by_cases c:k ∈ l
  · have h:=X28 (f:=f) c
    unfold Z2j at h
    obtain ⟨p,h3,h4⟩:=Option.map_eq_some_iff.mp h
    rw [if_pos c,h3,Option.map_some,h4]
    rfl
  · rw [if_neg c]
    have:((l.map fun a=>(D.str a,D.str (f a))).find? fun a=>decide (a.1=D.str k))=none:=by
      rw [List.find?_eq_none]
      intro x hx
      obtain ⟨a,ha,rfl⟩:=List.mem_map.mp hx
      simp only [decide_eq_true_eq]
      exact fun e=>c ((Z44 _ _ e) ▸ ha)
    rw [this]
    rfl
theorem Y4c:(Z67 T (.d (kD f l))).isSome=true:=rfl
theorem W7m (h:Hd t hd) {k:Str}:(if k ∈ t.marks then hd k else k)=hd k:=by
  split
  · rfl
  · rename_i c; rw [h.out k c]
theorem X57 (h:Hd t hd) {k:Str}:(dkX T (.d (kD hd t.marks)) (.d (.str k))).map (fun p=>(Z2j p.1 p.2).getD (.d (.str k)))=some (.d (.str (hd k))):=by rw [X5t,W7m h]
theorem W5k (h:Hd t hd) (hk:t.Ok):(mgS t hd).Perm (mg t hd).sh:=by
  refine (List.perm_ext_iff_of_nodup Y45 ((List.nodup_cons.mp (W04 h)).2.filter _)).mpr fun x=>?_
  constructor
  · intro hx
    unfold mgS at hx
    obtain ⟨a,ha,rfl⟩:=List.mem_map.mp (Z76.mp hx)
    exact (X9c h hk (List.mem_cons_of_mem _ (hk.sh.subset ha))).mpr ha
  · intro hx
    exact of_decide_eq_true (List.mem_filter.mp hx).2
theorem W5j (h:Hd t hd) (hk:t.Ok):(mgA t hd).Perm (mg t hd).as:=by
  refine (List.perm_ext_iff_of_nodup Y45 ((show (mgM t hd).Nodup from Y45).filter _)).mpr fun x=>?_
  constructor
  · intro hx
    unfold mgA at hx
    obtain ⟨a,ha,rfl⟩:=List.mem_map.mp (Z76.mp hx)
    exact (X7w h hk (hk.as.subset ha)).mpr ha
  · intro hx
    exact of_decide_eq_true (List.mem_filter.mp hx).2
theorem X5n:Z0i ["Tool"] "rows" T (.d t.D)=some (.d (.tup (t.rows.map Z3d))):=by rfl
theorem X1z:Z0i ["Tool"] "shown" T (.d t.D)=some (.d (.tup (t.sh.map D.str))):=by rfl
theorem X1y:Z0i ["Tool"] "asked" T (.d t.D)=some (.d (.tup (t.as.map D.str))):=by rfl
theorem Y5w (hk:t.Ok):∃ f,g_merged [t.D] = .ok (mg t (Z29 t f)).D∧Y0s t t.marks.length f:=by
  obtain ⟨f,e1,hf⟩:=X58 hk
  have h:=Y4g hk hf
  refine ⟨f,?_,hf⟩
  generalize Z29 t f=hd at e1 h ⊢
  have hq:=W05 h hk
  have hn5:t.marks.length ≤ 5:=by have:=hk.few; show t.ms.length + 1 ≤ 5; omega
  have hrl:=hk.len
  have hok:=X3b hk
  refine Z51 ?_
  rw [W71]
  unfold me
  refine Fw.set (X5 (Z5 (Z6 rfl) Y3) (Q8 rfl (Y0v e1))) ?_
  refine Fw.set (x := .r 0) (S1:=[.lst []]) (Z94 Y3 (hz4 (by simp))) ?_
  refine Fw.for_ (l:=t.rows) (f:=fun r=>X.d (Z3d r)) (S1:=[.lst []]) (lk := .free) (Z13 (Z1j (Z6 rfl) X5n) Z4l) (fun rest e T=>∃ (done:List Z16) (o3 o5 o6:Option X),t.rows=done++rest∧e=[some (.d t.D),some (.d (kD hd t.marks)),some (.r 0),o3,none,o5,o6,none,none]∧T=[.lst (((done.map (Z8m hd)).map Z3d).map X.d)]) (fun _ _=>False) ⟨[],none,none,none,rfl,rfl,rfl⟩ (fun _ _ _ _=>rfl) ?_ ?_
  · rintro r rest e T ⟨done,o3,o5,o6,hd',rfl,rfl⟩
    refine ⟨_,rfl,?_⟩
    unfold W9c
    have hr:r ∈ t.rows:=by rw [hd']; simp
    have hdl:done.length < t.rows.length:=by rw [hd']; simp
    have hr2:Z8m hd r ∈ (mg t hd).rows:=List.mem_map.mpr ⟨r,hr,rfl⟩
    have hro:=(hq.rows _ hr2).ok hq.names
    have ao:∀ T:Sto,Z0i ["Row"] "old" T (.d (Z3d r))=some (.d (.str r.2.1)):=fun _=>Y8s
    have at':∀ T:Sto,Z0i ["Row"] "then" T (.d (Z3d r))=some (.d (.str r.2.2.1)):=fun _=>Y61
    refine Fw.par (Z5 (Z7z (Z6 rfl) Y4c (Z1j (Z6 rfl) (ao _)) (Z1j (Z6 rfl) (ao _)) (X57 h)) (Z5 (Z7z (Z6 rfl) Y4c (Z1j (Z6 rfl) (at' _)) (Z1j (Z6 rfl) (at' _)) (X57 h)) Y3)) ?_
    have hb:(decide (r.1 = "give") || !decide (hd r.2.1=t.m0))=true:=by
      by_cases c:r.1 = "give"
      · rw [decide_eq_true c]; rfl
      · have h2:=((hk.rows r hr).2.2.2 c).2
        have h3:hd r.2.1 ≠ t.m0:=by
          rcases List.mem_cons.mp h2 with e | h2
          · rw [e,h.out _ (Z82 hk)]
            exact fun z=>Z82 hk (by rw [z]; simp)
          · intro z
            have:=(Z4r h (List.mem_cons_of_mem _ h2)).mp z
            exact (List.nodup_cons.mp hk.nd).1 (this ▸ h2)
        rw [decide_eq_false h3]
        simp
    have hif:U2 (U3 (Y2 eqD (Y4 ["Row"] "word" (Z1 3)) (m_c (.str "give")))) (U3 (Y2 neD (Z1 5) (Y4 ["Tool"] "blank" (Z1 0)))) [some (.d t.D),some (.d (kD hd t.marks)),some (.r 0),some (.d (Z3d r)),none,some (.d (.str (hd r.2.1))),some (.d (.str (hd r.2.2.1))),none,none] [.lst (((done.map (Z8m hd)).map Z3d).map X.d)] = .ok true [.lst (((done.map (Z8m hd)).map Z3d).map X.d)]:=by
      rw [← hb]
      exact X75 (Z1z (W2 (Z1j (Z6 rfl) Y36) U0 Y5 Y5 Z2n)) fun _=>Z1z (W2 (Z6 rfl) (Z1j (Z6 rfl) Z56) Y5 Y5 Z50)
    have hS:OkS [O.lst (((done.map (Z8m hd)).map Z3d).map X.d)]:=Y0d.push (Y1b _)
    have mk:=X3a hS hro
    have st0:[O.lst (((done.map (Z8m hd)).map Z3d).map X.d)][0]?=some (.lst (((done.map (Z8m hd)).map Z3d).map X.d)):=rfl
    refine Fw.one (Fw.if_ (b:=true) hif (Fw.ift (Fw.expr (x := .d .non) (S1:=[.lst ((((done++[r]).map (Z8m hd)).map Z3d).map X.d)]) (Y21 (Z6 rfl) (Z5q st0) (Z5 (X5 (Z5 (Z1j (Z6 rfl) Y36) (Z5 (Z6 rfl) (Z5 (Z6 rfl) (Z5 (Z1j (Z6 rfl) X1x) Y3)))) (Q8 rfl mk)) Y3) ((Y1k st0 (by simp only [List.length_map]; rw [sizeLine_eq]; omega)).trans ?_)) (Fw.nil (.nx ⟨done++[r],_,_,_,by rw [hd']; simp,rfl,rfl⟩)))))
    simp [Z3d,Z8m]
  · intro e T hor
    obtain ⟨done,o3,o5,o6,hd',rfl,rfl⟩:=hor.resolve_right id
    have hd':t.rows=done:=by rw [hd']; simp
    subst hd'
    let S0:Sto:=[.lst (((t.rows.map (Z8m hd)).map Z3d).map X.d)]
    have hS:OkS S0:=Y0d.push (Y1b _)
    have e2:Z14 (.nm 7) (V7 (W1 (Z0 (Y4 ["Tool"] "marks" (Z1 0)) (Z0 (Y4 ["Tool"] "shown" (Z1 0)) (Z0 (Y4 ["Tool"] "asked" (Z1 0)) (Z7)))))) (W8) (Z8 (Y8 1 (Y9 [] (callP g_once_each))) (Z0 (Z14 (.nm 8) (V7 (Z1 7)) (W8) (Z0t (Z1 1) (Z1 8)) [8]) (Z7))) [7] [some (.d t.D),some (.d (kD hd t.marks)),some (.r 0),o3,none,o5,o6,none,none] S0 = .ok (.d (.lst [tls (mgM t hd),tls (mgS t hd),tls (mgA t hd)])) S0:=by
      refine Z4f (fun (l:List Str)=>X.d (.tup (l.map D.str))) (fun (l:List Str)=>tls (Z4d (l.map hd))) (l:=[t.marks,t.sh,t.as]) ?_ (hz4 (by simp)) fun l hl=>⟨_,rfl,?_⟩
      · exact Z13 (Z12 (ds:=[.tup (t.marks.map D.str), .tup (t.sh.map D.str), .tup (t.as.map D.str)]) (Z5 (Z1j (Z6 rfl) Z57) (Z5 (Z1j (Z6 rfl) X1z) (Z5 (Z1j (Z6 rfl) X1y) Y3))) rfl (hz4 (by simp))) rfl
      · have hsub:(∀ a ∈ l,a ∈ t.marks)∧l.length ≤ 5:=by
          simp only [List.mem_cons,List.not_mem_nil,or_false] at hl
          rcases hl with rfl | rfl | rfl
          · exact ⟨fun _ h=>h,hn5⟩
          · refine ⟨fun a ha=>List.mem_cons_of_mem _ (hk.sh.subset ha),?_⟩
            have h1:=hk.sh.length_le
            have h2:=hk.few
            omega
          · refine ⟨fun a ha=>hk.as.subset ha,?_⟩
            have h1:=hk.as.length_le
            exact Nat.le_trans h1 hn5
        have e3:=Z4f (t := .nm 8) (mi:=V7 (Z1 7)) (me:=Z0t (Z1 1) (Z1 8)) (vs:=[8]) (S:=S0) (e:=[some (.d t.D),some (.d (kD hd t.marks)),some (.r 0),o3,none,o5,o6,some (.d (.tup (l.map D.str))),none]) (fun a=>X.d (.str a)) (fun a=>D.str (hd a)) (l:=l) (Z13 (Z6 rfl) Z4l) (hz4 (by omega)) fun a ha=>⟨_,rfl,Z2t (Z6 rfl) (Z6 rfl) (Y11 (hsub.1 a ha))⟩
        have e4:l.map (fun a=>D.str (hd a))=(l.map hd).map D.str:=by rw [List.map_map]; rfl
        rw [e4] at e3
        refine X5 (Z5 e3 Y3) (Q8 rfl (Y0v (W1q (by rw [List.length_map]; omega) fun a ha=>?_)))
        obtain ⟨b,hb,rfl⟩:=List.mem_map.mp ha
        exact hok _ (h.mem b (hsub.1 b hb))
    refine Fw.set e2 ?_
    have ti:=Y6r (S:=S0) (x := .r 0) hS hq (W5k h hk) (W5j h hk) fun fs=>⟨_,W9i rfl⟩
    have i0:∀ {a b c:D},ixO S0 (.d (.lst [a,b,c])) 0=some (.d a):=fun {a b c}=>rfl
    have i1:∀ {a b c:D},ixO S0 (.d (.lst [a,b,c])) 1=some (.d b):=fun {a b c}=>rfl
    have i2:∀ {a b c:D},ixO S0 (.d (.lst [a,b,c])) 2=some (.d c):=fun {a b c}=>rfl
    have em:tls (mgM t hd)=tls ((mg t hd).m0 :: (mg t hd).ms):=congrArg tls (Y0n h)
    rw [em]
    exact Fw.one (Fw.retP (X5 (Z5 (Z0a (Z6 rfl) U0 i0) (Z5 (Z0a (Z6 rfl) U0 i1) (Z5 (Z0a (Z6 rfl) U0 i2) (Z5 (Z6 rfl) Y3)))) (Q8 rfl ti)) Y5 rfl)
end
end Lw
namespace Lw
open PySem PySem.Spec L2 Bv
open PyProof.Rows hiding St
variable [HasW]
def W87:MS:=(Z0r (W4 (U3 (Y2 eqD (Z1 4) (Z1 1))) (U3 (Y2 inD (Z1 5) (W1 (Z0 (m_c (.str "any")) (Z0 (Z1 2) Z7)))))) (Z9 (X2 8 (Z1q (U3 (Y2 eqD (Z1 6) (m_c (.str "same")))) (Z1 2) (Z1 6))) (Z9 (Z0r (W4 (U3 (Y2 eqD (Z1 1) (m_c (.str "give")))) (W4 (X7 (Y7 (Z1 7))) (U3 (Y2 eqD (Z1 2) (V5 (V5 (Z1 0) (m_c (.int 0))) (m_c (.int 0))))))) (X2 8 (Z1 2)) W7) (V4 (Z0 (Z1 8) (Z0 (Q0 (Y2 eqD (Z1 1) (m_c (.str "give"))) (Q0 (Z1 7) (Y2 neD (Z1 8) (V5 (V5 (Z1 0) (m_c (.int 0))) (m_c (.int 0)))))) (Z0 (Z1 3) Z7)))))) W7)
def lb:MS:=(Z9 (Z0r (W4 (U3 (Y2 eqD (Z1 2) (V5 (V5 (Z1 0) (m_c (.int 0))) (m_c (.int 0))))) (U3 (Y2 neD (Z1 1) (m_c (.str "give"))))) (V4 (Z0 (Z1 2) (Z0 (m_c (.bl false)) (Z0 (m_c .non) Z7)))) W7) (Z9 (Z1f (.tp [(.nm 3),(.tp [(.nm 4),(.nm 5),(.nm 6),(.nm 7)])]) (Z4z (Z0 (V5 (Z1 0) (m_c (.int 3))) (Z7))) W87) (V4 (Z0 (Z1q (U3 (Y2 eqD (Z1 1) (m_c (.str "carry")))) (V5 (V5 (Z1 0) (m_c (.int 0))) (m_c (.int 0))) (Z1 2)) (Z0 (m_c (.bl false)) (Z0 (m_c .non) Z7))))))
theorem W7t:Z4o=lb:=by kernel_rfl
def TQ.L (t:TQ):Bv.D:=Z5n t.m0 t.ms t.sh t.as t.rows
def wbD (x:Str × Bool) (o:Bv.D):Bv.D := .tup [.str x.1, .bl x.2,o]
section
variable {p q t:TQ} {T:Sto} {m w m0:Str} {ms sh as:List Str} {rows:List Z16}
theorem W4d {l:List Str}:ixO T (.d (Z52 (m0 :: l))) 0=some (.d (.str m0)):=by
  show ixO T (.d (.tup (D.str m0 :: l.map D.str))) 0=_
  have it:Bv.items T (.d (.tup (D.str m0 :: l.map D.str)))=some ((D.str m0 :: l.map D.str).map X.d):=rfl
  unfold ixO
  rw [it]
  simp [atI,ixN]
theorem W39 {a:Str}:inD (.str a) (.tup [.str "any", .str m])=some (.bl (decide (a = "any") || decide (a=m))):=by
  have h:=Z8j (s:=a) (ss:=["any",m])
  rw [show (["any",m]:List Str).map D.str=[.str "any", .str m] from rfl] at h
  rw [h]
  congr 2
  by_cases h1:a = "any" <;> by_cases h2:a=m <;> simp [h1,h2]
abbrev nmR (p:Nat × Z16):X := .d (.tup [.int (p.1:Nat),Z61 p.2])
theorem X61 (rows:List Z16):Bv.numbered (rows.map Z61)=(((List.range rows.length).zip rows).map nmR):=by
  unfold Bv.numbered
  rw [List.length_map,List.zipWith_map_right,List.map_zip_eq_zipWith]
  rfl
theorem W3a {α:Type} (l:List α):((List.range l.length).zip l).map (·.2)=l:=by
  rw [List.map_snd_zip]
  rw [List.length_range]; exact Nat.le_refl _
theorem W3y {r:Z16}:doQ m0 w m (some r)=if m=m0∧r.2.2.2=false then (m,false) else (if r.2.2.1 = "same" then m else r.2.2.1,decide (w = "give") && (r.2.2.2 && decide ((if r.2.2.1 = "same" then m else r.2.2.1) ≠ m0))):=rfl
abbrev evB (t:TQ) (w m:Str) (o3 o4 o5 o6 o7 o8:Option X):Ev:=[some (.d t.L),some (.d (.str w)),some (.d (.str m)),o3,o4,o5,o6,o7,o8]
theorem W6n (hl:t.rows.length ≤ 20):∃ o,g__law_becomes [t.L, .str w, .str m] = .ok (wbD (t.bec w m) o):=by
  suffices h:Fw (Z4o (ev0 9 ([t.L, .str w, .str m].map X.d)) []) (fun r=>∃ o,Z24 r = .ok (wbD (t.bec w m) o)) from h
  have z3:3 ≤ sizeLine:=hz4 (by decide)
  have z2:2 ≤ sizeLine:=hz4 (by decide)
  rw [W7t]
  unfold lb
  refine Fw.if_ (b:=decide (m=t.m0) && !decide (w = "give")) (Y4e (Z1z (W2 (Z6 rfl) (Z0a (Z0a (Z6 rfl) U0 X0j) U0 W4d) Y5 Y5 Z2n)) fun _=>Z1z (W2 (Z6 rfl) U0 Y5 Y5 Z50)) (Fw.ifc (fun hc=>?_) fun hc=>?_)
  · have hc:m=t.m0∧w ≠ "give" := by simpa using hc
    refine Fw.retT (ds:=[.str m, .bl false, .non]) (Z5 (Z6 rfl) (Z5 U0 (Z5 U0 Y3))) rfl z3 ⟨.non,?_⟩
    unfold TQ.bec Y6w
    rw [if_pos hc]
    show PR.ok (D.tup [.str m, .bl false, .non]) = .ok (D.tup [.str (if w = "carry" then t.m0 else m), .bl false, .non])
    rw [hc.1,ite_self]
  refine Fw.seqNil ?_
  have hne:¬ (m=t.m0∧w ≠ "give"):=by simpa using hc
  have hb:t.bec w m=doQ t.m0 w m (t.rows.find? (Z59 w m)):=by
    unfold TQ.bec Y6w
    rw [if_neg hne]
  rw [hb]
  have hi:Z4z (Z0 (V5 (Z1 0) (m_c (.int 3))) (Z7)) (evB t w m none none none none none none) [] = .ok (((List.range t.rows.length).zip t.rows).map nmR, .free) []:=by
    have a:=X17 (Z0a (S:=[]) (e:=evB t w m none none none none none none) (Z6 (i:=0) rfl) U0 W6r) (show Z7 (evB t w m none none none none none none) [] = .ok [] [] from rfl)
    unfold Z4z
    rw [a]
    show Z04 (some (Bv.numbered (t.rows.map Z61),Lk.free)) []=_
    rw [X61]
    rfl
  refine Fw.for_ (f:=nmR) (lk := .free) hi (fun l e S=>S=[]∧∃ o3 o4 o5 o6 o7 o8,e=evB t w m o3 o4 o5 o6 o7 o8∧t.rows.find? (Z59 w m)=(l.map (·.2)).find? (Z59 w m)) (fun _ _=>False) ⟨rfl,_,_,_,_,_,_,rfl,by rw [W3a]⟩ (fun _ _ _ _=>rfl) ?_ ?_
  · rintro ⟨i,r⟩ l e S ⟨rfl,o3,o4,o5,o6,o7,o8,rfl,hf⟩
    refine ⟨evB t w m (some (.d (.int i))) (some (.d (.str r.1))) (some (.d (.str r.2.1))) (some (.d (.str r.2.2.1))) (some (.d (.bl r.2.2.2))) o8,rfl,?_⟩
    unfold W87
    have hf:t.rows.find? (Z59 w m)=(r :: l.map (·.2)).find? (Z59 w m):=hf
    rw [List.find?_cons] at hf
    refine Fw.one (Fw.if_ (b:=Z59 w m r) (Y4e (Z1z (W2 (Z6 rfl) (Z6 rfl) Y5 Y5 Z2n)) fun _=>Z1z (W2 (Z6 rfl) (Z12 (Z5 U0 (Z5 (Z6 rfl) Y3)) rfl z2) Y5 Y5 W39)) (Fw.ifc (fun hc=>?_) fun hc=>?_))
    · rw [hc] at hf
      have hf:t.rows.find? (Z59 w m)=some r:=hf
      rw [hf]
      refine Fw.seqSeq ?_
      refine Fw.set (x := .d (.str (if r.2.2.1 = "same" then m else r.2.2.1))) (S1:=[]) (Y69 (Z1z (W2 (Z6 rfl) U0 Y5 Y5 Z2n)) ?_) ?_
      · by_cases c:r.2.2.1 = "same"
        · rw [decide_eq_true c,if_pos c]
          exact kt (Z6 rfl)
        · rw [decide_eq_false c,if_neg c]
          exact kf (Z6 rfl)
      generalize hz:(if r.2.2.1 = "same" then m else r.2.2.1)=z
      refine Fw.seqSeq ?_
      refine Fw.if_ (b:=decide (w = "give") && (!r.2.2.2 && decide (m=t.m0))) (Y4e (Z1z (W2 (Z6 rfl) U0 Y5 Y5 Z2n)) fun _=>Y4e (X2r (Y04 (Z6 rfl) Z74)) fun _=>Z1z (W2 (Z6 rfl) (Z0a (Z0a (Z6 rfl) U0 X0j) U0 W4d) Y5 Y5 Z2n)) (Fw.ifc (fun hk=>?_) fun hk=>?_)
      · have hk:w = "give" ∧ r.2.2.2=false∧m=t.m0:=by simpa using hk
        refine Fw.set (Z6 rfl) ?_
        refine Fw.retT (S1:=[]) (ds:=[.str m, .bl false, .int i]) (Z5 (Z6 rfl) (Z5 (x := .d (.bl false)) ?_ (Z5 (Z6 rfl) Y3))) rfl z3 (.rp ⟨.int i,?_⟩)
        · refine Y83 (W2 (Z6 rfl) U0 Y5 Y5 Z2n) Z74 ?_
          rw [decide_eq_true hk.1]
          refine kt (Y83 (b:=false) (Z6 (x := .d (.bl false)) (by rw [← hk.2.1]; rfl)) Z74 (kf rfl))
        · rw [W3y,if_pos ⟨hk.2.2,hk.2.1⟩]
          rfl
      · have hk:¬ (m=t.m0∧r.2.2.2=false):=fun c=>by
          have hw:w = "give" := Decidable.byContradiction fun z=>hne ⟨c.1,z⟩
          rw [decide_eq_true hw,c.2,decide_eq_true c.1] at hk
          cases hk
        refine Fw.seqNil ?_
        refine Fw.retT (S1:=[]) (ds:=[.str z, .bl (decide (w = "give") && (r.2.2.2 && !decide (z=t.m0))), .int i]) (Z5 (Z6 rfl) (Z5 (Y83 (W2 (Z6 rfl) U0 Y5 Y5 Z2n) Z74 (X8j fun _=>Y83 (Z6 rfl) Z74 (X8j fun _=>W2 (Z6 rfl) (Z0a (Z0a (Z6 rfl) U0 X0j) U0 W4d) Y5 Y5 Z50))) (Z5 (Z6 rfl) Y3))) rfl z3 (.rp ⟨.int i,?_⟩)
        rw [W3y,if_neg hk,hz]
        show PR.ok _=PR.ok (D.tup [.str z, .bl (decide (w = "give") && (r.2.2.2 && decide (z ≠ t.m0))), .int i])
        rw [decide_not]
    · rw [hc] at hf
      have hf:t.rows.find? (Z59 w m)=(l.map (·.2)).find? (Z59 w m):=hf
      exact Fw.seqNil (Fw.nil (.nx ⟨rfl,_,_,_,_,_,_,rfl,hf⟩))
  · rintro e S (⟨rfl,o3,o4,o5,o6,o7,o8,rfl,hf⟩ | h)
    · have hf:t.rows.find? (Z59 w m)=none:=hf
      rw [hf]
      refine Fw.one (Fw.retT (S1:=[]) (ds:=[.str (if w = "carry" then t.m0 else m), .bl false, .non]) (Z5 (x := .d (.str (if w = "carry" then t.m0 else m))) (Y69 (Z1z (W2 (Z6 rfl) U0 Y5 Y5 Z2n)) ?_) (Z5 U0 (Z5 U0 Y3))) rfl z3 ⟨.non,rfl⟩)
      by_cases c:w = "carry"
      · rw [decide_eq_true c,if_pos c]
        exact kt (Z0a (Z0a (Z6 rfl) U0 X0j) U0 W4d)
      · rw [decide_eq_false c,if_neg c]
        exact kf (Z6 rfl)
    · exact h.elim
end
end Lw
namespace Lw
open PySem PySem.Spec L2 Bv
open PyProof.Rows hiding St
variable [HasW]
section
variable {t:TQ} {hd hd2:Str→Str}
theorem X3h (h:Hd t hd) {a:Str} (ha:a ∈ t.marks):hd (hd a)=hd a:=h.same (hd a) (h.mem a ha) a ha fun k=>(h.eqv a ha k).symm
theorem Y2b (h:Hd t hd) {a:Str} (ha:a ∈ (mg t hd).marks):a ∈ t.marks∧hd a=a:=by
  rw [Z9i h] at ha
  obtain ⟨b,hb,rfl⟩:=Y2a.mp ha
  exact ⟨h.mem b hb,X3h h hb⟩
theorem W4x (h:Hd t hd) (hk:t.Ok) {a b:Str} (ha:a ∈ (mg t hd).marks) (hb:b ∈ (mg t hd).marks) (e:∀ k,eqv (mg t hd) (mg t hd) k a b):a=b:=by
  obtain ⟨a1,a2⟩:=Y2b h ha
  obtain ⟨b1,b2⟩:=Y2b h hb
  have ea:∀ k,eqv t (mg t hd) k a a:=fun k=>by
    have:=Y07 h hk (k:=k) a1
    rwa [a2] at this
  have eb:∀ k,eqv t (mg t hd) k b b:=fun k=>by
    have:=Y07 h hk (k:=k) b1
    rwa [b2] at this
  have:=h.same a a1 b b1 fun k=>((ea k).trans (e k)).trans (eb k).symm
  rwa [a2,b2] at this
theorem W7l (h:Hd t hd) (hk:t.Ok) (h2:Hd (mg t hd) hd2):hd2=id:=by
  funext a
  by_cases ha:a ∈ (mg t hd).marks
  · exact W4x h hk (h2.mem a ha) ha fun k=>(h2.eqv a ha k).symm
  · exact h2.out a ha
theorem Y8m {l:List Str} {x:Str} (h:x ∉ l):Y0t l x=l++[x]:=by
  unfold Y0t
  rw [if_neg h]
theorem Y9c:∀ {ws ks:List Str},(ks++ws).Nodup→ws.foldl Y0t ks=ks++ws
  | [],ks,_=>by simp
  | w :: ws,ks,h=>by
    have hn:w ∉ ks:=fun z=>by
      have:=(List.nodup_append.mp h).2.2 w z w List.mem_cons_self
      exact this rfl
    rw [List.foldl_cons,Y8m hn,Y9c (ws:=ws) (ks:=ks++[w]) (by rw [List.append_assoc]; exact h),List.append_assoc]
    rfl
theorem Y2z {l:List Str} (h:l.Nodup):Z4d l=l:=Y9c (ks:=[]) h
theorem Y05 {s l:List Str} (h:s.Sublist l) (hn:l.Nodup):l.filter (fun x=>decide (x ∈ s))=s:=by
  induction h with
  | slnil=>rfl
  | @cons s l a h ih =>
    have h2:=List.nodup_cons.mp hn
    rw [List.filter_cons_of_neg (by simpa using fun z=>h2.1 (h.subset z))]
    exact ih h2.2
  | @cons_cons s l a h ih =>
    have h2:=List.nodup_cons.mp hn
    rw [List.filter_cons_of_pos (by simp)]
    congr 1
    rw [← ih h2.2]
    refine List.filter_congr fun x hx=>?_
    have hne:x ≠ a:=fun z=>h2.1 (z ▸ hx)
    rw [ih h2.2]
    simp [hne]
theorem W75 {q:TQ} (hk:q.Ok):mg q id=q:=by
  have hn:=hk.nd
  have e1:mgM q id=q.marks:=by
    unfold mgM
    rw [List.map_id]
    exact Y2z hn
  have e2:mgS q id=q.sh:=by
    unfold mgS
    rw [List.map_id]
    exact Y2z (hk.sh.nodup (List.nodup_cons.mp hn).2)
  have e3:mgA q id=q.as:=by
    unfold mgA
    rw [List.map_id]
    exact Y2z (hk.as.nodup hn)
  have e4:q.rows.map (Z8m id)=q.rows:=by
    conv=>rhs; rw [← List.map_id q.rows]
    exact List.map_congr_left fun r _=>rfl
  show TQ.mk q.m0 (mgM q id).tail ((mgM q id).tail.filter fun x=>decide (x ∈ mgS q id)) ((mgM q id).filter fun x=>decide (x ∈ mgA q id)) (q.rows.map (Z8m id))=q
  rw [e1,e2,e3,e4]
  show TQ.mk q.m0 q.ms (q.ms.filter fun x=>decide (x ∈ q.sh)) (q.marks.filter fun x=>decide (x ∈ q.as)) q.rows=q
  rw [Y05 hk.sh (List.nodup_cons.mp hn).2,Y05 hk.as hn]
theorem X6m (h:Hd t hd) (hk:t.Ok) (h2:Hd (mg t hd) hd2):mg (mg t hd) hd2=mg t hd:=by
  rw [W7l h hk h2]
  exact W75 (W05 h hk)
end
end Lw
namespace Lw
open PySem PySem.Spec L2 Bv
open PyProof.Rows hiding St
variable [HasW]
def W88:MS:=(Z42 (Z1 1) (Z1 2) (W1 (Z0 (Y2 eqD (Z1 2) (V5 (V5 (Z1 0) (m_c (.int 0))) (m_c (.int 0)))) (Z0 (Y2 inD (Z1 2) (V5 (Z1 0) (m_c (.int 1)))) (Z0 (Y2 inD (Z1 2) (V5 (Z1 0) (m_c (.int 2)))) Z7)))))
def X8o:MS:=(Z9 (X2 6 (Z14 (.nm 7) (V7 (W1 (Z0 (m_c (.str "give")) (Z0 (m_c (.str "carry")) (Z0 (m_c (.str "drop")) (Z0 (m_c (.str "back")) (Z0 (m_c (.str "right")) (Z0 (m_c (.str "wrong")) Z7)))))))) W8 (Z8 (Y8 3 (Y9 [] (callP g__law_becomes))) (Z0 (Z1 0) (Z0 (Z1 7) (Z0 (Z1 2) Z7)))) [7])) (Z42 (Z1 4) (Z1 2) (Y2 Z4e (W1 (Z0 (Z0t (Z1 1) (Z1 2)) Z7)) (Z8 Z75 (Z0 (Z14 (.tp [(.nm 8),(.nm 9),(.nm 10)]) (V7 (Z1 6)) W8 (W1 (Z0 (Z0t (Z1 1) (Z1 8)) (Z0 (Z1 9) Z7))) [8,9,10]) Z7)))))
def X8p:MS:=(Z9l (Z1 5) (Z0t (Z1 4) (Z1 2)) (Z7h (Z1 5) (Z0t (Z1 4) (Z1 2)) (Z1 2)))
def W89:MS:=(Z9 (X2 4 Z5d) (Z9 (Z1f (.nm 2) (V7 (V5 (Z1 0) (m_c (.int 0)))) X8o) (Z9 (X2 5 Y2e) (Z9 (Z1f (.nm 2) (V7 (V5 (Z1 0) (m_c (.int 0)))) X8p) (X2 1 (Z8 Z96 (Z0 (Z14 (.nm 2) (V7 (V5 (Z1 0) (m_c (.int 0)))) W8 (W1 (Z0 (Z1 2) (Z0 (Z72 (Z1 5) (Z0t (Z1 4) (Z1 2))) Z7))) [2]) Z7)))))))
def lh:MS:=(Z9 (X2 1 Z5d) (Z9 (Z1f (.nm 2) (V7 (V5 (Z1 0) (m_c (.int 0)))) W88) (Z9 (Z1f (.nm 3) (Z5p (Z0 (Z8 Z1d (Z0 (V5 (Z1 0) (m_c (.int 0))) (Z7))) (Z7))) W89) (X3 (W4p (Z1 1))))))
theorem W7w:Z64=lh:=by kernel_rfl
section
variable {t:TQ} {F:Str→Bv.D} {K:Str→NestedKey} {n:Nat} {a b:Str} {f:Str→Str}
def LFd (t:TQ) (F:Str→Bv.D) (a:Str):Bv.D := .tup (F a :: W6.map fun w => .tup [F (t.bec w a).1, .bl (t.bec w a).2])
def LKd (t:TQ) (K:Str→NestedKey) (a:Str):NestedKey := .tup (K a :: W6.map fun w => .tup [K (t.bec w a).1, .num (if (t.bec w a).2=true then 1 else 0)])
def FK (t:TQ) (F:Str→Bv.D) (K:Str→NestedKey):Prop:=∀ a ∈ t.marks,Z9n 7 (F a)=some (K a)∧Z9n 6 (F a)=some (K a)∧(K a).depth ≤ 1
def X9l (t:TQ) (n:Nat) (K:Str→NestedKey):Prop:=∀ a ∈ t.marks,∀ b ∈ t.marks,K a=K b ↔ eqv t t n a b
omit [HasW] in
theorem nk7 {x:Bv.D} {k:NestedKey} {c:Bool} (h:Z9n 6 x=some k):Z9n 7 (.tup [x, .bl c])=some (.tup [k, .num (if c=true then 1 else 0)]):=by
  show (Y0z (Z9n 6) [x, .bl c]).map NestedKey.tup=_
  simp only [Y0z]
  rw [h]
  rfl
omit [HasW] in
theorem nkL {α:Type} {g:Bv.D→Option NestedKey} {x:α→Bv.D} {k:α→NestedKey}:∀ {l:List α},(∀ a ∈ l,g (x a)=some (k a))→Y0z g (l.map x)=some (l.map k)
  | [],_=>rfl
  | a :: l,h=>by
    rw [List.map_cons,List.map_cons]
    simp only [Y0z]
    rw [h a (by simp),nkL fun b hb=>h b (List.mem_cons_of_mem _ hb)]
omit [HasW] in
theorem X9z {l:List NestedKey} {m:Nat} (h:∀ k ∈ l,k.depth ≤ m):NestedKey.depthAll l ≤ m:=by
  induction l with
  | nil=>simp [NestedKey.depthAll]
  | cons k l ih =>
    have h1:=h k (by simp)
    have h2:=ih fun x hx=>h x (List.mem_cons_of_mem _ hx)
    simp only [NestedKey.depthAll]
    omega
omit [HasW] in
theorem X1u (hm:∀ w,∀ a ∈ t.marks,(t.bec w a).1 ∈ t.marks) (h:FK t F K) (ha:a ∈ t.marks):(LKd t K a).depth ≤ 8:=by
  have h1:=(h a ha).2.2
  have h2:NestedKey.depthAll (W6.map fun w=>NestedKey.tup [K (t.bec w a).1, .num (if (t.bec w a).2=true then 1 else 0)]) ≤ 2:=X9z fun k hk=>by
    obtain ⟨w,_,rfl⟩:=List.mem_map.mp hk
    have h3:=(h _ (hm w a ha)).2.2
    simp only [NestedKey.depth,NestedKey.depthAll]
    omega
  unfold LKd
  simp only [NestedKey.depth,NestedKey.depthAll]
  omega
omit [HasW] in
theorem X9k (hm:∀ w,∀ a ∈ t.marks,(t.bec w a).1 ∈ t.marks) (h:FK t F K) (ha:a ∈ t.marks):(LFd t F a).nkey?=some (LKd t K a):=by
  have e:Z9n 8 (LFd t F a)=some (LKd t K a):=by
    show (Y0z (Z9n 7) (F a :: W6.map fun w=>Bv.D.tup [F (t.bec w a).1, .bl (t.bec w a).2])).map NestedKey.tup=_
    simp only [Y0z]
    rw [(h a ha).1,nkL (g:=Z9n 7) (x:=fun w=>Bv.D.tup [F (t.bec w a).1, .bl (t.bec w a).2]) (k:=fun w=>NestedKey.tup [K (t.bec w a).1, .num (if (t.bec w a).2=true then 1 else 0)]) fun w _=>nk7 (h _ (hm w a ha)).2.1]
    rfl
  show (Z9n 8 (LFd t F a)).bind (fun k=>if decide (k.depth ≤ 8) then some k else none)=_
  rw [e]
  show (if decide ((LKd t K a).depth ≤ 8)=true then some (LKd t K a) else none)=_
  rw [if_pos (decide_eq_true (X1u hm h ha))]
omit [HasW] in
theorem X1t (hm:∀ w,∀ a ∈ t.marks,(t.bec w a).1 ∈ t.marks) (h:X9l t n K) (ha:a ∈ t.marks) (hb:b ∈ t.marks):LKd t K a=LKd t K b ↔ eqv t t (n + 1) a b:=by
  constructor
  · intro e
    have e:=NestedKey.tup.inj e
    obtain ⟨e1,e2⟩:=List.cons.inj e
    have h1:=(h a ha b hb).mp e1
    refine ⟨h1.told,fun w hw=>?_⟩
    have e3:=List.map_inj_left.mp e2 w hw
    have e3:=NestedKey.tup.inj e3
    obtain ⟨e4,e5⟩:=List.cons.inj e3
    obtain ⟨e6,_⟩:=List.cons.inj e5
    have e6:=NestedKey.num.inj e6
    refine ⟨?_,(h _ (hm w a ha) _ (hm w b hb)).mp e4⟩
    cases c:(t.bec w a).2 <;> cases d:(t.bec w b).2 <;> rw [c,d] at e6 <;> first | rfl | cases e6
  · intro e
    have e0:=(h a ha b hb).mpr e.down
    unfold LKd
    rw [e0]
    congr 2
    refine List.map_congr_left fun w hw=>?_
    obtain ⟨q1,q2⟩:=e.2 w hw
    rw [(h _ (hm w a ha) _ (hm w b hb)).mpr q2,q1]
def hF (t:TQ) (K:Str→NestedKey) (a:Str):Str:=(t.marks.find? fun b=>decide (LKd t K b=LKd t K a)).getD a
omit [HasW] in
theorem X56 (ha:a ∈ t.marks):∃ b ∈ t.marks,(t.marks.find? fun b=>decide (LKd t K b=LKd t K a))=some b∧LKd t K b=LKd t K a∧hF t K a=b:=by
  have h:(t.marks.find? fun b=>decide (LKd t K b=LKd t K a)).isSome:=by
    rw [List.find?_isSome]
    exact ⟨a,ha,decide_eq_true rfl⟩
  obtain ⟨b,hb⟩:=Option.isSome_iff_exists.mp h
  have h2:decide (LKd t K b=LKd t K a)=true:=by have:=List.find?_some hb; exact this
  refine ⟨b,List.mem_of_find?_eq_some hb,hb,of_decide_eq_true h2,?_⟩
  unfold hF
  rw [hb]
  rfl
omit [HasW] in
theorem X8b (ha:a ∈ t.marks) (hb:b ∈ t.marks):hF t K a=hF t K b ↔ LKd t K a=LKd t K b:=by
  obtain ⟨c,_,_,c1,c2⟩:=X56 (K:=K) ha
  obtain ⟨d,_,_,d1,d2⟩:=X56 (K:=K) hb
  constructor
  · intro e
    rw [c2,d2] at e
    rw [← c1,← d1,e]
  · intro e
    unfold hF
    rw [e]
    obtain ⟨x,_,q,_⟩:=X56 (K:=K) hb
    rw [q]
    rfl
omit [HasW] in
theorem X6z (hm:∀ w,∀ a ∈ t.marks,(t.bec w a).1 ∈ t.marks) (h:X9l t n K):X9l t (n + 1) fun a => .text (hF t K a):=fun a ha b hb=>by
  constructor
  · intro e
    exact (X1t hm h ha hb).mp ((X8b ha hb).mp (NestedKey.text.inj e))
  · intro e
    show NestedKey.text (hF t K a) = .text (hF t K b)
    rw [(X8b ha hb).mpr ((X1t hm h ha hb).mpr e)]
omit [HasW] in
theorem W1i:FK t (fun a => .str (hF t K a)) fun a => .text (hF t K a):=fun a ha=>⟨rfl,rfl,by simp [NestedKey.depth]⟩
omit [HasW] in
theorem W7k (hm:∀ w,∀ a ∈ t.marks,(t.bec w a).1 ∈ t.marks) (h:X9l t n K) (hf:Y0s t (n + 1) f) (ha:a ∈ t.marks):hF t K a=Z29 t f a:=by
  unfold hF Z29
  rw [if_pos ha]
  have e:(t.marks.find? fun b=>decide (LKd t K b=LKd t K a))=t.marks.find? fun x=>decide (f x=f a):=by
    have g:∀ l:List Str,(∀ b ∈ l,b ∈ t.marks)→(l.find? fun b=>decide (LKd t K b=LKd t K a))=l.find? fun x=>decide (f x=f a):=by
      intro l
      induction l with
      | nil=>intro _; rfl
      | cons x l ih =>
        intro hl
        have hx:=hl x (by simp)
        rw [List.find?_cons,List.find?_cons,ih fun b hb=>hl b (List.mem_cons_of_mem _ hb)]
        have:decide (LKd t K x=LKd t K a)=decide (f x=f a):=by
          rw [Bool.eq_iff_iff,decide_eq_true_eq,decide_eq_true_eq,X1t hm h hx ha,hf x hx a ha]
        rw [this]
    exact g t.marks fun _ h=>h
  rw [e]
end
section
variable {t:TQ} {T:Sto} {F:Str→Bv.D} {l:List Str} {m:Str} {i:Nat}
def lF (F:Str→Bv.D) (l:List Str):List (Bv.D × X):=l.map fun a=>(Bv.D.str a,X.d (F a))
theorem X8k:(lF F l).length=l.length:=by simp [lF]
theorem X85 (h:m ∉ l):Z6d (lF F l) (.str m) (X.d (F m))=lF F (l++[m]):=by
  rw [Y2q fun p hp e=>?_]
  · simp [lF]
  · obtain ⟨a,ha,rfl⟩:=List.mem_map.mp hp
    exact h ((Z44 _ _ e) ▸ ha)
theorem W0z (hm:m ∈ l):Z2j (lF F l) (.str m)=some (.d (F m)):=by
  unfold lF
  rw [Z7b (fun a:Str=>Bv.D.str a) (fun a=>X.d (F a)) (.str m) l]
  have:(l.find? fun a=>decide (Bv.D.str a=Bv.D.str m))=some m:=by
    induction l with
    | nil=>cases hm
    | cons x l ih =>
      rw [List.find?_cons]
      by_cases c:x=m
      · rw [c,decide_eq_true rfl]
      · rw [decide_eq_false fun e=>c (Z44 _ _ e)]
        exact ih ((List.mem_cons.mp hm).resolve_left fun e=>c e.symm)
  rw [this]
  rfl
theorem Y5p (h:T[i]?=some (.dic (lF F l))) (hm:m ∈ l):Z9c T (.r i) (.d (.str m)) = .ok (.d (F m)) T:=by
  unfold Z9c
  rw [dk_of (Y1y h) rfl]
  show Z04 (Z2j (lF F l) (.str m)) T=_
  rw [W0z hm]
  rfl
theorem X35 {k:Nat}:okO k (.dic (lF F l))=true:=by
  show (lF F l).all _=true
  unfold lF
  rw [List.all_map]
  exact List.all_eq_true.mpr fun _ _=>rfl
variable {P:List (Bv.D × X)} {k:Bv.D} {q q2:NestedKey} {v:X} {e:Ev} {S S1 S2 S3:Sto} {mo mi mx mv:M} {x y z:X}
theorem W9d (h:T[i]?=some (.ndc P)) (hk:k.nkey?=some q):Y2f T (.r i) (.d k)=some (P,k,q):=by
  unfold Y2f Y0y
  simp only [h,Option.bind_some,hk,Option.map_some]
theorem W93 (h:T[i]?=some (.ndc P)):(Y0y T (.r i)).isSome=true:=by
  unfold Y0y
  simp only [h]
  rfl
theorem X96 (h1:mo e S = .ok (.r i) S) (h2:mi e S = .ok (.d k) S) (h:S[i]?=some (.ndc P)) (hk:k.nkey?=some q) (hl:Z1l P q=some z):Z72 mo mi e S = .ok z S:=by
  unfold Z72
  rw [h1]
  show (mi e S).bind _=_
  rw [h2]
  show Z04 ((Y2f S (.r i) (.d k)).bind fun p=>Z1l p.1 p.2.2) S=_
  rw [W9d h hk]
  show Z04 (Z1l P q) S=_
  rw [hl]
  rfl
theorem X5z (h1:mo e S = .ok (.r i) S) (h2:mi e S = .ok (.d k) S) (h3:mx e S = .ok z S) (h:S[i]?=some (.ndc P)) (hk:k.nkey?=some q):Z7h mo mi mx e S = .ok ((Z1l P q).getD z) S:=by
  unfold Z7h
  rw [h1]
  show (if (Y0y S (.r i)).isSome then _ else _)=_
  rw [if_pos (W93 h),h2]
  show (mx e S).bind _=_
  rw [h3]
  show Z04 ((Y2f S (.r i) (.d k)).map fun p=>(Z1l p.1 p.2.2).getD z) S=_
  rw [W9d h hk]
  rfl
theorem W2e (h1:mv e S = .ok z S) (h2:mo e S = .ok (.r i) S) (h3:mi e S = .ok (.d k) S) (h:S[i]?=some (.ndc P)) (hk:k.nkey?=some q) (hl:P.length < sizeLine):Z9l mo mi mv e S = .go (.nx e) (S.set i (.ndc (Z40 P k q z))):=by
  unfold Z9l
  rw [h1]
  show (mo e S).so e _=_
  rw [h2]
  show (mi e S).so e _=_
  rw [h3]
  have hw:Y0b S (.r i) (.d k)=some (i,P,k,q):=by
    unfold Y0b X3w W1g
    simp only [h,Option.bind_some,hk,Option.map_some]
    rw [if_pos (decide_eq_true hl)]
  show (match Y0b S (.r i) (.d k) with
    | some p=>RO.go (.nx e) (S.set p.1 (.ndc (Z40 p.2.1 p.2.2.1 p.2.2.2 z)))
    | none => .bad)=_
  rw [hw]
theorem X3t:(Z40 P k q v).length ≤ P.length + 1:=by
  unfold Z40
  split <;> simp
theorem X6r {j:Nat} (h:okO j (.ndc P)=true) (hv:okX j v=true):okO j (.ndc (Z40 P k q v))=true:=by
  have h:(P.all fun p=>okX j p.2)=true:=h
  show ((Z40 P k q v).all fun p=>okX j p.2)=true
  unfold Z40
  split
  · rw [List.all_map]
    refine List.all_eq_true.mpr fun p hp=>?_
    show okX j (if p.1.nkey?=some q then (p.1,v) else p).2=true
    split
    · exact hv
    · exact List.all_eq_true.mp h p hp
  · rw [List.all_append,h]
    simpa using hv
theorem X0n (hk:k.nkey?=some q):Z1l (Z40 P k q v) q2=if q2=q then some v else Z1l P q2:=by
  have g1:∀ P:List (Bv.D × X),(P.any fun p=>decide (p.1.nkey?=some q))=true→Z1l (P.map fun p=>if p.1.nkey?=some q then (p.1,v) else p) q2=if q2=q then some v else Z1l P q2:=by
    intro P
    induction P with
    | nil=>intro h; cases h
    | cons p P ih =>
      intro h
      unfold Z1l
      rw [List.map_cons,List.find?_cons,List.find?_cons]
      by_cases c:p.1.nkey?=some q
      · rw [if_pos c]
        by_cases c2:q2=q
        · rw [if_pos c2,c2,decide_eq_true c]
          rfl
        · have c3:¬ p.1.nkey?=some q2:=fun z=>c2 (Option.some.inj (z.symm.trans c))
          rw [if_neg c2,decide_eq_false c3]
          simp only [c3,decide_false]
          have:∀ P:List (Bv.D × X),((P.map fun p=>if p.1.nkey?=some q then (p.1,v) else p).find? fun p=>decide (p.1.nkey?=some q2)).map (·.2)=(P.find? fun p=>decide (p.1.nkey?=some q2)).map (·.2):=by
            intro P
            induction P with
            | nil=>rfl
            | cons p P ih =>
              rw [List.map_cons,List.find?_cons,List.find?_cons]
              by_cases d:p.1.nkey?=some q
              · have d3:¬ p.1.nkey?=some q2:=fun z=>c2 (Option.some.inj (z.symm.trans d))
                rw [if_pos d,decide_eq_false d3]
                exact ih
              · rw [if_neg d]
                cases decide (p.1.nkey?=some q2) with
                | true=>rfl
                | false=>exact ih
          exact this P
      · rw [if_neg c]
        have hr:(P.any fun p=>decide (p.1.nkey?=some q))=true:=by
          rw [List.any_cons,decide_eq_false c] at h
          exact h
        have ih:=ih hr
        by_cases c2:q2=q
        · rw [if_pos c2] at ih ⊢
          rw [c2,decide_eq_false c]
          unfold Z1l at ih
          rw [c2] at ih
          exact ih
        · rw [if_neg c2] at ih ⊢
          cases decide (p.1.nkey?=some q2) with
          | true=>rfl
          | false=>exact ih
  unfold Z40
  split
  · rename_i h
    exact g1 P h
  · rename_i h
    unfold Z1l
    rw [List.find?_append]
    by_cases c2:q2=q
    · rw [if_pos c2,c2]
      have:(P.find? fun p=>decide (p.1.nkey?=some q))=none:=by
        rw [List.find?_eq_none]
        intro p hp z
        exact h (List.any_eq_true.mpr ⟨p,hp,z⟩)
      rw [this,List.find?_cons,decide_eq_true hk]
      rfl
    · rw [if_neg c2,List.find?_cons,decide_eq_false fun z=>c2 (Option.some.inj (z.symm.trans hk))]
      cases P.find? fun p=>decide (p.1.nkey?=some q2) <;> rfl
end
end Lw
namespace Lw
open PySem PySem.Spec L2 Bv
open PyProof.Rows hiding St
variable [HasW]
section
variable {t:TQ} {T S S1:Sto} {F g:Str→Bv.D} {K:Str→NestedKey} {f:Str→Str} {l:List Str} {e:Ev} {n:Nat}
theorem X3m:∀ {more acc:List (Bv.D × Bv.D)},(more.map (·.1)).Nodup→(∀ p ∈ more,∀ q ∈ acc,q.1 ≠ p.1)→Y19 acc more=acc++more
  | [],acc,_,_=>by rw [List.append_nil]; rfl
  | p :: r,acc,hn,ha=>by
    obtain ⟨n1,n2⟩:=List.nodup_cons.mp (show (p.1 :: r.map (·.1)).Nodup from hn)
    show Y19 (Z6d acc p.1 p.2) r=_
    rw [Y2q fun q hq=>ha p (by simp) q hq,X3m n2 fun x hx q hq=>?_]
    · rw [List.append_assoc]; rfl
    · rcases List.mem_append.mp hq with m | m
      · exact ha x (List.mem_cons_of_mem _ hx) q m
      · rw [List.mem_singleton.mp m]
        exact fun e=>n1 (List.mem_map.mpr ⟨x,hx,e.symm⟩)
theorem W5o:∀ l:List Str,Z8l ((l.map fun a=>Bv.D.tup [.str a,g a]).map X.d)=some (l.map fun a=>(Bv.D.str a,g a))
  | []=>rfl
  | x :: r=>by
    show (match X01 (X.d (.tup [.str x,g x])),Z8l ((r.map fun a=>Bv.D.tup [.str a,g a]).map X.d) with
      | some p,some l=>some (p :: l)
      | _,_=>none)=_
    rw [W5o r]
    rfl
theorem X5u (h:l.Nodup):Z96 [.d (.lst (l.map fun a=>Bv.D.tup [.str a,g a]))] T = .ok (.r T.length) (T++[.dic (lF g l)]):=by
  have hn:((l.map fun a=>(Bv.D.str a,g a)).map (·.1)).Nodup:=by
    rw [List.map_map]
    exact X30 h
  have e:dictOf T (.d (.lst (l.map fun a=>Bv.D.tup [.str a,g a])))=some (l.map fun a=>(Bv.D.str a,g a)):=by
    show (if V8 T (.d (.lst (l.map fun a=>Bv.D.tup [.str a,g a]))) then ((items T (.d (.lst (l.map fun a=>Bv.D.tup [.str a,g a])))).bind Z8l).map (Y19 []) else none)=_
    rw [if_pos (show V8 T (.d (.lst (l.map fun a=>Bv.D.tup [.str a,g a])))=true from rfl)]
    show ((some ((l.map fun a=>Bv.D.tup [.str a,g a]).map X.d)).bind Z8l).map (Y19 [])=_
    rw [Option.bind_some,W5o,Option.map_some,X3m hn fun _ _ _ h=>absurd h List.not_mem_nil]
    rfl
  show (match dictOf T (.d (.lst (l.map fun a=>Bv.D.tup [.str a,g a]))) with
    | some kvs=>R.ok (X.r T.length) (T++[O.dic (kvs.map fun (p:Bv.D × Bv.D)=>(p.1,X.d p.2))])
    | none => .bad)=_
  rw [e]
  show R.ok (X.r T.length) (T++[O.dic ((l.map fun a=>(Bv.D.str a,g a)).map fun (p:Bv.D × Bv.D)=>(p.1,X.d p.2))])=_
  rw [List.map_map]
  rfl
theorem W32 {m:M} {kvs:List (Bv.D × X)} (h:m e S = .ok (.r n) S1) (hn:S1[n]?=some (.dic kvs)):W4p m e S = .ok (.r n) (S1.set n (.fdc kvs)):=by
  unfold W4p
  rw [h]
  show (match (match S1[n]? with
    | some (.dic kvs)=>some (kvs,S1.set n (.fdc kvs))
    | some (.fdc kvs)=>some (kvs,S1)
    | _=>none) with
    | some p=>R.ok (X.r n) p.2
    | none => .bad)=_
  rw [hn]
theorem W4g:∀ l:List Str,ks? (lF F l)=some (l.map fun a=>(Bv.D.str a,F a))
  | []=>rfl
  | x :: r=>by
    have:=W4g r
    unfold lF at this ⊢
    rw [List.map_cons]
    unfold ks?
    rw [this]
    rfl
theorem W0g (h:n < S.length):(X.r n).get (S.set n (.fdc (lF F l)))=some (.dic (l.map fun a=>(Bv.D.str a,F a))):=by
  simp only [X.get,List.getElem?_set_self h,W4g,Option.map_some]
def F0 (t:TQ) (a:Str):Bv.D := .tup [.bl (decide (a=t.m0)), .bl (decide (a ∈ t.sh)), .bl (decide (a ∈ t.as))]
def K0 (t:TQ) (a:Str):NestedKey := .tup [.num (if decide (a=t.m0)=true then 1 else 0), .num (if decide (a ∈ t.sh)=true then 1 else 0), .num (if decide (a ∈ t.as)=true then 1 else 0)]
theorem W6z:FK t (F0 t) (K0 t):=fun a _=>⟨rfl,rfl,by simp [K0,NestedKey.depth,NestedKey.depthAll]⟩
theorem X12 {c d:Bool} (h:(if c=true then (1:Int) else 0)=if d=true then 1 else 0):c=d:=by cases c <;> cases d <;> first | rfl | cases h
theorem W3g:X9l t 0 (K0 t):=fun a _ b _=>by
  constructor
  · intro e
    have e:=NestedKey.tup.inj e
    simp only [List.cons.injEq,NestedKey.num.injEq,and_true] at e
    obtain ⟨e1,e2,e3⟩:=e
    show t.told a=t.told b
    unfold TQ.told
    rw [X12 e1,X12 e2,X12 e3]
  · intro e
    have e:t.told a=t.told b:=e
    unfold TQ.told at e
    simp only [Prod.mk.injEq] at e
    unfold K0
    rw [e.1,e.2.1,e.2.2]
def evN (t:TQ) (o1 o2 o3 o4 o5 o6 o7 o8 o9 o10:Option X):Ev:=[some (.d t.L),o1,o2,o3,o4,o5,o6,o7,o8,o9,o10]
theorem X2y (hk:t.Ok) (hf:Y0s t t.marks.length f):g__law_heads [t.L] = .ok (kD (Z29 t f) t.marks):=by
  have hmk:∀ w,∀ a ∈ t.marks,(t.bec w a).1 ∈ t.marks:=fun w a ha=>Y1p hk ha
  have hn5:t.marks.length ≤ 5:=by have:=hk.few; show t.ms.length + 1 ≤ 5; omega
  have hn2:1 ≤ t.marks.length:=by show 1 ≤ t.ms.length + 1; omega
  have hnd:t.marks.Nodup:=hk.nd
  have hsz:t.marks.length < sizeLine:=by rw [sizeLine_eq]; omega
  have hW6:W6.length=6:=rfl
  obtain ⟨ob,hob⟩:∃ ob:Str→Str→Bv.D,∀ w m,g__law_becomes [t.L, .str w, .str m] = .ok (wbD (t.bec w m) (ob w m)) :=
    ⟨fun w m=>(W6n (w:=w) (m:=m) hk.len).choose,fun w m=>(W6n (w:=w) (m:=m) hk.len).choose_spec⟩
  refine Z51 ?_
  rw [W7w]
  unfold lh
  have hwk:∀ T:Sto,Y0g T (.d (Z52 (t.m0 :: t.ms)))=some (t.marks.map (fun a=>X.d (.str a)), .free):=fun T=>Z4l (f:=Bv.D.str) (l:=t.marks)
  refine Fw.set (x := .r 0) (S1:=[.dic (lF (F0 t) [])]) rfl ?_
  refine Fw.for_ (t := .nm 2) (l:=t.marks) (f:=fun a=>X.d (.str a)) (S1:=[.dic (lF (F0 t) [])]) (lk := .free) (Z13 (Z0a (Z6 rfl) U0 X0j) (hwk _)) (fun rest e T=>∃ (done:List Str) (o2:Option X),t.marks=done++rest∧e=evN t (some (.r 0)) o2 none none none none none none none none∧T=[.dic (lF (F0 t) done)]) (fun _ _=>False) ⟨[],none,rfl,rfl,rfl⟩ (fun _ _ _ _=>rfl) ?_ ?_
  · rintro m rest e T ⟨done,o2,hd,rfl,rfl⟩
    refine ⟨_,rfl,?_⟩
    unfold W88
    have hm:m ∈ t.marks:=by rw [hd]; simp
    have hmn:m ∉ done:=fun z=>by
      rw [hd] at hnd
      exact (List.nodup_append.mp hnd).2.2 m z m (by simp) rfl
    have hdl:done.length < t.marks.length:=by rw [hd]; simp
    have hput:Z8b [O.dic (lF (F0 t) done)] (.r 0) (.d (.str m))=some (0,lF (F0 t) done, .str m):=X4f rfl rfl (by rw [X8k]; omega)
    refine Fw.one (Fw.dput (z := .d (F0 t m)) (Z12 (ds:=[.bl (decide (m=t.m0)), .bl (decide (m ∈ t.sh)), .bl (decide (m ∈ t.as))]) (Z5 (W2 (Z6 rfl) (Z0a (Z0a (Z6 rfl) U0 X0j) U0 W4d) Y5 Y5 Z2n) (Z5 (W2 (Z6 rfl) (Z0a (Z6 rfl) U0 W9x) Y5 Y5 Z8j) (Z5 (W2 (Z6 rfl) (Z0a (Z6 rfl) U0 W9y) Y5 Y5 Z8j) Y3))) rfl (hz4 (by simp))) (Z6 rfl) (Z6 rfl) hput (Fw.nil (.nx ⟨done++[m],_,by rw [hd]; simp,rfl,?_⟩)))
    show [O.dic (Z6d (lF (F0 t) done) (.str m) (X.d (F0 t m)))]=_
    rw [X85 hmn]
  intro e T hor
  obtain ⟨done,o2,hd,rfl,rfl⟩:=hor.resolve_right id
  have hd:t.marks=done:=by rw [hd]; simp
  subst hd
  refine Fw.for_ (t := .nm 3) (l:=List.range t.marks.length) (f:=fun (i:Nat)=>X.d (.int (0 + (i:Int)))) (S1:=[.dic (lF (F0 t) t.marks)]) (lk := .free) (Z69 (n:=(t.marks.length:Nat)) (Z5 (X5 (Z5 (Z0a (Z6 rfl) U0 X0j) Y3) (W0x.trans (by rw [List.length_map]))) Y3) (Z73 (by omega)))
    (fun rest e T=>∃ (i h:Nat) (F:Str→Bv.D) (K:Str→NestedKey) (o2 o3 o4 o5 o6 o7 o8 o9 o10:Option X),rest.length + i=t.marks.length∧e=evN t (some (.r h)) o2 o3 o4 o5 o6 o7 o8 o9 o10∧OkS T∧T[h]?=some (.dic (lF F t.marks))∧FK t F K∧X9l t i K∧(i=0 ∨ ∃ (j:Nat) (K0:Str→NestedKey),i=j + 1∧X9l t j K0∧F=fun a => .str (hF t K0 a))) (fun _ _=>False)
    ⟨0,0,F0 t,K0 t,_,_,_,_,_,_,_,_,_,by simp,rfl,Y0d.push X35,rfl,W6z,W3g, .inl rfl⟩ (fun _ _ _ _=>rfl) ?_ ?_
  · rintro i0 rest e T ⟨i,h,F,K,o2,o3,o4,o5,o6,o7,o8,o9,o10,hl,rfl,hS,hT,hFK,hTel,_⟩
    refine ⟨_,rfl,?_⟩
    unfold W89
    have hlt:h < T.length:=(List.getElem?_eq_some_iff.mp hT).1
    refine Fw.set (x := .r T.length) (S1:=T++[.dic (lF (LFd t F) [])]) rfl ?_
    refine Fw.for_ (t := .nm 2) (l:=t.marks) (f:=fun a=>X.d (.str a)) (S1:=T++[.dic (lF (LFd t F) [])]) (lk := .free) (Z13 (Z0a (Z6 rfl) U0 X0j) (hwk _)) (fun rest e T2=>∃ (done:List Str) (o2 o6 o7 o8 o9 o10:Option X),t.marks=done++rest∧e=evN t (some (.r h)) o2 (some (.d (.int (0 + (i0:Int))))) (some (.r T.length)) o5 o6 o7 o8 o9 o10∧T2=T++[.dic (lF (LFd t F) done)]) (fun _ _=>False) ⟨[],o2,o6,o7,o8,o9,o10,rfl,rfl,rfl⟩ (fun _ _ _ _=>rfl) ?_ ?_
    · rintro m rest e T2 ⟨done,o2,o6,o7,o8,o9,o10,hd,rfl,rfl⟩
      refine ⟨_,rfl,?_⟩
      unfold X8o
      have hm:m ∈ t.marks:=by rw [hd]; simp
      have hmn:m ∉ done:=fun z=>by
        rw [hd] at hnd
        exact (List.nodup_append.mp hnd).2.2 m z m (by simp) rfl
      have hdl:done.length < t.marks.length:=by rw [hd]; simp
      have hT2:(T++[O.dic (lF (LFd t F) done)])[h]?=some (.dic (lF F t.marks)):=by rw [List.getElem?_append_left hlt]; exact hT
      have hput:Z8b (T++[O.dic (lF (LFd t F) done)]) (.r T.length) (.d (.str m))=some (T.length,lF (LFd t F) done, .str m):=X4f (by simp) rfl (by rw [X8k]; omega)
      refine Fw.set (x := .d (.lst (W6.map fun w=>wbD (t.bec w m) (ob w m)))) (S1:=T++[O.dic (lF (LFd t F) done)]) (Z4f (fun w=>X.d (.str w)) (fun w=>wbD (t.bec w m) (ob w m)) (l:=W6) (Z13 (Z12 (ds:=W6.map Bv.D.str) (Z5 U0 (Z5 U0 (Z5 U0 (Z5 U0 (Z5 U0 (Z5 U0 Y3)))))) rfl (hz4 (by decide))) rfl) (hz4 (by decide)) fun w _=>⟨_,rfl,X5 (Z5 (Z6 rfl) (Z5 (Z6 rfl) (Z5 (Z6 rfl) Y3))) (Q8 rfl (X5w (hob w m)))⟩) ?_
      have e2:∀ (o7 o8 o9 o10:Option X),Z14 (.tp [(.nm 8),(.nm 9),(.nm 10)]) (V7 (Z1 6)) W8 (W1 (Z0 (Z0t (Z1 1) (Z1 8)) (Z0 (Z1 9) Z7))) [8,9,10] (evN t (some (.r h)) (some (.d (.str m))) (some (.d (.int (0 + (i0:Int))))) (some (.r T.length)) o5 (some (.d (.lst (W6.map fun w=>wbD (t.bec w m) (ob w m))))) o7 o8 o9 o10) (T++[O.dic (lF (LFd t F) done)]) = .ok (.d (.lst (W6.map fun w => .tup [F (t.bec w m).1, .bl (t.bec w m).2]))) (T++[O.dic (lF (LFd t F) done)]):=fun o7 o8 o9 o10 =>
        Z4f (fun w=>X.d (wbD (t.bec w m) (ob w m))) (fun w => .tup [F (t.bec w m).1, .bl (t.bec w m).2]) (l:=W6) (Z13 (Z6 rfl) Y8l) (hz4 (by decide)) fun w _=>⟨_,rfl,Z12 (ds:=[F (t.bec w m).1, .bl (t.bec w m).2]) (Z5 (Z2t (Z6 rfl) (Z6 rfl) (Y5p hT2 (hmk w m hm))) (Z5 (Z6 rfl) Y3)) rfl (hz4 (by simp))⟩
      refine Fw.one (Fw.dput (z := .d (LFd t F m)) (W2 (d1 := .tup [F m]) (d2 := .tup (W6.map fun w => .tup [F (t.bec w m).1, .bl (t.bec w m).2])) (Z12 (ds:=[F m]) (Z5 (Z2t (Z6 rfl) (Z6 rfl) (Y5p hT2 hm)) Y3) rfl (hz4 (by simp))) (X5 (Z5 (e2 _ _ _ _) Y3) X1m) Y5 Y5 (X1v (by simp [W6]))) (Z6 rfl) (Z6 rfl) hput (Fw.nil (.nx ⟨done++[m],_,_,_,_,_,_,by rw [hd]; simp,rfl,?_⟩)))
      show (T++[O.dic (lF (LFd t F) done)]).set T.length (.dic (Z6d (lF (LFd t F) done) (.str m) (X.d (LFd t F m))))=_
      rw [X85 hmn,List.set_append_right _ _ (Nat.le_refl _),Nat.sub_self]
      rfl
    intro e T2 hor
    obtain ⟨done,o2,o6,o7,o8,o9,o10,hd,rfl,rfl⟩:=hor.resolve_right id
    have hd:t.marks=done:=by rw [hd]; simp
    subst hd
    let TL:Sto:=T++[O.dic (lF (LFd t F) t.marks)]
    have hTL:TL.length=T.length + 1:=by simp [TL]
    have hkey:∀ {a:Str},a ∈ t.marks→(LFd t F a).nkey?=some (LKd t K a):=fun ha=>X9k hmk hFK ha
    refine Fw.set (x := .r TL.length) (S1:=TL++[.ndc []]) rfl ?_
    refine Fw.for_ (t := .nm 2) (l:=t.marks) (f:=fun a=>X.d (.str a)) (S1:=TL++[.ndc []]) (lk := .free) (Z13 (Z0a (Z6 rfl) U0 X0j) (hwk _)) (fun rest e T2=>∃ (done:List Str) (P:List (Bv.D × X)) (o2:Option X),t.marks=done++rest∧e=evN t (some (.r h)) o2 (some (.d (.int (0 + (i0:Int))))) (some (.r T.length)) (some (.r TL.length)) o6 o7 o8 o9 o10∧T2=TL++[.ndc P]∧P.length ≤ done.length∧okO TL.length (.ndc P)=true∧∀ q,Z1l P q=(done.find? fun b=>decide (LKd t K b=q)).map fun b=>X.d (.str b)) (fun _ _=>False)
      ⟨[],[],o2,rfl,rfl,rfl,Nat.le_refl _,rfl,fun q=>rfl⟩ (fun _ _ _ _=>rfl) ?_ ?_
    · rintro m rest e T2 ⟨done,P,o2,hd,rfl,rfl,hPl,hPo,hP⟩
      refine ⟨_,rfl,?_⟩
      unfold X8p
      have hm:m ∈ t.marks:=by rw [hd]; simp
      have hdl:done.length < t.marks.length:=by rw [hd]; simp
      have hN:(TL++[O.ndc P])[TL.length]?=some (.ndc P):=by simp
      have hLa:(TL++[O.ndc P])[T.length]?=some (.dic (lF (LFd t F) t.marks)):=by
        rw [List.getElem?_append_left (by omega)]
        simp [TL]
      have hz:(Z1l P (LKd t K m)).getD (X.d (.str m))=X.d (.str (((done.find? fun b=>decide (LKd t K b=LKd t K m))).getD m)):=by
        rw [hP]
        cases done.find? fun b=>decide (LKd t K b=LKd t K m) <;> rfl
      refine Fw.eq (W2e (q:=LKd t K m) (k:=LFd t F m) (P:=P) (i:=TL.length) (X5z (q:=LKd t K m) (k:=LFd t F m) (P:=P) (i:=TL.length) (Z6 rfl) (Z2t (Z6 rfl) (Z6 rfl) (Y5p hLa hm)) (Z6 rfl) hN (hkey hm)) (Z6 rfl) (Z2t (Z6 rfl) (Z6 rfl) (Y5p hLa hm)) hN (hkey hm) (by omega)) (.nx ⟨done++[m],Z40 P (LFd t F m) (LKd t K m) ((Z1l P (LKd t K m)).getD (X.d (.str m))),_,by rw [hd]; simp,rfl,?_,?_,?_,fun q=>?_⟩)
      · rw [List.set_append_right _ _ (Nat.le_refl _),Nat.sub_self]
        rfl
      · have:=X3t (P:=P) (k:=LFd t F m) (q:=LKd t K m) (v:=(Z1l P (LKd t K m)).getD (X.d (.str m)))
        rw [List.length_append]
        simp
        omega
      · refine X6r hPo ?_
        rw [hz]
        rfl
      · rw [X0n (hkey hm),hz,hP q,List.find?_append]
        by_cases c:q=LKd t K m
        · rw [if_pos c,c]
          cases hh:done.find? fun b=>decide (LKd t K b=LKd t K m) with
          | none =>
            rw [List.find?_cons,decide_eq_true rfl]
            rfl
          | some b=>rfl
        · rw [if_neg c,List.find?_cons,decide_eq_false fun z=>c z.symm]
          cases done.find? fun b=>decide (LKd t K b=q) <;> rfl
    intro e T2 hor
    obtain ⟨done,P,o2,hd,rfl,rfl,hPl,hPo,hP⟩:=hor.resolve_right id
    have hd:t.marks=done:=by rw [hd]; simp
    subst hd
    have hN:(TL++[O.ndc P])[TL.length]?=some (.ndc P):=by simp
    have hLa:(TL++[O.ndc P])[T.length]?=some (.dic (lF (LFd t F) t.marks)):=by
      rw [List.getElem?_append_left (by omega)]
      simp [TL]
    have hOL:OkS TL:=hS.push X35
    have hO:OkS (TL++[O.ndc P]):=hOL.push (Y9x (Nat.le_succ _) hPo)
    have e3:Z14 (.nm 2) (V7 (V5 (Z1 0) (m_c (.int 0)))) W8 (W1 (Z0 (Z1 2) (Z0 (Z72 (Z1 5) (Z0t (Z1 4) (Z1 2))) Z7))) [2] (evN t (some (.r h)) o2 (some (.d (.int (0 + (i0:Int))))) (some (.r T.length)) (some (.r TL.length)) o6 o7 o8 o9 o10) (TL++[O.ndc P]) = .ok (.d (.lst (t.marks.map fun a=>Bv.D.tup [.str a, .str (hF t K a)]))) (TL++[O.ndc P]):=by
      refine Z4f (fun a=>X.d (.str a)) (fun a=>Bv.D.tup [.str a, .str (hF t K a)]) (l:=t.marks) (Z13 (Z0a (Z6 rfl) U0 X0j) (hwk _)) (by omega) fun a ha=>⟨_,rfl,Z12 (ds:=[.str a, .str (hF t K a)]) (Z5 (Z6 rfl) (Z5 (X96 (z := .d (.str (hF t K a))) (q:=LKd t K a) (k:=LFd t F a) (P:=P) (i:=TL.length) (Z6 rfl) (Z2t (Z6 rfl) (Z6 rfl) (Y5p hLa ha)) hN (hkey ha) ?_) Y3)) rfl (hz4 (by simp))⟩
      obtain ⟨b,_,h1,_,h3⟩:=X56 (K:=K) ha
      rw [hP,h1,h3]
      rfl
    refine Fw.one (Fw.set (X5 (Z5 e3 Y3) (X5u (g:=fun a => .str (hF t K a)) hnd)) (Fw.nil (.nx ⟨i + 1,(TL++[O.ndc P]).length,fun a => .str (hF t K a),fun a => .text (hF t K a),_,_,_,_,_,_,_,_,_,?_,rfl,hO.push X35,?_,W1i,X6z hmk hTel, .inr ⟨i,K,rfl,hTel,rfl⟩⟩)))
    · rw [List.length_cons] at hl; omega
    · rw [List.getElem?_append_right (Nat.le_refl _),Nat.sub_self]
      rfl
  intro e T hor
  obtain ⟨i,h,F,K,o2,o3,o4,o5,o6,o7,o8,o9,o10,hl,rfl,hS,hT,hFK,hTel,hh⟩:=hor.resolve_right id
  have hi:i=t.marks.length:=by simpa using hl
  rcases hh with hh | ⟨j,K1,hj,hTj,rfl⟩
  · omega
  have hlt:h < T.length:=(List.getElem?_eq_some_iff.mp hT).1
  refine Fw.one (Fw.retP (W32 (Z6 rfl) hT) (W0g hlt) ?_)
  show PR.ok (Bv.D.dic (t.marks.map fun a=>(Bv.D.str a,Bv.D.str (hF t K1 a))))=PR.ok (Bv.D.dic (t.marks.map fun a=>(Bv.D.str a,Bv.D.str (Z29 t f a))))
  have:(t.marks.map fun a=>(Bv.D.str a,Bv.D.str (hF t K1 a)))=t.marks.map fun a=>(Bv.D.str a,Bv.D.str (Z29 t f a)):=List.map_congr_left fun a ha=>by rw [W7k hmk hTj (by rw [← hj,hi]; exact hf) ha]
  rw [this]
end
end Lw
namespace Lw
open PySem PySem.Spec L2 Bv
open PyProof.Rows hiding St
variable [HasW]
def W8x:MS:=(Z9 (X2 7 (Z1q (U3 (Y2 eqD (V5 (Z1 5) (m_c (.int 2))) (Z1 2))) (Z8 (Y8 2 (Y9 [] g__law_pick)) (Z0 (Z1 0) (Z0 (V3 (Z0 (Z1 2) (Z0 (Z1 3) Z7))) Z7))) (V5 (Z1 5) (m_c (.int 2))))) (Z9 (W0 (Z1s V8 U4 (Z1 4) (Z0 (W1 (Z0 (V5 (Z1 5) (m_c (.int 0))) (Z0 (V5 (Z1 5) (m_c (.int 1))) (Z0 (Z1 7) (Z0 (V5 (Z1 5) (m_c (.int 3))) Z7))))) Z7))) (Z0r (U3 (Y2 eqD (V5 (Z1 5) (m_c (.int 1))) (Z1 2))) (Z9 (X2 7 (Z1q (U3 (Y2 eqD (V5 (Z1 5) (m_c (.int 2))) (Z1 2))) (Z8 (Y8 2 (Y9 [] g__law_pick)) (Z0 (Z1 0) (Z0 (V3 (Z0 (Z1 2) (Z0 (Z1 3) Z7))) Z7))) (V5 (Z1 5) (m_c (.int 2))))) (W0 (Z1s V8 U4 (Z1 4) (Z0 (W1 (Z0 (V5 (Z1 5) (m_c (.int 0))) (Z0 (Z1 3) (Z0 (Z1 7) (Z0 (V5 (Z1 5) (m_c (.int 3))) Z7))))) Z7)))) W7)))
def db:MS:=(Z9 (Z0r (U3 (Y2 gtD (Z8 Z1d (Z0 (V5 (Z1 1) (m_c (.int 0))) Z7)) (m_c (.int 4)))) (Q1 (Z1 1)) W7) (Z9 (Y6b [(.nm 2),(.nm 3),(.nm 4)] (Z0 (Z8 (Y8 2 (Y9 [] g__law_pick)) (Z0 (Z1 0) (Z0 (Z8 X0l (Z0 (Y6 (V5 (Z1 1) (m_c (.int 0))) (X4 (m_c (.int 1))) Z1e) Z7)) Z7))) (Z0 (m_c (.str "twin")) (Z0 (V2 Z7) Z7)))) (Z9 (Z1f (.nm 5) (V7 (V5 (Z1 1) (m_c (.int 3)))) W8x) (Z9 (X2 6 (Z14 (.nm 8) (V7 (Y6 (Z1 1) Z1e (X4 (m_c (.int 3))))) W8 (Y2 Z4e (Z1 8) (Z1q (U3 (Y2 inD (Z1 2) (Z1 8))) (W1 (Z0 (Z1 3) Z7)) (W1 Z7))) [8])) (Q1 (W1 (Z0 (V5 (Z1 6) (m_c (.int 0))) (Z0 (V5 (Z1 6) (m_c (.int 1))) (Z0 (V5 (Z1 6) (m_c (.int 2))) (Z0 (Z8 Z75 (Z0 (Z1 4) Z7)) Z7))))))))))
theorem W69:Z4p=db:=by kernel_rfl
abbrev TWN:List Str:=["twin"]
theorem Fw.asgT {ts:List Tg} {ms:MG (List X)} {e e1:Ev} {S S1:Sto} {xs:List X} {k:MS} {Q:RO→Prop} (h:ms e S = .ok xs S1) (hl:xs.length ≤ sizeLine) (ha:Tg.asgs S1 ts xs e=some e1) (h2:Fw (k e1 S1) Q):Fw (Z9 (Y6b ts ms) k e S) Q:=by
  refine Fw.seq (e1:=e1) (S1:=S1) ?_ h2
  unfold Y6b
  rw [h]
  show (if xs.length ≤ sizeLine then (match Tg.asgs S1 ts xs e with
    | some e1=>RO.go (.nx e1) S1
    | none => .bad) else .bad)=_
  rw [if_pos hl,ha]
section
variable {S T:Sto} {b n:Nat} {m0:Str} {ms sh as:List Str} {rows:List Z16} {o:O}
theorem W1y {ss:List Str} (g:Gd S b T) (ho:okO (T.length + 1) o=true) (h0:ss ≠ []) (hl:ss.length < 1073741824):∃ (s:Str) (T2:Sto),g__law_pick [.r (b + 1), .d (.lst (ss.map D.str))] (T++[o]) = .ok (.d (.str s)) (T2++[o])∧s ∈ ss∧Gd S b T2:=by
  have hb:Z62 (T++[o]) b:=by
    obtain ⟨gs,s,e1,e2,hd⟩:=g.at_
    have:=g.at_.lt
    exact ⟨gs,s,by rw [List.getElem?_append_left (by omega)]; exact e1,by rw [List.getElem?_append_left (by omega)]; exact e2,hd⟩
  obtain ⟨s,T3,e,hs,g3⟩:=Y58 (Gd.refl (g.ok.push ho) hb) h0 hl
  obtain ⟨T2,rfl,g2⟩:=g3.drop g.ok g.at_.lt
  exact ⟨s,T2,e,hs,g.tr g2⟩
theorem W6l {ds:List D} (h:S[n]?=some (.lst (ds.map X.d))):Z75 [.r n] S = .ok (.d (.tup ds)) S:=by simp [Z75,items,h,Y1z]
def lsR (rows:List Z16):O := .lst ((rows.map Z61).map X.d)
theorem okR {k:Nat}:okO k (lsR rows)=true:=Y1b _
theorem W3l {r:Z16} (hl:rows.length < 1000):U4 (.r T.length) [.d (Z61 r)] (T++[lsR rows]) = .ok (.d .non) (T++[lsR (rows++[r])]):=by
  rw [Y1k (xs:=(rows.map Z61).map X.d) (by simp [lsR]) (by rw [List.length_map,List.length_map,sizeLine_eq]; omega),List.set_append_right _ _ (Nat.le_refl _),Nat.sub_self]
  simp [lsR]
theorem X7e {r:Z16} {z:Str} (h:Z8v m0 ms r.1 r.2.1 r.2.2.1 r.2.2.2) (hz:z ∈ ("same" : Str) :: m0 :: (ms++TWN)):Z8v m0 (ms++TWN) r.1 r.2.1 z r.2.2.2:=by
  refine ⟨h.1,?_,hz,fun hw=>⟨(h.2.2.2 hw).1,?_⟩⟩
  · have:=h.2.1
    simp only [List.mem_cons,List.mem_append] at this ⊢
    rcases this with e | e | e
    · exact .inl e
    · exact .inr (.inl e)
    · exact .inr (.inr (.inl e))
  · have:=(h.2.2.2 hw).2
    simp only [List.mem_cons,List.mem_append] at this ⊢
    rcases this with e | e
    · exact .inl e
    · exact .inr (.inl e)
theorem X7f {r:Z16} {z:Str} (h:Z8v m0 ms r.1 r.2.1 r.2.2.1 r.2.2.2) (hz:z ∈ ("same" : Str) :: m0 :: (ms++TWN)):Z8v m0 (ms++TWN) r.1 "twin" z r.2.2.2 :=
  ⟨h.1,by simp,hz,fun hw=>⟨(h.2.2.2 hw).1,by simp⟩⟩
theorem Y95 {mk:Str} {r:Z16} {o6 o7 o8:Option X} (g:Gd S b T) (hm:mk ∈ ms) (h:Z8v m0 ms r.1 r.2.1 r.2.2.1 r.2.2.2) {ac:List Z16}:∃ (z:Str) (T2:Sto),
    Z1q (U3 (Y2 eqD (V5 (Z1 5) (m_c (.int 2))) (Z1 2))) (Z8 (Y8 2 (Y9 [] g__law_pick)) (Z0 (Z1 0) (Z0 (V3 (Z0 (Z1 2) (Z0 (Z1 3) (Z7)))) (Z7)))) (V5 (Z1 5) (m_c (.int 2)))
      [some (.r (b + 1)),some (.d (Z5n m0 ms sh as rows)),some (.d (.str mk)),some (.d (.str "twin")),some (.r n),some (.d (Z61 r)),o6,o7,o8] (T++[lsR ac]) = .ok (.d (.str z)) (T2++[lsR ac])∧z ∈ ("same" : Str) :: m0 :: (ms++TWN)∧Gd S b T2:=by
  by_cases c:r.2.2.1=mk
  · obtain ⟨z,T2,e,hz,g2⟩:=W1y (o:=lsR ac) (ss:=[mk, "twin"]) g okR (by simp) (by simp)
    refine ⟨z,T2,Y69 (Z1z (W2 (Z0a (z := .d (.str r.2.2.1)) (Z6 rfl) U0 rfl) (Z6 rfl) Y5 Y5 (X94 c))) (kt (X5 (Z5 (Z6 rfl) (Z5 (Z3v (ds:=[mk, "twin"].map D.str) (Z5 (Z6 rfl) (Z5 (Z6 rfl) Y3)) rfl (hz4 (by simp))) Y3)) (Q8 rfl e))),?_,g2⟩
    simp only [List.mem_cons,List.not_mem_nil,or_false] at hz
    rcases hz with rfl | rfl
    · simp [hm]
    · simp
  · refine ⟨r.2.2.1,T,Y69 (Z1z (W2 (Z0a (z := .d (.str r.2.2.1)) (Z6 rfl) U0 rfl) (Z6 rfl) Y5 Y5 (X93 c))) (kf (Z0a (Z6 rfl) U0 rfl)),?_,g⟩
    have:=h.2.2.1
    simp only [List.mem_cons,List.mem_append] at this ⊢
    rcases this with e | e | e
    · exact .inl e
    · exact .inr (.inl e)
    · exact .inr (.inr (.inl e))
theorem X0h (g0:Gd S b T) (hk:ToolOk m0 ms sh as rows) (hr:rows.length ≤ 8) (ht:("twin" : Str) ∉ m0 :: ms):∃ (ms' sh' as':List Str) (rows':List Z16) (T2:Sto),g__law_doubled [.r (b + 1), .d (Z5n m0 ms sh as rows)] T = .ok (.d (Z5n m0 ms' sh' as' rows')) T2∧ToolOk m0 ms' sh' as' rows'∧Gd S b T2:=by
  suffices h:Fw (Z4p (ev0 9 [.r (b + 1), .d (Z5n m0 ms sh as rows)]) T) (fun r=>∃ (ms' sh' as':List Str) (rows':List Z16) (T2 L:Sto),r = .go (.rt (.d (Z5n m0 ms' sh' as' rows'))) (T2++L)∧ToolOk m0 ms' sh' as' rows'∧Gd S b T2) by
    obtain ⟨ms',sh',as',rows',T2,L,e,h1,g⟩:=h
    refine ⟨ms',sh',as',rows',T2,Z85 e rfl ?_,h1,g⟩
    have:=(g.ok).cut (T:=L)
    rwa [g.len,← g0.len] at this
  rw [W69]
  unfold db
  have hlen:Z1d [.d (Z52 (m0 :: ms))] T = .ok (.d (.int ((ms.length + 1:Nat):Int))) T:=W0x.trans (by rw [List.length_map]; rfl)
  by_cases h5:4 < ms.length + 1
  · refine Fw.if_ (b:=true) (Z1z (W2 (X5 (Z5 (Z0a (Z6 rfl) U0 X0j) Y3) hlen) U0 Y5 Y5 (W80 (by omega)))) (Fw.ift ?_)
    exact Fw.ret (Z6 rfl) ⟨ms,sh,as,rows,T,[],by simp,hk,g0⟩
  refine Fw.if_ (b:=false) (Z1z (W2 (X5 (Z5 (Z0a (Z6 rfl) U0 X0j) Y3) hlen) U0 Y5 Y5 (W8z (by omega)))) (Fw.iff (Fw.seqNil ?_))
  obtain ⟨mk,T1,e1,hmk,g1⟩:=Y58 (ss:=ms) g0 (by have:=hk.some; intro z; rw [z] at this; cases this) (by omega)
  have hsl:slX T (.d (Z52 (m0 :: ms))) (some 1) none=some (.d (.tup (ms.map D.str))):=by
    show some (X.d (.tup (Z4w (D.str m0 :: ms.map D.str) (some 1) none)))=_
    rw [Y03]
  refine Fw.asgT (xs:=[.d (.str mk), .d (.str "twin"), .r T1.length]) (S1:=T1++[lsR []]) (Z5 (X5 (Z5 (Z6 rfl) (Z5 (X5 (Z5 (Z26 (Z0a (Z6 rfl) U0 X0j) (Z38 U0) Y0w hsl) Y3) (W4k (by rw [List.length_map]; have:=hk.few; omega))) Y3)) (Q8 rfl e1)) (Z5 U0 (Z5 (Z94 Y3 (hz4 (by simp))) Y3))) (hz4 (by simp)) rfl ?_
  have hS1:T1.length=S.length:=g1.len
  rw [hS1]
  refine Fw.for_ (l:=rows) (f:=fun r=>X.d (Z61 r)) (S1:=T1++[lsR []]) (lk := .free) (Z13 (Z0a (Z6 rfl) U0 W6r) Z4l) (fun rest e T'=>∃ (done ac:List Z16) (T2:Sto) (o5 o7:Option X),rows=done++rest∧e=[some (.r (b + 1)),some (.d (Z5n m0 ms sh as rows)),some (.d (.str mk)),some (.d (.str "twin")),some (.r S.length),o5,none,o7,none]∧T'=T2++[lsR ac]∧Gd S b T2∧ac.length ≤ 2 * done.length∧Y29 m0 (ms++TWN) ac) (fun _ _=>False)
    ⟨[],[],T1,none,none,rfl,rfl,rfl,g1,Nat.le_refl _,fun _ h=>absurd h List.not_mem_nil⟩ (fun _ _ _ _=>rfl) ?_ ?_
  · rintro r rest e T' ⟨done,ac,T2,o5,o7,hd,rfl,rfl,g,hl,hR⟩
    refine ⟨_,rfl,?_⟩
    unfold W8x
    have hr1:r ∈ rows:=by rw [hd]; simp
    have hin:=hk.rows r hr1
    have hdl:done.length + 1 ≤ rows.length:=by rw [hd]; simp
    obtain ⟨z,T3,e3,hz,g3⟩:=Y95 (n:=S.length) (sh:=sh) (as:=as) (rows:=rows) (o6:=none) (o7:=o7) (o8:=none) (ac:=ac) g hmk hin
    refine Fw.set e3 ?_
    have hT3:S.length=T3.length:=g3.len.symm
    have hn3:(T3++[lsR ac])[S.length]?=some (.lst ((ac.map Z61).map X.d)):=by rw [hT3]; simp [lsR]
    have a3:U4 (.r S.length) [.d (Z61 (r.1,r.2.1,z,r.2.2.2))] (T3++[lsR ac]) = .ok (.d .non) (T3++[lsR (ac++[(r.1,r.2.1,z,r.2.2.2)])]):=by rw [hT3]; exact W3l (by omega)
    refine Fw.expr (x := .d .non) (S1:=T3++[lsR (ac++[(r.1,r.2.1,z,r.2.2.2)])]) (Y21 (Z6 rfl) (Z5q hn3) (Z5 (Z12 (ds:=[.str r.1, .str r.2.1, .str z, .bl r.2.2.2]) (Z5 (Z0a (Z6 rfl) U0 rfl) (Z5 (Z0a (Z6 rfl) U0 rfl) (Z5 (Z6 rfl) (Z5 (Z0a (Z6 rfl) U0 rfl) Y3)))) rfl (hz4 (by simp))) Y3) a3) ?_
    have hR1:Y29 m0 (ms++TWN) (ac++[(r.1,r.2.1,z,r.2.2.2)]):=fun q hq=>by
      rcases List.mem_append.mp hq with hq | hq
      · exact hR q hq
      · rw [List.mem_singleton.mp hq]; exact X7e (r:=r) hin hz
    by_cases c:r.2.1=mk
    · refine Fw.one (Fw.if_ (b:=true) (Z1z (W2 (Z0a (z := .d (.str r.2.1)) (Z6 rfl) U0 rfl) (Z6 rfl) Y5 Y5 (X94 c))) (Fw.ift ?_))
      obtain ⟨z2,T4,e4,hz2,g4⟩:=Y95 (n:=S.length) (sh:=sh) (as:=as) (rows:=rows) (o6:=none) (o7:=some (.d (.str z))) (o8:=none) (ac:=ac++[(r.1,r.2.1,z,r.2.2.2)]) g3 hmk hin
      refine Fw.seqSeq (Fw.set e4 ?_)
      have hT4:S.length=T4.length:=g4.len.symm
      have hn4:(T4++[lsR (ac++[(r.1,r.2.1,z,r.2.2.2)])])[S.length]?=some (.lst (((ac++[(r.1,r.2.1,z,r.2.2.2)]).map Z61).map X.d)):=by rw [hT4]; simp [lsR]
      have a4:U4 (.r S.length) [.d (Z61 ((r.1, "twin",z2,r.2.2.2):Z16))] (T4++[lsR (ac++[(r.1,r.2.1,z,r.2.2.2)])]) = .ok (.d .non) (T4++[lsR (ac++[(r.1,r.2.1,z,r.2.2.2)]++[((r.1, "twin",z2,r.2.2.2):Z16)])]):=by rw [hT4]; exact W3l (by simp; omega)
      refine Fw.expr (x := .d .non) (S1:=T4++[lsR (ac++[(r.1,r.2.1,z,r.2.2.2)]++[((r.1, "twin",z2,r.2.2.2):Z16)])]) (Y21 (Z6 rfl) (Z5q hn4) (Z5 (Z12 (ds:=[.str r.1, .str "twin", .str z2, .bl r.2.2.2]) (Z5 (Z0a (Z6 rfl) U0 rfl) (Z5 (Z6 rfl) (Z5 (Z6 rfl) (Z5 (Z0a (Z6 rfl) U0 rfl) Y3)))) rfl (hz4 (by simp))) Y3) a4) ?_
      refine Fw.nil (.nx ⟨done++[r],_,T4,_,_,by rw [hd]; simp,rfl,rfl,g4,by simp; omega,fun q hq=>?_⟩)
      rcases List.mem_append.mp hq with hq | hq
      · exact hR1 q hq
      · rw [List.mem_singleton.mp hq]; exact X7f (r:=r) hin hz2
    · refine Fw.one (Fw.if_ (b:=false) (Z1z (W2 (Z0a (z := .d (.str r.2.1)) (Z6 rfl) U0 rfl) (Z6 rfl) Y5 Y5 (X93 c))) (Fw.iff (Fw.seqNil ?_)))
      exact Fw.nil (.nx ⟨done++[r],_,T3,_,_,by rw [hd]; simp,rfl,rfl,g3,by simp; omega,hR1⟩)
  intro e T' hor
  obtain ⟨done,ac,T2,o5,o7,hd,rfl,rfl,g,hl,hR⟩:=hor.resolve_right id
  have hd:rows=done:=by rw [hd]; simp
  subst hd
  have hlc:Z14 (.nm 8) (V7 (Y6 (Z1 1) (Z1e) (X4 (m_c (.int 3))))) (W8) (Y2 Z4e (Z1 8) (Z1q (U3 (Y2 inD (Z1 2) (Z1 8))) (W1 (Z0 (Z1 3) (Z7))) (W1 (Z7)))) [8] [some (.r (b + 1)),some (.d (Z5n m0 ms sh as rows)),some (.d (.str mk)),some (.d (.str "twin")),some (.r S.length),o5,none,o7,none] (T2++[lsR ac]) =
      .ok (.d (.lst ([m0 :: ms,sh,as].map fun l=>Z52 (l++if mk ∈ l then TWN else [])))) (T2++[lsR ac]):=by
    refine Z4f (fun l=>X.d (Z52 l)) (fun l=>Z52 (l++if mk ∈ l then TWN else [])) (l:=[m0 :: ms,sh,as]) (Z13 (Z26 (Z6 rfl) Y0w (Z38 U0) W8o) rfl) (hz4 (by simp)) fun l hl=>⟨_,rfl,?_⟩
    have hll:l.length ≤ 5:=by
      have h1:=hk.few
      have h2:=hk.sh.length_le
      have h3:=hk.as.length_le
      simp only [List.mem_cons,List.not_mem_nil,or_false] at hl
      simp only [List.length_cons] at h3
      rcases hl with rfl | rfl | rfl
      · simp only [List.length_cons]; omega
      · omega
      · omega
    refine W2 (d1:=Z52 l) (d2:=Z52 (if mk ∈ l then TWN else [])) (Z6 rfl) (Y69 (Z1z (W2 (Z6 rfl) (Z6 rfl) Y5 Y5 Z8j)) ?_) Y5 Y5 ((X1v (by split <;> simp <;> omega)).trans (by unfold Z52; rw [List.map_append]))
    by_cases c:mk ∈ l
    · rw [decide_eq_true c,if_pos c]
      exact kt (Z12 (ds:=[.str "twin"]) (Z5 (Z6 rfl) Y3) rfl (hz4 (by simp)))
    · rw [decide_eq_false c,if_neg c]
      exact kf (Z12 (ds:=[]) Y3 rfl (hz4 (by simp)))
  refine Fw.set hlc ?_
  have hn:(T2++[lsR ac])[S.length]?=some (.lst ((ac.map Z61).map X.d)):=by rw [← g.len]; simp [lsR]
  have hm0:mk ∈ m0 :: ms:=List.mem_cons_of_mem _ hmk
  have htw:∀ l:List Str,(if mk ∈ l then (TWN:List Str) else []).Sublist TWN:=fun l=>by split <;> simp
  refine Fw.one (Fw.ret (x := .d (Z5n m0 (ms++TWN) (sh++if mk ∈ sh then TWN else []) (as++if mk ∈ as then TWN else []) ac)) (S1:=T2++[lsR ac]) (Z12 (ds:=[Z52 (m0 :: (ms++TWN)),Z52 (sh++if mk ∈ sh then TWN else []),Z52 (as++if mk ∈ as then TWN else []),X7j ac]) (Z5 (Z0a (z := .d (Z52 ((m0 :: ms)++if mk ∈ m0 :: ms then TWN else []))) (Z6 rfl) U0 rfl) (Z5 (Z0a (Z6 rfl) U0 rfl) (Z5 (Z0a (Z6 rfl) U0 rfl) (Z5 (X5 (Z5 (Z6 rfl) Y3) (W6l hn)) Y3)))) (by rw [if_pos hm0]; rfl) (hz4 (by simp))) ⟨_,_,_,_,T2,[lsR ac],rfl,?_,g⟩)
  have hfew:=hk.few
  refine ⟨fun x hx=>?_,by simp; omega,by simp,?_,hk.sh.append (htw _),hk.as.append (htw _),by omega,hR⟩
  · rw [← List.cons_append] at hx
    rcases List.mem_append.mp hx with hx | hx
    · exact hk.names x hx
    · rw [List.mem_singleton.mp hx]; decide +kernel
  · rw [← List.cons_append,List.nodup_append]
    exact ⟨hk.nd,by simp,fun x hx y hy e=>ht (by rw [List.mem_singleton.mp hy] at e; rw [← e]; exact hx)⟩
end
end Lw
namespace Lw
open PySem PySem.Spec L2 Bv
open PyProof.Rows hiding St
variable [HasW]
section
variable {t:TQ} {f:Str→Str} {hd:Str→Str}
omit [HasW] in
theorem X8c {pre post:List Str} {a:Str} (e:t.marks=pre++a :: post):Z29 t f a=a ∨ Z29 t f a ∈ pre:=by
  have ha:a ∈ t.marks:=by rw [e]; simp
  unfold Z29
  rw [if_pos ha,e,List.find?_append]
  cases h:pre.find? fun x=>decide (f x=f a) with
  | some b=>exact .inr (List.mem_of_find?_eq_some h)
  | none =>
    left
    rw [List.find?_cons,decide_eq_true rfl]
    rfl
theorem Y97 {L:List Str} (hn:L.Nodup) (hp:∀ pre post a,L=pre++a :: post→hd a=a ∨ hd a ∈ pre) (hf:∀ a ∈ L,hd (hd a)=hd a) {p:Str→Bool} (hc:∀ a ∈ L,p a=true→p (hd a)=true) :
    Z4d ((L.filter p).map hd)=(L.filter p).filter fun a=>decide (hd a=a):=by
  have g:∀ (rest pre:List Str),L=pre++rest→((rest.filter p).map hd).foldl Y0t ((pre.filter p).filter fun a=>decide (hd a=a))=(L.filter p).filter fun a=>decide (hd a=a):=by
    intro rest
    induction rest with
    | nil=>intro pre e; rw [e,List.append_nil]; rfl
    | cons a rest ih =>
      intro pre e
      have ha:a ∈ L:=by rw [e]; simp
      have hap:a ∉ pre:=fun z=>by
        rw [e] at hn
        exact (List.nodup_append.mp hn).2.2 a z a (by simp) rfl
      have e2:L=(pre++[a])++rest:=by rw [e,List.append_assoc]; rfl
      have ih:=ih (pre++[a]) e2
      by_cases c:p a=true
      · rw [List.filter_cons_of_pos c,List.map_cons,List.foldl_cons]
        have e3:Y0t ((pre.filter p).filter fun a=>decide (hd a=a)) (hd a)=((pre++[a]).filter p).filter fun a=>decide (hd a=a):=by
          rw [List.filter_append,List.filter_append,show [a].filter p=[a] from List.filter_cons_of_pos c]
          rcases hp pre rest a e with h | h
          · rw [h,show ([a].filter fun a=>decide (hd a=a))=[a] from List.filter_cons_of_pos (decide_eq_true h)]
            exact Y8m fun z=>hap (List.mem_filter.mp (List.mem_filter.mp z).1).1
          · have hne:hd a ≠ a:=fun z=>hap (z ▸ h)
            rw [show ([a].filter fun a=>decide (hd a=a))=[] from List.filter_cons_of_neg (by simpa using hne),List.append_nil]
            unfold Y0t
            rw [if_pos (List.mem_filter.mpr ⟨List.mem_filter.mpr ⟨h,hc a ha c⟩,decide_eq_true (hf a ha)⟩)]
        rw [e3]
        exact ih
      · rw [List.filter_cons_of_neg c]
        have e3:((pre++[a]).filter p).filter (fun a=>decide (hd a=a))=(pre.filter p).filter fun a=>decide (hd a=a):=by
          rw [List.filter_append,show [a].filter p=[] from List.filter_cons_of_neg c,List.append_nil]
        rw [← e3]
        exact ih
  exact g L [] rfl
variable (hk:t.Ok) (hT:Y0s t t.marks.length f)
include hk hT
theorem X3g:mgM t (Z29 t f)=t.marks.filter fun a=>decide (Z29 t f a=a):=by
  have h:=Y4g hk hT
  have:=Y97 (hd:=Z29 t f) (L:=t.marks) (p:=fun _=>true) hk.nd (fun _ _ _ e=>X8c e) (fun a ha=>X3h h ha) (fun _ _ _=>rfl)
  rw [List.filter_eq_self.mpr fun _ _=>rfl] at this
  exact this
theorem Y91 {s:List Str} (hs:s.Sublist t.marks) (hc:∀ a ∈ t.marks,a ∈ s→Z29 t f a ∈ s):Z4d (s.map (Z29 t f))=s.filter fun a=>decide (Z29 t f a=a):=by
  have h:=Y4g hk hT
  have:=Y97 (hd:=Z29 t f) (L:=t.marks) (p:=fun x=>decide (x ∈ s)) hk.nd (fun _ _ _ e=>X8c e) (fun a ha=>X3h h ha) (fun a ha q=>decide_eq_true (hc a ha (of_decide_eq_true q)))
  rwa [Y05 hs hk.nd] at this
theorem X47 {a:Str} (ha:a ∈ t.marks):t.told (Z29 t f a)=t.told a:=((Y4g hk hT).eqv a ha 0).symm
theorem Y94 {s:List Str} (hs:s.Sublist t.marks) {q:Str→Bool} (hq:∀ a ∈ t.marks,q a=decide (a ∈ s)):t.marks.filter q=s:=by
  exact (List.filter_congr fun x hx=>hq x hx).trans (Y05 hs hk.nd)
theorem W4u:mgS t (Z29 t f)=(mg t (Z29 t f)).sh:=by
  have h:=Y4g hk hT
  have hsm:t.sh.Sublist t.marks:=hk.sh.trans (List.sublist_cons_self _ _)
  have e1:mgS t (Z29 t f)=t.sh.filter fun a=>decide (Z29 t f a=a):=Y91 hk hT hsm fun a ha hs=>by
    have:=X47 hk hT ha
    unfold TQ.told at this
    simp only [Prod.mk.injEq,decide_eq_decide] at this
    exact this.2.1.mpr hs
  have e2:(mg t (Z29 t f)).sh=(mgM t (Z29 t f)).filter fun x=>decide (x ∈ mgS t (Z29 t f)):=by
    rw [Y0n h]
    have hm0:t.m0 ∉ mgS t (Z29 t f):=fun z=>by
      rw [e1] at z
      exact (List.nodup_cons.mp hk.nd).1 (hk.sh.subset (List.mem_filter.mp z).1)
    rw [List.filter_cons_of_neg (by simpa using hm0)]
    show ((mgM t (Z29 t f)).tail.filter _)=_
    rw [Y0n h]
    rfl
  rw [e2,X3g hk hT,List.filter_filter]
  refine (Y94 hk hT (s:=mgS t (Z29 t f)) (by rw [e1]; exact (List.filter_sublist).trans hsm) fun a ha=>?_).symm
  rw [Bool.eq_iff_iff]
  simp only [Bool.and_eq_true,decide_eq_true_eq]
  refine ⟨fun z=>z.1,fun z=>⟨z,?_⟩⟩
  rw [e1] at z
  exact of_decide_eq_true (List.mem_filter.mp z).2
theorem W4t:mgA t (Z29 t f)=(mg t (Z29 t f)).as:=by
  have h:=Y4g hk hT
  have hsm:t.as.Sublist t.marks:=hk.as
  have e1:mgA t (Z29 t f)=t.as.filter fun a=>decide (Z29 t f a=a):=Y91 hk hT hsm fun a ha hs=>by
    have:=X47 hk hT ha
    unfold TQ.told at this
    simp only [Prod.mk.injEq,decide_eq_decide] at this
    exact this.2.2.mpr hs
  show _=(mgM t (Z29 t f)).filter fun x=>decide (x ∈ mgA t (Z29 t f))
  rw [X3g hk hT,List.filter_filter]
  refine (Y94 hk hT (s:=mgA t (Z29 t f)) (by rw [e1]; exact (List.filter_sublist).trans hsm) fun a ha=>?_).symm
  rw [Bool.eq_iff_iff]
  simp only [Bool.and_eq_true,decide_eq_true_eq]
  refine ⟨fun z=>z.1,fun z=>⟨z,?_⟩⟩
  rw [e1] at z
  exact of_decide_eq_true (List.mem_filter.mp z).2
end
end Lw
namespace Lw
open PySem PySem.Spec L2 Bv
open PyProof.Rows hiding St
variable [HasW]
def X29:MS:=(Z9 (X2 4 (Z8 (Y8 3 (Y9 [] g__law_tool)) (Z0 (Z1 2) (Z0 (m_c (.int 5)) (Z0 (m_c (.int 8)) Z7))))) (Z9 (X2 4 (Z1q (U3 (Y2 gtD (Z8 (Y8 2 (Y9 [] g__law_draw)) (Z0 (Z1 2) (Z0 (m_c (.int 3)) Z7))) (m_c (.int 0)))) (Z8 (Y8 2 (Y9 [] g__law_doubled)) (Z0 (Z1 2) (Z0 (Z1 4) Z7))) (Z1 4))) (Z9 (Z0d (.tp [(.nm 5),(.nm 6)]) (W1 (Z0 (Z8 (Y8 1 (Y9 [] (callP g__law_heads))) (Z0 (Z1 4) Z7)) (Z0 (Z8 (Y8 1 (Y9 [] (callP g__law_tool_of))) (Z0 (Z1 4) Z7)) Z7)))) (Z9 (X2 7 (Z14 (.nm 11) (V7 (V5 (Z1 4) (m_c (.int 3)))) W8 (W1 (Z0 (V5 (Z1 11) (m_c (.int 0))) (Z0 (Z3r (Z1 5) (V5 (Z1 11) (m_c (.int 1))) (V5 (Z1 11) (m_c (.int 1)))) (Z0 (Z3r (Z1 5) (V5 (Z1 11) (m_c (.int 2))) (V5 (Z1 11) (m_c (.int 2)))) (Z0 (V5 (Z1 11) (m_c (.int 3))) Z7))))) [11])) (Z9 (X2 8 (Z14 (.nm 12) (V7 (Y6 (Z1 4) Z1e (X4 (m_c (.int 3))))) W8 (Z8 (Y8 1 (Y9 [] (callP g__law_once))) (Z0 (Z14 (.nm 13) (V7 (Z1 12)) W8 (Z0t (Z1 5) (Z1 13)) [13]) Z7)) [12])) (Z9 (X2 9 (Z8 (Y8 1 (Y9 [] (callP g__law_tool_lines))) (Z0 (W1 (Z0 (V5 (Z1 8) (m_c (.int 0))) (Z0 (V5 (Z1 8) (m_c (.int 1))) (Z0 (V5 (Z1 8) (m_c (.int 2))) (Z0 (Z8 Z75 (Z0 (Z1 7) Z7)) Z7))))) Z7))) (Z9 (X2 10 (Z8 (Y8 1 (Y9 [] (callP g_merged))) (Z0 (Z1 6) Z7))) (Z9 (Z0r (U2 (U3 (Y2 neD (Z2s Z17 (Z8 (Z5c "Tool" Z1g) (Z0 (Z1 10) Z7)) (m_c (.str "\n"))) (Z1 9))) (U2 (X7 (Y7 (Z8 (Y8 2 (Y9 [] (callP g_alike))) (Z0 (Z1 6) (Z0 (Z1 10) Z7))))) (U3 (Y2 neD (Z2s Z17 (Z8 (Z5c "Tool" Z1g) (Z0 (Z1 6) Z7)) (m_c (.str "\n"))) (Z8 (Y8 1 (Y9 [] (callP g__law_tool_lines))) (Z0 (Z1 4) Z7)))))) (X3 (m_c (.bl false))) W7) (Z0r (U2 (U3 (Y2 (eqO "Tool" Z4t true) (Z8 (Y8 1 (Y9 [] (callP g_merged))) (Z0 (Z1 10) Z7)) (Z1 10))) (U3 (Y2 (eqO "Tool" Z4t true) (Z8 (Y8 1 (Y9 [] (callP g_merged))) (Z0 (Z1 6) Z7)) (Z1 10)))) (X3 (m_c (.bl false))) W7)))))))))
def W9b:MS:=(Z9 (X2 2 (Z8 (Y8 2 (Y9 [] g__law_source)) (Z0 (Z1 0) (Z0 (Z1 1) Z7)))) (Z1f (.nm 3) (Z5p (Z0 (m_c (.int 4)) (Z7))) X29))
def lw:MS:=(Z9 (Z1f (.nm 1) (Z5p (Z0 (Z8 (Q7 Z3h) (Z0 (m_c (.int 1)) (Z0 (Z8 (Q7 Z3i) (Z0 (m_c (.int 2)) (Z0 (Z8 Z1d (Z0 (Z1 0) (Z7))) (Z7)))) (Z7)))) (Z7))) W9b) (X3 (m_c (.bl true))))
theorem W7z:X9s=lw:=by kernel_rfl
def W9a:MS:=(Z0r (U3 (Y2 X32 (Z1 2) (Z1 1))) (W0 (Z1s V8 U4 (Z1 1) (Z0 (Z1 2) Z7))) W7)
def lo:MS:=(Z9 (X2 1 (V2 Z7)) (Z9 (Z1f (.nm 2) (V7 (Z1 0)) W9a) (X3 (Z8 Z75 (Z0 (Z1 1) Z7)))))
theorem W7x:Z8x=lo:=by kernel_rfl
section
variable {S T:Sto} {b n:Nat} {ns:List Int} {t:TQ} {f:Str→Str}
theorem X60 {s:Str} {ss:List Str}:X32 (.str s) (.lst (ss.map D.str))=some (.bl (!decide (s ∈ ss))):=by
  have h:=X20 (s:=s) (ss:=ss)
  unfold inD at h
  obtain ⟨b,h1,h2⟩:=Option.map_eq_some_iff.mp h
  cases h2
  unfold X32
  rw [h1]
  rfl
theorem W6m {x:X} {n:Nat} (h:x ∈ Bv.upTo 0 n):∃ k:Int,x = .d (.int k)∧0 ≤ k:=by
  unfold Bv.upTo at h
  obtain ⟨i,_,rfl⟩:=List.mem_map.mp h
  exact ⟨_,rfl,by omega⟩
theorem X66 {ss:List Str} (hl:ss.length < 100):g__law_once [.lst (ss.map D.str)] = .ok (Z52 (Z4d ss)):=by
  refine Z51 ?_
  rw [W7x]
  unfold lo
  refine Fw.set (x := .r 0) (S1:=[.lst ((([]:List Str).map D.str).map X.d)]) (Z94 Y3 (hz4 (by simp))) ?_
  refine Fw.for_ (l:=ss) (f:=fun s=>X.d (.str s)) (S1:=[.lst ((([]:List Str).map D.str).map X.d)]) (lk := .free) (Z13 (Z6 rfl) Y8l) (fun rest e T=>∃ (ac:List Str) (o2:Option X),e=[some (.d (.lst (ss.map D.str))),some (.r 0),o2]∧T=[.lst ((ac.map D.str).map X.d)]∧ac.length + rest.length ≤ ss.length∧rest.foldl Y0t ac=Z4d ss) (fun _ _=>False) ⟨[],none,rfl,rfl,by simp,rfl⟩ (fun _ _ _ _=>rfl) ?_ ?_
  · rintro s rest e T ⟨ac,o2,rfl,rfl,hl2,hu⟩
    refine ⟨_,rfl,?_⟩
    unfold W9a
    rw [List.length_cons] at hl2
    rw [List.foldl_cons] at hu
    have hn:[O.lst ((ac.map D.str).map X.d)][0]?=some (.lst ((ac.map D.str).map X.d)):=rfl
    have hin:X32 (.str s) (.lst (ac.map D.str))=some (.bl (!decide (s ∈ ac))):=X60
    refine Fw.one (Fw.if_ (b := !decide (s ∈ ac)) (Z1z (W2 (Z6 rfl) (Z6 rfl) Y5 (X2w hn) hin)) (Fw.ifc (fun hc=>?_) fun hc=>?_))
    · have hc:s ∉ ac:=by simpa using hc
      refine Fw.expr (x := .d .non) (S1:=[.lst (((ac++[s]).map D.str).map X.d)]) (Y21 (Z6 rfl) (Z5q hn) (Z5 (Z6 rfl) Y3) ((Y1k hn (by rw [List.length_map,List.length_map,sizeLine_eq]; omega)).trans (by simp))) (Fw.nil (.nx ⟨ac++[s],_,rfl,rfl,by simp; omega,?_⟩))
      rw [← hu]
      unfold Y0t
      rw [if_neg hc]
    · have hc:s ∈ ac:=by simpa using hc
      refine Fw.seqNil (Fw.nil (.nx ⟨ac,_,rfl,rfl,by omega,?_⟩))
      rw [← hu]
      unfold Y0t
      rw [if_pos hc]
  · intro e T hor
    obtain ⟨ac,o2,rfl,rfl,_,hu⟩:=hor.resolve_right id
    have hu:ac=Z4d ss:=hu
    exact Fw.one (Fw.retP (X5 (Z5 (Z6 rfl) Y3) (W6l (n:=0) rfl)) Y5 (by rw [hu]; rfl))
def evL (ns:List Int) (o1 o2 o3 o4 o5 o6 o7 o8 o9 o10:Option X):Ev:=[some (.d (.scr ns)),o1,o2,o3,o4,o5,o6,o7,o8,o9,o10,none,none,none]
theorem X6n (hk:t.Ok) (hT:Y0s t t.marks.length f):D.tup [Z52 (Z4d (t.marks.map (Z29 t f))),Z52 (Z4d (t.sh.map (Z29 t f))),Z52 (Z4d (t.as.map (Z29 t f))), .tup (t.rows.map fun r=>Z61 (Z8m (Z29 t f) r))]=(mg t (Z29 t f)).L:=by
  have h:=Y4g hk hT
  show D.tup [Z52 (mgM t (Z29 t f)),Z52 (mgS t (Z29 t f)),Z52 (mgA t (Z29 t f)),_]=_
  rw [Y0n h,W4u hk hT,W4t hk hT]
  show D.tup [_,_,_, .tup (t.rows.map fun r=>Z61 (Z8m (Z29 t f) r))]=D.tup [_,_,_, .tup ((t.rows.map (Z8m (Z29 t f))).map Z61)]
  rw [List.map_map]
  rfl
theorem Y9a {l:List Str}:fl 1 (.lst (l.map D.str))=true:=by
  show (l.map D.str).all (fl 0)=true
  rw [List.all_map]
  exact List.all_eq_true.mpr fun _ _=>rfl
theorem Y6o {q:TQ} (hq:q.Ok) {e:Ev} {i:Nat} (h:e[i]?=some (some (.d q.D))):Z2s Z17 (Z8 (Z5c "Tool" Z1g) (Z0 (Z1 i) (Z7))) (m_c (.str "\n")) e T = .ok (.d (.lst ((Z3y q.m0 q.ms q.sh q.as q.rows).map D.str))) T :=
  Y87 (X5 (Z5 (Z6 h) Y3) (Y6q hq)) U0 (X4s hq (List.Perm.refl _) (List.Perm.refl _))
theorem W25 (g:Gd S b T) {o1 o3 o4 o5 o6 o7 o8 o9 o10:Option X}:Fw (X29 (evL ns o1 (some (.r (b + 1))) o3 o4 o5 o6 o7 o8 o9 o10) T) (fun r=>∃ o4 o5 o6 o7 o8 o9 o10 T2,r = .go (.nx (evL ns o1 (some (.r (b + 1))) o3 o4 o5 o6 o7 o8 o9 o10)) T2∧Gd S b T2):=by
  unfold X29
  obtain ⟨m0,ms,sh,as,rows,T1,e1,hk0,_,hr,htw,g1⟩:=W24 (most:=5) (many:=8) g (by decide) (by decide) (by decide)
  refine Fw.set (X5 (Z5 (Z6 rfl) (Z5 U0 (Z5 U0 Y3))) (Q8 rfl e1)) ?_
  obtain ⟨d,T2,e2,d0,d1,g2⟩:=Z8i (m:=3) g1 (by decide)
  have hx:∃ (t:TQ) (T3:Sto),Z1q (U3 (Y2 gtD (Z8 (Y8 2 (Y9 [] g__law_draw)) (Z0 (Z1 2) (Z0 (m_c (.int 3)) (Z7)))) (m_c (.int 0)))) (Z8 (Y8 2 (Y9 [] g__law_doubled)) (Z0 (Z1 2) (Z0 (Z1 4) (Z7)))) (Z1 4) (evL ns o1 (some (.r (b + 1))) o3 (some (.d (Z5n m0 ms sh as rows))) o5 o6 o7 o8 o9 o10) T1 = .ok (.d t.L) T3∧t.Ok∧Gd S b T3:=by
    by_cases c:0 < d
    · obtain ⟨ms',sh',as',rows',T3,e3,hk3,g3⟩:=X0h g2 hk0 hr htw
      exact ⟨⟨m0,ms',sh',as',rows'⟩,T3,Y69 (Z1z (W2 (X5 (Z5 (Z6 rfl) (Z5 U0 Y3)) (Q8 rfl e2)) U0 Y5 Y5 (W80 c))) (kt (X5 (Z5 (Z6 rfl) (Z5 (Z6 rfl) Y3)) (Q8 rfl e3))),hk3,g3⟩
    · exact ⟨⟨m0,ms,sh,as,rows⟩,T2,Y69 (Z1z (W2 (X5 (Z5 (Z6 rfl) (Z5 U0 Y3)) (Q8 rfl e2)) U0 Y5 Y5 (W8z c))) (kf (Z6 rfl)),hk0,g2⟩
  obtain ⟨t,T3,e3,hk,g3⟩:=hx
  refine Fw.set e3 ?_
  obtain ⟨f,em,hT⟩:=Y5w hk
  have h:=Y4g hk hT
  have hq:=W05 h hk
  refine Fw.asg (x := .d (.tup [kD (Z29 t f) t.marks,t.D])) (S1:=T3) (Z12 (ds:=[kD (Z29 t f) t.marks,t.D]) (Z5 (X5 (Z5 (Z6 rfl) Y3) (Q8 rfl (Y0v (X2y hk hT)))) (Z5 (X5 (Z5 (Z6 rfl) Y3) (Q8 rfl (Y0v (X1k hk)))) Y3)) rfl (hz4 (by simp))) rfl ?_
  have hrl:=hk.len
  have hfew:=hk.few
  have lsh:=hk.sh.length_le
  have las:=hk.as.length_le
  simp only [List.length_cons] at las
  refine Fw.set (x := .d (.lst (t.rows.map fun r=>Z61 (Z8m (Z29 t f) r)))) (S1:=T3) (Z4f (fun r=>X.d (Z61 r)) (fun r=>Z61 (Z8m (Z29 t f) r)) (l:=t.rows) (Z13 (Z0a (Z6 rfl) U0 W6r) Z4l) (hz4 (by omega)) fun r _=>⟨_,rfl,Z12 (ds:=[.str r.1, .str (Z29 t f r.2.1), .str (Z29 t f r.2.2.1), .bl r.2.2.2]) (Z5 (Z0a (Z6 rfl) U0 rfl) (Z5 (Z7z (Z6 rfl) Y4c (Z0a (z := .d (.str r.2.1)) (Z6 rfl) U0 rfl) (Z0a (z := .d (.str r.2.1)) (Z6 rfl) U0 rfl) (X57 h)) (Z5 (Z7z (Z6 rfl) Y4c (Z0a (z := .d (.str r.2.2.1)) (Z6 rfl) U0 rfl) (Z0a (z := .d (.str r.2.2.1)) (Z6 rfl) U0 rfl) (X57 h)) (Z5 (Z0a (Z6 rfl) U0 rfl) Y3)))) rfl (hz4 (by simp))⟩) ?_
  have hsub:∀ l ∈ [t.marks,t.sh,t.as],(∀ a ∈ l,a ∈ t.marks)∧l.length < 100:=fun l hl=>by
    simp only [List.mem_cons,List.not_mem_nil,or_false] at hl
    rcases hl with rfl | rfl | rfl
    · exact ⟨fun _ h=>h,by show t.ms.length + 1 < 100; omega⟩
    · exact ⟨fun a ha=>List.mem_cons_of_mem _ (hk.sh.subset ha),by omega⟩
    · exact ⟨fun a ha=>hk.as.subset ha,by omega⟩
  refine Fw.set (x := .d (.lst ([t.marks,t.sh,t.as].map fun l=>Z52 (Z4d (l.map (Z29 t f)))))) (S1:=T3) (Z4f (fun l=>X.d (Z52 l)) (fun l=>Z52 (Z4d (l.map (Z29 t f)))) (l:=[t.marks,t.sh,t.as]) (Z13 (Z26 (Z6 rfl) Y0w (Z38 U0) W8o) rfl) (hz4 (by simp)) fun l hl=>⟨_,rfl,X5 (Z5 (Z4f (fun a=>X.d (.str a)) (fun a => .str (Z29 t f a)) (l:=l) (Z13 (Z6 rfl) Z4l) (hz4 (by have:=(hsub l hl).2; omega)) fun a ha=>⟨_,rfl,Z2t (Z6 rfl) (Z6 rfl) (Y11 ((hsub l hl).1 a ha))⟩) Y3) (Q8 rfl (Y0v (by rw [show (l.map fun a=>D.str (Z29 t f a))=(l.map (Z29 t f)).map D.str by rw [List.map_map]; rfl]; exact X66 (by rw [List.length_map]; exact (hsub l hl).2))))⟩) ?_
  refine Fw.set (X5 (Z5 (Z12 (ds:=[Z52 (Z4d (t.marks.map (Z29 t f))),Z52 (Z4d (t.sh.map (Z29 t f))),Z52 (Z4d (t.as.map (Z29 t f))), .tup (t.rows.map fun r=>Z61 (Z8m (Z29 t f) r))]) (Z5 (Z0a (Z6 rfl) U0 rfl) (Z5 (Z0a (Z6 rfl) U0 rfl) (Z5 (Z0a (Z6 rfl) U0 rfl) (Z5 (X5 (Z5 (Z6 rfl) Y3) X1m) Y3)))) rfl (hz4 (by simp))) Y3) (Q8 rfl (Y0v (by rw [X6n hk hT]; exact Z6v hq)))) ?_
  refine Fw.set (X5 (Z5 (Z6 rfl) Y3) (Q8 rfl (Y0v em))) ?_
  obtain ⟨w,ew,pw⟩:=X02 hk hq
  have hw:w=none:=pw.none_iff.mpr fun k=>W4w h hk k
  obtain ⟨f2,em2,hT2⟩:=Y5w hq
  rw [X6m h hk (Y4g hq hT2)] at em2
  refine Fw.if_ (b:=false) (Y5k (Z1z (W2 (Y6o hq rfl) (Z6 rfl) Y5 Y5 (X31 Y9a (by decide)))) (Y5k (X97 (Y04 (X5 (Z5 (Z6 rfl) (Z5 (Z6 rfl) Y3)) (Q8 rfl (Y5j (by rw [X5k ew,hw]; rfl)))) Z74)) (Z1z (W2 (Y6o hk rfl) (X5 (Z5 (Z6 rfl) Y3) (Q8 rfl (Y0v (Z6v hk)))) Y5 Y5 (X31 Y9a (by decide)))))) (Fw.iff (Fw.seqNil ?_))
  refine Fw.one (Fw.if_ (b:=false) (Y5k (Z1z (W2 (X5 (Z5 (Z6 rfl) Y3) (Q8 rfl (Y0v em2))) (Z6 rfl) Y5 Y5 (X73 (X2k hq) rfl))) (Z1z (W2 (X5 (Z5 (Z6 rfl) Y3) (Q8 rfl (Y0v em))) (Z6 rfl) Y5 Y5 (X73 (X2k hq) rfl)))) (Fw.iff (Fw.seqNil ?_)))
  exact Fw.nil ⟨_,_,_,_,_,_,_,T3,rfl,g3⟩
end
theorem plain (ns:List Int) (hl:ns.length ≤ 63):g_law [.scr ns] = .ok (.bl true):=by
  refine Z51 ?_
  rw [W7z]
  unfold lw
  refine Fw.forI (t := .nm 1) (xs:=Bv.upTo 0 (max 1 (min 2 ns.length))) (S1:=[]) (lk := .free) (W5z (lo:=1) (hi:=2)) (fun e T=>OkS T∧∃ o1 o2 o3 o4 o5 o6 o7 o8 o9 o10,e=evL ns o1 o2 o3 o4 o5 o6 o7 o8 o9 o10) ⟨Y0d,_,_,_,_,_,_,_,_,_,_,rfl⟩ (fun _ _ _=>rfl) ?_ ?_
  · rintro x hx e T ⟨hS,o1,o2,o3,o4,o5,o6,o7,o8,o9,o10,rfl⟩
    obtain ⟨k,rfl,hk⟩:=W6m hx
    refine ⟨evL ns (some (.d (.int k))) o2 o3 o4 o5 o6 o7 o8 o9 o10,rfl,?_⟩
    unfold W9b
    obtain ⟨S2,e1,_,hS2,hb⟩:=X4r (S:=T) (ns:=ns) (k:=k) hS hl hk
    refine Fw.set (X5 (Z5 (Z6 rfl) (Z5 (Z6 rfl) Y3)) (Q8 rfl e1)) ?_
    refine Fw.one (Fw.forI (t := .nm 3) (xs:=Bv.upTo 0 4) (S1:=S2) (lk := .free) (Z69 (n:=4) (Z5 U0 Y3) (by unfold Y0p; simp)) (fun e T2=>∃ o3 o4 o5 o6 o7 o8 o9 o10,e=evL ns (some (.d (.int k))) (some (.r (T.length + 1))) o3 o4 o5 o6 o7 o8 o9 o10∧Gd S2 T.length T2) ⟨_,_,_,_,_,_,_,_,rfl,Gd.refl hS2 hb⟩ (fun _ _ _=>rfl) ?_ ?_)
    · rintro y hy e T2 ⟨o3,o4,o5,o6,o7,o8,o9,o10,rfl,g⟩
      refine ⟨evL ns (some (.d (.int k))) (some (.r (T.length + 1))) (some y) o4 o5 o6 o7 o8 o9 o10,rfl,(W25 g).mono ?_⟩
      rintro r ⟨o4,o5,o6,o7,o8,o9,o10,T3,rfl,g⟩
      exact .nx ⟨_,_,_,_,_,_,_,_,rfl,g⟩
    · rintro e T2 ⟨o3,o4,o5,o6,o7,o8,o9,o10,rfl,g⟩
      exact Fw.nil (.nx ⟨g.ok,_,_,_,_,_,_,_,_,_,_,rfl⟩)
  · rintro e T ⟨_,o1,o2,o3,o4,o5,o6,o7,o8,o9,o10,rfl⟩
    exact Fw.one (Fw.retP U0 Y5 rfl)
end Lw
set_option maxHeartbeats 0
namespace Lw
end Lw
open PySem PySem.W PySem.Calls PyProof.Rows
theorem PySem.Challenge.cw_wordingkept_k56_marks_that_are_one_holds : PySem.Challenge.rw_wordingkept_k56_marks_that_are_one.Holds := by
  w_on; o_law
  refine HandSHeadRun.head_any (r:=Lw.Rw) (q:=Lw.Vw) (H:=Lw.hkL) (ob:=Lw.obL) (M:=60000) (loose:=Lw.looseL) (d:=HandSHeadRun.topDef Lw.Rw.prog 47) (kwd:=[]) Lw.obL_eq
    (by kernel_rfl) (fun s=>by kernel_rfl) Lw.runL (by kernel_rfl) (by kernel_rfl) (by kernel_rfl) (by rfl) (by first | assumption | decide +kernel) (by decide +kernel) ⟨rfl,rfl,rfl,rfl,rfl,by decide +kernel⟩ ?hw ?hc
  case hw=>w_witness2
  case hc =>
    refine Bv.walk_ofG (l:=PySem.Challenge.rw_wordingkept_k56_marks_that_are_one) (n:=63) (k:=9) (x := "_law_script") rfl (by decide) (by kernel_rfl) ⟨rfl,by decide,by decide⟩ ?F
    intro w mg fa h Y G hmg0
    obtain ⟨K,KX,c⟩:=Y
    have hmg:mg ("law" : PySem.Str)=some (.ref fa):=by
      have e:(HandSHeadRun.topDef Lw.Rw.prog 47).name=("law" : PySem.Str):=by kernel_rfl
      rw [← e]
      exact hmg0
    letI:Bv.HasW:=⟨w⟩
    obtain ⟨fd,hb,hF⟩:=Lw.all (P:=(PySem.Challenge.rw_wordingkept_k56_marks_that_are_one).prog) KX G c (by kernel_rfl) (by kernel_rfl) hmg
    exact ⟨K,fd,Bv.spP K 1 Lw.g_law,KX,hb,fun H a ns hl only hS=>Bv.law_sp Lw.plain H a ns hl only hS,hF⟩
