import PyProof.Rows.All
import Wide.All
import OpenK.AllK
import Wide.FinOn
import HandS.ForMost
import HandS.Exc
import HandS.WordsExc
import HandS.IsInst
import HandS.Flow
import HandS.HeadHook1
import KE.KDictCopyH
import HandS.TupAny
import HandS.Deep
import HandS.Wide
import HandS.Star
import HandS.Walk
import HandS.ExcOwn
import HandS.ExcCtx
import HandS.SuiteRaise
import HandS.RaiseFrom
import KE.KExcRaise
import HandS.CallSlots
import HandS.Defaults
import HandS.HeadEnd
import HandS.Dict
import HandS.More
import HandS.List
import HandS.Text
import HandS.Style
import HandS.RaiseMore
import PyProof.ReprRoads
import HandS.NamedTupSort
import HandS.OwnEq
import KE.KCallOwn
import KE.KFmtOwn
import PyProof.InstNe
import HandS.HeadHook2
import HandS.ClsMeth
import HandS.Strs
import KE.GoesMore
import PyProof.Draws
import PyProof.EnumMake
import KE.GoesZip
import HandS.ExcInit
import KE.KExcInit
import KE.KExcSuper
import KE.KExcIs
import HandS.ExcIs
import HandS.ExcField
import HandS.Head0
import HandS.Head1
import HandS.Head2
import Lean
import KE.KStateDown
import OpenK.KOps
import OpenK.KMeth
import HandS.NoneIn
import HandS.DictComp
import HandS.SortInts
import Wide.Txt2
import HandS.Property
import KE.KEqDict
import PyProof.Rows.TupDisplay
import HandS.SetBool
import PyProof.Rows.SortShellAny
import HandS.FStr
import KE.KxField
import PyProof.FString2
import PyProof.FString3
import HandS.Conv
import HandS.Iter
import HandS.Zip
import HandS.ReplaceLit
import HandS.Comp
import HandS.ListItems
import KE.KDictZip
import KE.DataCmp
import KE.SortData
import KE.KDictPairs
import KE.KDictSum
import HandS.ExcValue
import PySem.Challenge.RW_wordingkept_k45_papers_known_by_hand
set_option Elab.async false
set_option linter.all false
set_option maxRecDepth 100000
set_option maxHeartbeats 4000000
namespace Bv
open PySem PySem.Spec L2
open PyProof.Rows hiding St
class HasW where
  w:World
variable [HasW]
inductive D where
  | non | bl (b:Bool) | int (i:Int) | str (x:Str)
  | tup (ds:List D) | lst (ds:List D) | dic (kvs:List (D × D))
  | obj (C:Str) (fs:List (Str × D)) | gl (x:Str) | scr (ns:List Int)
inductive X where
  | d (v:D) | r (n:Nat)
inductive O where
  | lst (xs:List X) | dic (kvs:List (D × X)) | ins (C:Str) (fs:List (Str × X))
  | fdc (kvs:List (D × X)) | tdc (kvs:List (D × X))
  | tfc (kvs:List (D × X))
abbrev Sto:=List O
abbrev Ev:=List (Option X)
inductive R (α:Type) where
  | ok (a:α) (S:Sto) | err (C:Str) (fs:List (Str × D)) (S:Sto) | bad
def D.key?:D→Option Key
  | .int i=>some (.inl i)
  | .str x=>some (.inr x)
  | _=>none
def D.leaf?:D→Option Leaf
  | .non=>some .none
  | .bl b=>some (.num (if b=true then 1 else 0))
  | .int i=>some (.num i)
  | .str x=>some (.text x)
  | _=>none
def leafs?:List D→Option (List Leaf)
  | []=>some []
  | d :: r=>match d.leaf?,leafs? r with
    | some k,some l=>some (k :: l)
    | _,_=>none
def D.tkey?:D→Option (List Leaf)
  | .tup ds=>leafs? ds
  | _=>none
def W0i (ks:List Leaf):Int:=reduceHash (Builtin.Tuple.tupleHashOf (ks.map fun k=>k.key.hash HasW.w))
def TDx (a:Addr) (xs:List (List Leaf × Addr × V)) (h:Heap):Prop:=(a == sysModules)=false∧∃ ys:List (List Leaf × Addr × Value),Paired (fun p q=>p.1=q.1∧p.2.1=q.2.1∧RelV p.2.2 q.2.2) xs ys ∧
  ∃ o es ep,h.get? a=some o∧o.ExactDict∧o.data = .dict es ep∧es.toList=ys.map (fun x=>(⟨W0i x.1, .ref x.2.1,x.2.2⟩:DictEntry))∧(ys.map (·.1)).Nodup
abbrev TDo (a:Addr) (xs:List (List Leaf × Addr × V)):HO := .ext (TDx a xs)
abbrev Wd:=Addr→Prop
def Wn (Z:Wd) (ρ:List Addr):Wd:=fun a=>Z a ∨ a ∈ ρ
def V2c (K:PySem.W.Frag) (a:Addr) (xs:List V):Prop:=∃ (o:Obj) (its:Array Value) (n:Nat),K.lookup a=some o∧o.cls = .type "tuple" ∧ o.data = .seq its n∧its.size ≤ sizeLine∧Vals xs its.toList
def Tp (K:PySem.W.Frag) (W:Wd) (H:Hp) (a:Addr) (xs:List V):Prop:=(¬ W a∧H a=some (.tup xs)) ∨ V2c K a xs
theorem Tp.sq {K:PySem.W.Frag} {W:Wd} {H:Hp} {a:Addr} {xs:List V} (h:Tp K W H a xs):SqT K H a xs:=by
  rcases h with ⟨_,h⟩ | h
  · exact .inl (.inl h)
  · exact .inr h
def V2t (K:PySem.W.Frag) (a:Addr) (xs:List V):Prop:=∃ (o:Obj) (its:Array Value) (n:Nat),K.lookup a=some o∧o.cls = .type "list" ∧ o.dict=none∧o.data = .seq its n∧its.size ≤ sizeLine∧Vals xs its.toList
def Lp (K:PySem.W.Frag) (W:Wd) (H:Hp) (a:Addr) (xs:List V):Prop:=(¬ W a∧Rd H a (.lst xs)) ∨ V2t K a xs
theorem Lp.sl {K:PySem.W.Frag} {W:Wd} {H:Hp} {a:Addr} {xs:List V} (h:Lp K W H a xs):SqL K H a xs:=by
  rcases h with ⟨_,h⟩ | h
  · exact .inl h
  · exact .inr h
mutual
inductive AV (K:PySem.W.Frag) (W:Wd) (H:Hp):D→V→Prop
  | non:AV K W H .non .non
  | bl (b:Bool):AV K W H (.bl b) (.bl b)
  | int (i:Int):AV K W H (.int i) (.int i)
  | str {x:Str}:PyData.strOk x=true→AV K W H (.str x) (.str x)
  | gl (x:Str):AV K W H (.gl x) (.ref (He.ga K x))
  | scr {a:Addr} {ns:List Int}:Lp K W H a (ns.map V.int)→AV K W H (.scr ns) (.ref a)
  | tup {a:Addr} {xs:List V} {ds:List D}:Tp K W H a xs→AVs K W H ds xs→AV K W H (.tup ds) (.ref a)
  | lst {a:Addr} {xs:List V} {ds:List D}:¬ W a→H a=some (.lst xs)→AVs K W H ds xs→AV K W H (.lst ds) (.ref a)
  | dic {a:Addr} {o:Obj} {ks:List (Key × V)} {kvs:List (D × D)}:¬ W a→H a=some (.frz o (.dK ks))→AVk K W H kvs ks→AV K W H (.dic kvs) (.ref a)
  | obj {C:Str} {a dx:Addr} {vs:List (Str × V)} {fs:List (Str × D)}:¬ W a→H a=some (.ins (He.ga K C) dx vs)→AVf K W H fs vs→AV K W H (.obj C fs) (.ref a)
inductive AVs (K:PySem.W.Frag) (W:Wd) (H:Hp):List D→List V→Prop
  | nil:AVs K W H [] []
  | cons {d:D} {v:V} {ds:List D} {vs:List V}:AV K W H d v→AVs K W H ds vs→AVs K W H (d :: ds) (v :: vs)
inductive AVk (K:PySem.W.Frag) (W:Wd) (H:Hp):List (D × D)→List (Key × V)→Prop
  | nil:AVk K W H [] []
  | cons {k d:D} {q:Key} {v:V} {ds:List (D × D)} {vs:List (Key × V)}:k.key?=some q→AV K W H d v→AVk K W H ds vs→AVk K W H ((k,d) :: ds) ((q,v) :: vs)
inductive AVf (K:PySem.W.Frag) (W:Wd) (H:Hp):List (Str × D)→List (Str × V)→Prop
  | nil:AVf K W H [] []
  | cons {f:Str} {d:D} {v:V} {ds:List (Str × D)} {vs:List (Str × V)}:AV K W H d v→AVf K W H ds vs→AVf K W H ((f,d) :: ds) ((f,v) :: vs)
end
def Mv (W:Wd) (H:Hp) (W':Wd) (H':Hp):Prop:=∀ a o,¬ W a→H a=some o→¬ W' a∧H' a=some o
theorem Mv.rd {W W':Wd} {H H':Hp} {a:Addr} {u:HO} (m:Mv W H W' H') (h:¬ W a) (r:Rd H a u):¬ W' a∧Rd H' a u:=by
  rcases r with r | ⟨o,r⟩
  · obtain ⟨h1,h2⟩:=m a _ h r
    exact ⟨h1, .inl h2⟩
  · obtain ⟨h1,h2⟩:=m a _ h r
    exact ⟨h1, .inr ⟨o,h2⟩⟩
theorem Mv.lp {K:PySem.W.Frag} {W W':Wd} {H H':Hp} {a:Addr} {xs:List V} (m:Mv W H W' H') (h:Lp K W H a xs):Lp K W' H' a xs:=by
  rcases h with ⟨h1,h2⟩ | h
  · exact .inl (m.rd h1 h2)
  · exact .inr h
theorem Mv.tp {K:PySem.W.Frag} {W W':Wd} {H H':Hp} {a:Addr} {xs:List V} (m:Mv W H W' H') (h:Tp K W H a xs):Tp K W' H' a xs:=by
  rcases h with ⟨h1,h2⟩ | h
  · exact .inl (m _ _ h1 h2)
  · exact .inr h
section
variable {K:PySem.W.Frag} {W W':Wd} {H H':Hp}
mutual
theorem AV.mv (m:Mv W H W' H'):∀ {d:D} {v:V},AV K W H d v→AV K W' H' d v
  | _,_, .non => .non
  | _,_, .bl b => .bl b
  | _,_, .int i => .int i
  | _,_, .str x => .str x
  | _,_, .scr h => .scr (m.lp h)
  | _,_, .gl x => .gl x
  | _,_, .tup h hs => .tup (m.tp h) (AVs.mv m hs)
  | _,_, .lst w h hs => .lst (m _ _ w h).1 (m _ _ w h).2 (AVs.mv m hs)
  | _,_, .dic w h hs => .dic (m _ _ w h).1 (m _ _ w h).2 (AVk.mv m hs)
  | _,_, .obj w h hs => .obj (m _ _ w h).1 (m _ _ w h).2 (AVf.mv m hs)
theorem AVs.mv (m:Mv W H W' H'):∀ {ds:List D} {vs:List V},AVs K W H ds vs→AVs K W' H' ds vs
  | _,_, .nil => .nil
  | _,_, .cons h hs => .cons (AV.mv m h) (AVs.mv m hs)
theorem AVk.mv (m:Mv W H W' H'):∀ {ds:List (D × D)} {vs:List (Key × V)},AVk K W H ds vs→AVk K W' H' ds vs
  | _,_, .nil => .nil
  | _,_, .cons k h hs => .cons k (AV.mv m h) (AVk.mv m hs)
theorem AVf.mv (m:Mv W H W' H'):∀ {ds:List (Str × D)} {vs:List (Str × V)},AVf K W H ds vs→AVf K W' H' ds vs
  | _,_, .nil => .nil
  | _,_, .cons h hs => .cons (AV.mv m h) (AVf.mv m hs)
end
end
inductive AX (K:PySem.W.Frag) (W:Wd) (ρ:List Addr) (H:Hp):X→V→Prop
  | d {v:D} {u:V}:AV K W H v u→AX K W ρ H (.d v) u
  | r {n:Nat} {a:Addr}:ρ[n]?=some a→AX K W ρ H (.r n) (.ref a)
abbrev AXs (K:PySem.W.Frag) (W:Wd) (ρ:List Addr) (H:Hp):List X→List V→Prop:=Paired (AX K W ρ H)
theorem AX.mv {K:PySem.W.Frag} {W W':Wd} {ρ ρ':List Addr} {H H':Hp} (m:Mv W H W' H') (p:ρ <+: ρ') {x:X} {v:V} (h:AX K W ρ H x v):AX K W' ρ' H' x v:=by
  cases h with
  | d h=>exact .d (h.mv m)
  | r h =>
    refine .r ?_
    obtain ⟨t,rfl⟩:=p
    rw [List.getElem?_append_left (List.getElem?_eq_some_iff.mp h).1]
    exact h
theorem AXs.mv {K:PySem.W.Frag} {W W':Wd} {ρ ρ':List Addr} {H H':Hp} (m:Mv W H W' H') (p:ρ <+: ρ') {xs:List X} {vs:List V} (h:AXs K W ρ H xs vs):AXs K W' ρ' H' xs vs:=Paired.mapP h fun _ _ q=>q.mv m p
def AO (K:PySem.W.Frag) (W:Wd) (ρ:List Addr) (H:Hp) (o:O) (a:Addr):Prop :=
  match o with
  | .lst xs=>∃ vs,H a=some (.lst vs)∧AXs K W ρ H xs vs
  | .dic kvs=>∃ ks:List (Key × V),H a=some (.dK ks)∧Paired (fun (p:D × X) (q:Key × V)=>p.1.key?=some q.1∧AX K W ρ H p.2 q.2) kvs ks
  | .fdc kvs=>∃ (ob:Obj) (ks:List (Key × V)),H a=some (.frz ob (.dK ks))∧Paired (fun (p:D × X) (q:Key × V)=>p.1.key?=some q.1∧AX K W ρ H p.2 q.2) kvs ks
  | .tdc kvs=>∃ xs:List (List Leaf × Addr × V),H a=some (TDo a xs)∧Paired (fun (p:D × X) (q:List Leaf × Addr × V)=>p.1.tkey?=some q.1∧AV K W H p.1 (.ref q.2.1)∧AX K W ρ H p.2 q.2.2) kvs xs
  | .tfc kvs=>∃ (ob:Obj) (xs:List (List Leaf × Addr × V)),H a=some (.frz ob (TDo a xs))∧Paired (fun (p:D × X) (q:List Leaf × Addr × V)=>p.1.tkey?=some q.1∧AV K W H p.1 (.ref q.2.1)∧AX K W ρ H p.2 q.2.2) kvs xs
  | .ins C fs=>∃ (dx:Addr) (vs:List (Str × V)),H a=some (.ins (He.ga K C) dx vs)∧Paired (fun (p:Str × X) (q:Str × V)=>p.1=q.1∧AX K W ρ H p.2 q.2) fs vs
theorem AO.mv {K:PySem.W.Frag} {W W':Wd} {ρ ρ':List Addr} {H H':Hp} {o:O} {a:Addr} (m:Mv W H W' H') (p:ρ <+: ρ') (k:∀ u,H a=some u→H' a=some u) (x:AO K W ρ H o a):AO K W' ρ' H' o a:=by
  cases o with
  | lst xs=>obtain ⟨vs,e,q⟩:=x; exact ⟨vs,k _ e,AXs.mv m p q⟩
  | dic kvs=>obtain ⟨vs,e,q⟩:=x; exact ⟨vs,k _ e,Paired.mapP q fun _ _ z=>⟨z.1,z.2.mv m p⟩⟩
  | fdc kvs=>obtain ⟨ob,vs,e,q⟩:=x; exact ⟨ob,vs,k _ e,Paired.mapP q fun _ _ z=>⟨z.1,z.2.mv m p⟩⟩
  | tdc kvs=>obtain ⟨vs,e,q⟩:=x; exact ⟨vs,k _ e,Paired.mapP q fun _ _ z=>⟨z.1,z.2.1.mv m,z.2.2.mv m p⟩⟩
  | tfc kvs=>obtain ⟨ob,vs,e,q⟩:=x; exact ⟨ob,vs,k _ e,Paired.mapP q fun _ _ z=>⟨z.1,z.2.1.mv m,z.2.2.mv m p⟩⟩
  | ins C fs=>obtain ⟨dx,vs,e,q⟩:=x; exact ⟨dx,vs,k _ e,Paired.mapP q fun _ _ z=>⟨z.1,z.2.mv m p⟩⟩
theorem AO.there {K:PySem.W.Frag} {W:Wd} {ρ:List Addr} {H:Hp} {o:O} {a:Addr} (x:AO K W ρ H o a):∃ u,H a=some u:=by
  cases o with
  | lst xs=>obtain ⟨vs,e,_⟩:=x; exact ⟨_,e⟩
  | dic kvs=>obtain ⟨vs,e,_⟩:=x; exact ⟨_,e⟩
  | fdc kvs=>obtain ⟨ob,vs,e,_⟩:=x; exact ⟨_,e⟩
  | tdc kvs=>obtain ⟨vs,e,_⟩:=x; exact ⟨_,e⟩
  | tfc kvs=>obtain ⟨ob,vs,e,_⟩:=x; exact ⟨_,e⟩
  | ins C fs=>obtain ⟨dx,vs,e,_⟩:=x; exact ⟨_,e⟩
def O.isF:O→Bool
  | .fdc _=>true
  | .tfc _=>true
  | _=>false
structure Sta (K:PySem.W.Frag) (Z:Wd) (ρ:List Addr) (S:Sto) (H:Hp):Prop where
  nd:ρ.Nodup
  z:∀ a,Z a→a ∉ ρ∧∃ o,H a=some o
  len:S.length=ρ.length
  ob:∀ (n:Nat) (o:O) (a:Addr),S[n]?=some o→ρ[n]?=some a→AO K (Wn Z ρ) ρ H o a
theorem Sta.mem {K:PySem.W.Frag} {Z:Wd} {ρ:List Addr} {S:Sto} {H:Hp} (s:Sta K Z ρ S H) {a:Addr} (h:a ∈ ρ):∃ (n:Nat) (o:O),S[n]?=some o∧ρ[n]?=some a:=by
  obtain ⟨n,hn,e⟩:=List.getElem_of_mem h
  have h2:n < S.length:=by rw [s.len]; exact hn
  exact ⟨n,S[n],List.getElem?_eq_getElem h2,by rw [List.getElem?_eq_getElem hn,e]⟩
structure Go (ρ:List Addr) (H:Hp) (ρ':List Addr) (H':Hp):Prop where
  pre:ρ <+: ρ'
  keep:∀ a o,a ∉ ρ→H a=some o→a ∉ ρ'∧H' a=some o
  fz:∀ a ob u,H a=some (.frz ob u)→H' a=some (.frz ob u)
theorem Go.refl (ρ:List Addr) (H:Hp):Go ρ H ρ H:=⟨List.prefix_refl _,fun _ _ h q=>⟨h,q⟩,fun _ _ _ q=>q⟩
theorem Go.trans {ρ ρ1 ρ2:List Addr} {H H1 H2:Hp} (a:Go ρ H ρ1 H1) (b:Go ρ1 H1 ρ2 H2):Go ρ H ρ2 H2 :=
  ⟨a.pre.trans b.pre,fun c o h q=>let ⟨h1,q1⟩:=a.keep c o h q; b.keep c o h1 q1,fun c ob u q=>b.fz c ob u (a.fz c ob u q)⟩
theorem Go.mv {K:PySem.W.Frag} {Z:Wd} {ρ ρ':List Addr} {S:Sto} {H H':Hp} (s:Sta K Z ρ S H) (g:Go ρ H ρ' H'):Mv (Wn Z ρ) H (Wn Z ρ') H':=fun a o h q=>by
  have h1:a ∉ ρ:=fun z=>h (.inr z)
  obtain ⟨h2,q2⟩:=g.keep a o h1 q
  exact ⟨fun z=>z.elim (fun z=>h (.inl z)) h2,q2⟩
structure EvOk (K:PySem.W.Frag) (W:Wd) (ρ:List Addr) (H:Hp) (e:Ev) (σ:St):Prop where
  len:e.length=σ.length
  at_:∀ (i:Nat) (x:X),e[i]?=some (some x)→∃ v,σ[i]?=some (some v)∧AX K W ρ H x v
theorem EvOk.mv {K:PySem.W.Frag} {W W':Wd} {ρ ρ':List Addr} {H H':Hp} (m:Mv W H W' H') (p:ρ <+: ρ') {e:Ev} {σ:St} (h:EvOk K W ρ H e σ):EvOk K W' ρ' H' e σ :=
  ⟨h.len,fun i x q=>let ⟨v,h1,h2⟩:=h.at_ i x q; ⟨v,h1,h2.mv m p⟩⟩
theorem EvOk.set {K:PySem.W.Frag} {W:Wd} {ρ:List Addr} {H:Hp} {e:Ev} {σ:St} {i:Nat} {x:X} {v:V} (h:EvOk K W ρ H e σ) (a:AX K W ρ H x v):EvOk K W ρ H (e.set i (some x)) (σ.set i (some v)):=by
  refine ⟨by rw [List.length_set,List.length_set]; exact h.len,fun j y q=>?_⟩
  by_cases hj:i=j
  · subst hj
    have hl:i < e.length:=by
      have:=(List.getElem?_eq_some_iff.mp q).1
      rwa [List.length_set] at this
    rw [List.getElem?_set_self hl] at q
    cases q
    exact ⟨v,by rw [List.getElem?_set_self (by rw [← h.len]; exact hl)],a⟩
  · rw [List.getElem?_set_ne hj] at q
    obtain ⟨u,h1,h2⟩:=h.at_ j y q
    exact ⟨u,by rw [List.getElem?_set_ne hj]; exact h1,h2⟩
def W3o (K:PySem.W.Frag) (Z:Wd) (ρ:List Addr) (H:Hp) (Wx:WX) (σ:St) (C:Str) (fs:List (Str × D)) (S':Sto):Prop :=
  ∀ (ρ':List Addr) (H':Hp) (d:Option Addr),Sta K Z ρ' S' H'→Go ρ H ρ' H' →
    ((d=none∧fs=[]) ∨ ∃ (dd:Addr) (vs:List (Str × V)),d=some dd∧H dd=none∧¬ Wn Z ρ' dd∧H' dd=some (.xd vs)∧AVf K (Wn Z ρ') H' fs vs)→Wx (.ref (He.ga K C)) d σ H'
def V7 {α β:Type} (rel:Wd→List Addr→Hp→α→β→Prop) (K:PySem.W.Frag) (Z:Wd) (ρ:List Addr) (H:Hp) (Wx:WX) (σ:St) (Q:β→Hp→Prop):R α→Prop
  | .ok x S'=>∀ (ρ':List Addr) (H':Hp) (v:β),Sta K Z ρ' S' H'→Go ρ H ρ' H'→rel (Wn Z ρ') ρ' H' x v→Q v H'
  | .err C fs S'=>W3o K Z ρ H Wx σ C fs S'
  | .bad=>False
abbrev MG (α:Type):=Ev→Sto→R α
def RG {α β:Type} (rel:Wd→List Addr→Hp→α→β→Prop) (K:PySem.W.Frag) (Wx:WX) (m:MG α):St→Hp→(β→Hp→Prop)→Prop:=fun σ H Q=>∃ (Z:Wd) (ρ:List Addr) (e:Ev) (S:Sto),Sta K Z ρ S H∧EvOk K (Wn Z ρ) ρ H e σ∧V7 rel K Z ρ H Wx σ Q (m e S)
abbrev M:=MG X
abbrev Z91 (K:PySem.W.Frag):=V7 (AX K) K
abbrev RE (K:PySem.W.Frag) (Wx:WX) (m:M):TE:=RG (AX K) K Wx m
abbrev ME (X:Cx) (Wx:WX) (e:Expr) (m:M):Prop:=PE X e (RE X.K Wx m)
abbrev RA (K:PySem.W.Frag) (Wx:WX) (m:MG (List X)):TA:=RG (AXs K) K Wx m
abbrev MA (X:Cx) (Wx:WX) (es:List Expr) (m:MG (List Bv.X)):Prop:=PA X es (RA X.K Wx m)
abbrev relB:Wd→List Addr→Hp→Bool→Bool→Prop:=fun _ _ _ b c=>b=c
abbrev RB (K:PySem.W.Frag) (Wx:WX) (m:MG Bool):L2.TT:=RG relB K Wx m
abbrev MT (X:Cx) (Wx:WX) (e:Expr) (m:MG Bool):Prop:=PT X e (RB X.K Wx m)
def R.bind {α β:Type} (r:R α) (k:α→Sto→R β):R β:=match r with
  | .ok a S=>k a S
  | .err C fs S => .err C fs S
  | .bad => .bad
theorem W3o.shift {K:PySem.W.Frag} {Z:Wd} {ρ ρ1:List Addr} {H H1:Hp} {Wx:WX} {σ:St} {C:Str} {fs:List (Str × D)} {S':Sto} (g:Go ρ H ρ1 H1) (s1:∀ a o,H a=some o→∃ u,H1 a=some u) (h:W3o K Z ρ H Wx σ C fs S'):W3o K Z ρ1 H1 Wx σ C fs S':=fun ρ' H' d st go q=>by
  refine h ρ' H' d st (g.trans go) ?_
  rcases q with q | ⟨dd,vs,h1,h2,h3⟩
  · exact .inl q
  · refine .inr ⟨dd,vs,h1,?_,h3⟩
    cases e:H dd with
    | none=>rfl
    | some o =>
      obtain ⟨u,z⟩:=s1 dd o e
      rw [h2] at z; cases z
theorem X4f {K:PySem.W.Frag} {Z:Wd} {ρ ρ1:List Addr} {S1:Sto} {H H1:Hp} (g:Go ρ H ρ1 H1) (s1:Sta K Z ρ1 S1 H1):∀ a o,H a=some o→∃ u,H1 a=some u:=fun a o q=>by
  by_cases h:a ∈ ρ
  · have h1:a ∈ ρ1:=g.pre.subset h
    obtain ⟨n,o,e1,e2⟩:=s1.mem h1
    exact (s1.ob n o a e1 e2).there
  · exact ⟨o,(g.keep a o h q).2⟩
theorem V7.shift {α β:Type} {rel:Wd→List Addr→Hp→α→β→Prop} {K:PySem.W.Frag} {Z:Wd} {ρ ρ1:List Addr} {S1:Sto} {H H1:Hp} {Wx:WX} {σ:St} {Q:β→Hp→Prop} {r:R α} (g:Go ρ H ρ1 H1) (s1:Sta K Z ρ1 S1 H1) (h:V7 rel K Z ρ H Wx σ Q r):V7 rel K Z ρ1 H1 Wx σ Q r:=by
  cases r with
  | ok x S'=>exact fun ρ' H' v st go a=>h ρ' H' v st (g.trans go) a
  | err C fs S'=>exact W3o.shift g (X4f g s1) h
  | bad=>exact h
theorem V2 {α β γ δ:Type} {rel:Wd→List Addr→Hp→α→β→Prop} {rel':Wd→List Addr→Hp→γ→δ→Prop} {K:PySem.W.Frag} {Wx:WX} {Z:Wd} {ρ:List Addr} {e:Ev} {S:Sto} {σ:St} {H:Hp} {Q:δ→Hp→Prop} {m:MG α} {k:α→Sto→R γ} {R':β→Hp→Prop} (st:Sta K Z ρ S H) (ev:EvOk K (Wn Z ρ) ρ H e σ) (h:V7 rel' K Z ρ H Wx σ Q ((m e S).bind k))
    (next:∀ ρ1 H1 v x S1,Sta K Z ρ1 S1 H1→Go ρ H ρ1 H1→EvOk K (Wn Z ρ1) ρ1 H1 e σ→rel (Wn Z ρ1) ρ1 H1 x v→V7 rel' K Z ρ1 H1 Wx σ Q (k x S1)→R' v H1):RG rel K Wx m σ H R':=by
  refine ⟨Z,ρ,e,S,st,ev,?_⟩
  cases q:m e S with
  | ok x S1 =>
    rw [q] at h
    exact fun ρ1 H1 v s1 g a=>next ρ1 H1 v x S1 s1 g (ev.mv (g.mv st) g.pre) a (V7.shift g s1 h)
  | err C fs S1=>rw [q] at h; exact h
  | bad=>rw [q] at h; exact h
theorem Sta.grow {K:PySem.W.Frag} {Z:Wd} {ρ:List Addr} {S:Sto} {H H':Hp} (s:Sta K Z ρ S H) (k:∀ a o,H a=some o→H' a=some o):Sta K Z ρ S H':=by
  have m:Mv (Wn Z ρ) H (Wn Z ρ) H':=fun a o h q=>⟨h,k a o q⟩
  refine ⟨s.nd,fun a h=>⟨(s.z a h).1,let ⟨o,q⟩:=(s.z a h).2; ⟨o,k a o q⟩⟩,s.len,fun n o a e1 e2=>?_⟩
  exact AO.mv m (List.prefix_refl _) (k a) (s.ob n o a e1 e2)
theorem Go.grow {ρ:List Addr} {H H':Hp} (k:∀ a o,H a=some o→H' a=some o):Go ρ H ρ H':=⟨List.prefix_refl _,fun a o h q=>⟨h,k a o q⟩,fun a _ _ q=>k a _ q⟩
theorem Sta.thereW {K:PySem.W.Frag} {Z:Wd} {ρ:List Addr} {S:Sto} {H:Hp} (s:Sta K Z ρ S H) {a:Addr} (h:Wn Z ρ a):∃ o,H a=some o:=by
  rcases h with h | h
  · exact (s.z a h).2
  · obtain ⟨n,o,e1,e2⟩:=s.mem h
    exact (s.ob n o a e1 e2).there
theorem Sta.put {K:PySem.W.Frag} {Z:Wd} {ρ:List Addr} {S:Sto} {H:Hp} {n:Nat} {a:Addr} {o':O} {u:HO} (s:Sta K Z ρ S H) (hn:ρ[n]?=some a) (nf:∀ ob u,H a ≠ some (.frz ob u)) (new:AO K (Wn Z ρ) ρ (upd H a u) o' a):Sta K Z ρ (S.set n o') (upd H a u)∧Go ρ H ρ (upd H a u):=by
  have ha:a ∈ ρ:=List.mem_of_getElem? hn
  have m:Mv (Wn Z ρ) H (Wn Z ρ) (upd H a u):=fun b o h q=>⟨h,by rw [upd_ne (fun z=>h (.inr (by rw [z]; exact ha)))]; exact q⟩
  refine ⟨⟨s.nd,fun b h=>⟨(s.z b h).1,?_⟩,by rw [List.length_set]; exact s.len,fun k o b e1 e2=>?_⟩,⟨List.prefix_refl _,fun b o h q=>⟨h,by rw [upd_ne (fun z=>h (by rw [z]; exact ha))]; exact q⟩,fun b ob w q=>by rw [upd_ne (fun z=>nf ob w (by rw [← z]; exact q))]; exact q⟩⟩
  · obtain ⟨o,q⟩:=(s.z b h).2
    exact ⟨o,by rw [upd_ne (fun z=>(s.z b h).1 (by rw [z]; exact ha))]; exact q⟩
  · by_cases hk:n=k
    · subst hk
      rw [hn] at e2; cases e2
      have hl:n < S.length:=by
        have:=(List.getElem?_eq_some_iff.mp e1).1
        rwa [List.length_set] at this
      rw [List.getElem?_set_self hl] at e1
      cases e1
      exact new
    · rw [List.getElem?_set_ne hk] at e1
      have hb:b ≠ a:=fun z=>by
        subst z
        obtain ⟨h1,q1⟩:=List.getElem?_eq_some_iff.mp hn
        obtain ⟨h2,q2⟩:=List.getElem?_eq_some_iff.mp e2
        exact hk ((List.getElem_inj s.nd).mp (q1.trans q2.symm))
      exact AO.mv m (List.prefix_refl _) (fun w q=>by rw [upd_ne hb]; exact q) (s.ob k o b e1 e2)
theorem Sta.push {K:PySem.W.Frag} {Z:Wd} {ρ:List Addr} {S:Sto} {H H':Hp} {a:Addr} {o':O} (s:Sta K Z ρ S H) (hn:H a=none) (k:∀ b o,H b=some o→H' b=some o) (new:AO K (Wn Z (ρ++[a])) (ρ++[a]) H' o' a):Sta K Z (ρ++[a]) (S++[o']) H'∧Go ρ H (ρ++[a]) H':=by
  have hne:∀ b o,H b=some o→b ≠ a:=fun b o q z=>by rw [z,hn] at q; cases q
  have g:Go ρ H (ρ++[a]) H':=⟨List.prefix_append _ _,fun b o h q=>⟨fun z=>by
    rcases List.mem_append.mp z with z | z
    · exact h z
    · exact hne b o q (by simpa using z),k b o q⟩,fun b _ _ q=>k b _ q⟩
  have hna:a ∉ ρ:=fun z=>by
    obtain ⟨n,o,e1,e2⟩:=s.mem z
    obtain ⟨w,q⟩:=(s.ob n o a e1 e2).there
    exact hne a w q rfl
  refine ⟨⟨?_,fun b h=>⟨fun z=>?_,?_⟩,by rw [List.length_append,List.length_append,s.len]; rfl,fun m o b e1 e2=>?_⟩,g⟩
  · rw [List.nodup_append]
    exact ⟨s.nd,by simp,fun x hx y hy z=>by
      have:y=a:=by simpa using hy
      subst this; subst z; exact hna hx⟩
  · obtain ⟨o,q⟩:=(s.z b h).2
    rcases List.mem_append.mp z with z | z
    · exact (s.z b h).1 z
    · exact hne b o q (by simpa using z)
  · obtain ⟨o,q⟩:=(s.z b h).2
    exact ⟨o,k b o q⟩
  · by_cases hm:m < ρ.length
    · rw [List.getElem?_append_left hm] at e2
      rw [List.getElem?_append_left (by rw [s.len]; exact hm)] at e1
      exact AO.mv (g.mv s) g.pre (k b) (s.ob m o b e1 e2)
    · rw [List.getElem?_append_right (by omega)] at e2
      rw [List.getElem?_append_right (by rw [s.len]; omega)] at e1
      have hz:m - ρ.length=0:=by
        have:=(List.getElem?_eq_some_iff.mp e2).1
        simp at this; omega
      rw [hz] at e2
      rw [s.len,hz] at e1
      cases e1; cases e2
      exact new
theorem Sta.fresh {K:PySem.W.Frag} {Z:Wd} {ρ:List Addr} {S:Sto} {H:Hp} (s:Sta K Z ρ S H) {a:Addr} (h:H a=none):¬ Wn Z ρ a:=fun z=>by
  obtain ⟨o,e⟩:=s.thereW z
  rw [h] at e; cases e
theorem Z0m {H:Hp} {p:Addr} {o:HO} (h:H p=none):∀ a u,H a=some u→upd H p o a=some u:=fun a u q=>by
  rw [upd_ne (ne_of_none q h)]; exact q
theorem V7.ret {α β:Type} {rel:Wd→List Addr→Hp→α→β→Prop} {K:PySem.W.Frag} {Z:Wd} {ρ:List Addr} {S:Sto} {H H':Hp} {Wx:WX} {σ:St} {Q:β→Hp→Prop} {x:α} {v:β} (h:V7 rel K Z ρ H Wx σ Q (.ok x S)) (s:Sta K Z ρ S H) (k:∀ a o,H a=some o→H' a=some o) (a:rel (Wn Z ρ) ρ H' x v):Q v H' :=
  h ρ H' v (s.grow k) (Go.grow k) a
theorem V7.ret0 {α β:Type} {rel:Wd→List Addr→Hp→α→β→Prop} {K:PySem.W.Frag} {Z:Wd} {ρ:List Addr} {S:Sto} {H:Hp} {Wx:WX} {σ:St} {Q:β→Hp→Prop} {x:α} {v:β} (h:V7 rel K Z ρ H Wx σ Q (.ok x S)) (s:Sta K Z ρ S H) (a:rel (Wn Z ρ) ρ H x v):Q v H :=
  h ρ H v s (Go.refl _ _) a
end Bv
namespace Bv
open PySem PySem.Spec L2
open PyProof.Rows hiding St
variable [HasW]
inductive AW (K:PySem.W.Frag) (W:Wd) (H:Hp):D→V→Prop
  | av {d:D} {v:V}:AV K W H d v→AW K W H d v
  | lst {a:Addr} {xs:List V} {ds:List D}:H a=some (.lst xs)→AVs K W H ds xs→AW K W H (.lst ds) (.ref a)
  | fdc {a:Addr} {ob:Obj} {ks:List (Key × V)} {kvs:List (D × D)}:H a=some (.frz ob (.dK ks))→AVk K W H kvs ks→AW K W H (.dic kvs) (.ref a)
def X.d?:X→Option D
  | .d v=>some v
  | .r _=>none
def ds?:List X→Option (List D)
  | []=>some []
  | x :: r=>match x,ds? r with
    | .d v,some l=>some (v :: l)
    | _,_=>none
def ks?:List (D × X)→Option (List (D × D))
  | []=>some []
  | (k,x) :: r=>match x,ks? r with
    | .d v,some l=>some ((k,v) :: l)
    | _,_=>none
def X.get (S:Sto):X→Option D
  | .d v=>some v
  | .r n=>match S[n]? with
    | some (.lst xs)=>(ds? xs).map .lst
    | some (.fdc kvs)=>(ks? kvs).map .dic
    | _=>none
section
variable {K:PySem.W.Frag} {W:Wd} {ρ:List Addr} {H:Hp}
theorem AXs.ds:∀ {xs:List X} {vs:List V} {ds:List D},AXs K W ρ H xs vs→ds? xs=some ds→AVs K W H ds vs
  | _,_,_, .nil,e=>by cases e; exact .nil
  | x :: r,_,ds, .cons h hs,e=>by
    cases x with
    | r n=>simp [ds?] at e
    | d v =>
      unfold ds? at e
      cases q:ds? r with
      | none=>rw [q] at e; cases e
      | some l =>
        rw [q] at e
        cases e
        cases h with
        | d h=>exact .cons h (AXs.ds hs q)
theorem AXk.ks:∀ {xs:List (D × X)} {vs:List (Key × V)} {ds:List (D × D)},Paired (fun (p:D × X) (q:Key × V)=>p.1.key?=some q.1∧AX K W ρ H p.2 q.2) xs vs→ks? xs=some ds→AVk K W H ds vs
  | _,_,_, .nil,e=>by cases e; exact .nil
  | (k,x) :: r,_,ds, .cons h hs,e=>by
    cases x with
    | r n=>simp [ks?] at e
    | d v =>
      unfold ks? at e
      cases q:ks? r with
      | none=>rw [q] at e; cases e
      | some l =>
        rw [q] at e
        cases e
        obtain ⟨h1,h2⟩:=h
        cases h2 with
        | d h=>exact .cons h1 h (AXk.ks hs q)
theorem Sta.at_ {Z:Wd} {S:Sto} (s:Sta K Z ρ S H) {n:Nat} {o:O} (e:S[n]?=some o):∃ a,ρ[n]?=some a∧AO K (Wn Z ρ) ρ H o a:=by
  have h:n < ρ.length:=by rw [← s.len]; exact (List.getElem?_eq_some_iff.mp e).1
  exact ⟨ρ[n],List.getElem?_eq_getElem h,s.ob n o _ e (List.getElem?_eq_getElem h)⟩
theorem AX.get {Z:Wd} {S:Sto} (s:Sta K Z ρ S H) {x:X} {v:V} {d:D} (a:AX K (Wn Z ρ) ρ H x v) (e:x.get S=some d):AW K (Wn Z ρ) H d v:=by
  cases a with
  | d h=>cases e; exact .av h
  | r h =>
    rename_i n a
    have e1:(match S[n]? with
      | some (.lst xs)=>(ds? xs).map .lst
      | some (.fdc kvs)=>(ks? kvs).map .dic
      | _=>none)=some d:=e
    cases q:S[n]? with
    | none=>rw [q] at e1; cases e1
    | some o =>
      rw [q] at e1
      obtain ⟨b,hb,x⟩:=s.at_ q
      rw [h] at hb; cases hb
      cases o with
      | lst xs =>
        obtain ⟨l,h1,h2⟩:=Option.map_eq_some_iff.mp (show (ds? xs).map D.lst=some d from e1)
        subst h2
        obtain ⟨vs,h3,h4⟩:=x
        exact .lst h3 (AXs.ds h4 h1)
      | fdc kvs =>
        obtain ⟨l,h1,h2⟩:=Option.map_eq_some_iff.mp (show (ks? kvs).map D.dic=some d from e1)
        subst h2
        obtain ⟨ob,vs,h3,h4⟩:=x
        exact .fdc h3 (AXk.ks h4 h1)
      | _=>cases e1
theorem AW.sq {ds:List D} {v:V} (h:AW K W H (.lst ds) v):∃ a xs,v = .ref a∧H a=some (.lst xs)∧AVs K W H ds xs:=by
  cases h with
  | av h=>cases h with | lst w r hs=>exact ⟨_,_,rfl,r,hs⟩
  | lst h hs=>exact ⟨_,_,rfl,h,hs⟩
theorem AW.tq {ds:List D} {v:V} (h:AW K W H (.tup ds) v):∃ a xs,v = .ref a∧Tp K W H a xs∧AVs K W H ds xs:=by
  cases h with
  | av h=>cases h with | tup t hs=>exact ⟨_,_,rfl,t,hs⟩
theorem AVs.length:∀ {ds:List D} {vs:List V},AVs K W H ds vs→ds.length=vs.length
  | _,_, .nil=>rfl
  | _,_, .cons _ t=>by simp [AVs.length t]
theorem AVs.get:∀ {ds:List D} {vs:List V} {i:Nat} {d:D},AVs K W H ds vs→ds[i]?=some d→∃ v,vs[i]?=some v∧AV K W H d v
  | _,_,_,_, .nil,e=>by simp at e
  | _,_,0,_, .cons h _,e=>by simp at e; subst e; exact ⟨_,rfl,h⟩
  | _,_,i + 1,d, .cons _ t,e=>by
    obtain ⟨v,h1,h2⟩:=AVs.get (i:=i) (d:=d) t (by simpa using e)
    exact ⟨v,by simpa using h1,h2⟩
theorem AVs.append:∀ {ds es:List D} {vs us:List V},AVs K W H ds vs→AVs K W H es us→AVs K W H (ds++es) (vs++us)
  | _,_,_,_, .nil,s=>s
  | _,_,_,_, .cons r t,s => .cons r (AVs.append t s)
theorem AVs.take:∀ {ds:List D} {vs:List V} (n:Nat),AVs K W H ds vs→AVs K W H (ds.take n) (vs.take n)
  | _,_,0,_ => .nil
  | _,_,_ + 1, .nil => .nil
  | _,_,n + 1, .cons r t => .cons r (AVs.take n t)
theorem AVs.drop:∀ {ds:List D} {vs:List V} (n:Nat),AVs K W H ds vs→AVs K W H (ds.drop n) (vs.drop n)
  | _,_,0,r=>r
  | _,_,_ + 1, .nil => .nil
  | _,_,n + 1, .cons _ t=>AVs.drop n t
theorem AVf.look:∀ {fs:List (Str × D)} {vs:List (Str × V)} {f:Str} {d:D},AVf K W H fs vs→fs.lookup f=some d→∃ v,vs.lookup f=some v∧AV K W H d v
  | _,_,_,_, .nil,e=>by cases e
  | (g,x) :: r,_,f,d, .cons h hs,e=>by
    rw [List.lookup_cons] at e ⊢
    cases q:f == g with
    | true=>rw [q] at e; cases e; exact ⟨_,rfl,h⟩
    | false=>rw [q] at e; exact AVf.look hs e
theorem AVf.none_of:∀ {fs:List (Str × D)} {vs:List (Str × V)} {f:Str},AVf K W H fs vs→fs.lookup f=none→vs.lookup f=none
  | _,_,_, .nil,e=>rfl
  | (g,x) :: r,_,f, .cons h hs,e=>by
    rw [List.lookup_cons] at e ⊢
    cases q:f == g with
    | true=>rw [q] at e; cases e
    | false=>rw [q] at e; exact AVf.none_of hs e
end
def Z3 (i:Nat):M:=fun e S=>match e[i]? with
  | some (some x) => .ok x S
  | _ => .bad
def m_c (d:D):M:=fun _ S => .ok (.d d) S
section
variable {X:Cx} {Wx:WX} {pos:Pos}
theorem PE.of {X:Cx} {e:Expr} {t t':TE} (h:PE X e t) (w:∀ σ H Q,t' σ H Q→t σ H Q):PE X e t':=⟨fun pins s σ H Q I q=>h.run pins s σ H Q I (w σ H Q q)⟩
theorem Z4 (i:Nat) {x:Str} (hN:X.N[i]?=some x:=by rfl) (hv:Vis X.env.scope x:=by first | exact Or.inl rfl | exact Or.inr (Or.inl rfl) | exact Or.inr (Or.inr rfl)) (hd:(x == ("__debug__" : Str))=false:=by decide)
    (hcd:(x == ("__classdict__" : Str))=false:=by decide):ME X Wx (.Name x pos) (Z3 i):=PE.of (pe_var hN hv hd hcd) fun σ H Q ⟨Z,ρ,e,S,st,ev,p⟩=>by
  unfold Z3 at p
  cases q:e[i]? with
  | none=>rw [q] at p; exact p.elim
  | some o =>
    cases o with
    | none=>rw [q] at p; exact p.elim
    | some x =>
      rw [q] at p
      obtain ⟨v,h1,h2⟩:=ev.at_ i x q
      exact ⟨v,h1,p.ret0 st h2⟩
theorem X7q {e:Expr} {d:D} {v:V} (h:PE X e (tC v)) (a:∀ W H,AV X.K W H d v):ME X Wx e (m_c d):=PE.of h fun σ H Q ⟨Z,ρ,e,S,st,ev,p⟩=>V7.ret0 p st (.d (a _ _))
theorem V1 {i:Int} {j}:ME X Wx (.Constant (.int i) j pos) (m_c (.int i)):=X7q pe_int fun _ _ => .int i
theorem V0 {b:Bool} {j}:ME X Wx (.Constant (.bool b) j pos) (m_c (.bl b)):=X7q pe_bl fun _ _ => .bl b
theorem Z35 {j}:ME X Wx (.Constant .none j pos) (m_c .non):=X7q pe_non fun _ _ => .non
theorem Y8 {x:Str} {j} (h:PyData.strOk x=true:=by decide +kernel):ME X Wx (.Constant (.str x) j pos) (m_c (.str x)):=X7q pe_str fun _ _ => .str h
theorem Y78 {x:Str} {d:D} {u:Value} (hg:Gl X x) (hm:X.mg x=some u) (h:∃ v,(∀ W H,AV X.K W H d v)∧RelV v u) (hd:(x == ("__debug__" : Str))=false:=by decide):ME X Wx (.Name x pos) (m_c d):=by
  obtain ⟨v,a,r⟩:=h
  exact X7q (pe_glob hg hm r hd) a
end
def Op2 (K:PySem.W.Frag) (r:R2) (f:D→D→Option D):Prop:=∀ (W:Wd) (H:Hp) (d1 d2:D) (v1 v2:V) (d:D) (Q:VK),(∀ a,W a→∃ o,H a=some o)→AW K W H d1 v1→AW K W H d2 v2→f d1 d2=some d →
  (∀ H' v,Same H H'→AV K W H' d v→Q v H')→r v1 v2 H Q
def op2 (f:D→D→Option D) (S:Sto) (x y:X):R X:=match x.get S,y.get S with
  | some a,some b=>(match f a b with
    | some d => .ok (.d d) S
    | none => .bad)
  | _,_ => .bad
def Y5 (f:D→D→Option D) (ma mb:M):M:=fun e S=>(ma e S).bind fun x S1=>(mb e S1).bind fun y S2=>op2 f S2 x y
section
variable {X:Cx} {Wx:WX} {pos:Pos} {a b c:Expr} {ma mb mc:M}
theorem Y2s {W:Wd} {H H':Hp} (k:Same H H'):Mv W H W H':=fun a o h q=>⟨h,k a o q⟩
theorem X77 {r:R2} {f:D→D→Option D} (hf:Op2 X.K r f) {Z:Wd} {ρ:List Addr} {S:Sto} {H:Hp} {σ:St} {Q:VK} {x y:Bv.X} {v1 v2:V} (st:Sta X.K Z ρ S H) (a1:AX X.K (Wn Z ρ) ρ H x v1) (a2:AX X.K (Wn Z ρ) ρ H y v2)
    (p:Z91 X.K Z ρ H Wx σ Q (op2 f S x y)):r v1 v2 H Q:=by
  unfold op2 at p
  cases e1:x.get S with
  | none=>rw [e1] at p; exact p.elim
  | some d1 =>
    cases e2:y.get S with
    | none=>rw [e1,e2] at p; exact p.elim
    | some d2 =>
      rw [e1,e2] at p
      have p:Z91 X.K Z ρ H Wx σ Q (match f d1 d2 with
        | some d => .ok (.d d) S
        | none => .bad):=p
      cases e3:f d1 d2 with
      | none=>rw [e3] at p; exact p.elim
      | some d =>
        rw [e3] at p
        exact hf (Wn Z ρ) H d1 d2 v1 v2 d Q (fun _ h=>st.thereW h) (a1.get st e1) (a2.get st e2) e3 fun H' v k h=>p.ret st k (.d h)
theorem X2t {r:R2} {f:D→D→Option D} (hf:Op2 X.K r f) {σ:St} {H:Hp} {Q:VK} (h:RE X.K Wx (Y5 f ma mb) σ H Q):tOp r (RE X.K Wx ma) (RE X.K Wx mb) σ H Q:=by
  obtain ⟨Z,ρ,e,S,st,ev,p⟩:=h
  refine V2 st ev p fun ρ1 H1 v1 x S1 st1 g1 ev1 a1 p1=>?_
  refine V2 st1 ev1 p1 fun ρ2 H2 v2 y S2 st2 g2 ev2 a2 p2=>?_
  exact X77 hf st2 (a1.mv (g2.mv st1) g2.pre) a2 p2
theorem V1e {op:Operator} {r:R2} {f:D→D→Option D} (ho:OpR X (binaryOp op) r) (hf:Op2 X.K r f) (ha:ME X Wx a ma) (hb:ME X Wx b mb):ME X Wx (.BinOp a op b pos) (Y5 f ma mb) :=
  PE.of (pe_op ho ha hb) fun _ _ _ h=>X2t hf h
theorem W8e {op:CmpOp} {r:R2} {f:D→D→Option D} (ho:OpR X (compareOp op) r) (hf:Op2 X.K r f) (ha:ME X Wx a ma) (hb:ME X Wx b mb) (hm:behindInMarks op b=false:=by first | exact nomark _ | (with_unfolding_all rfl)):ME X Wx (.Compare a [op] [b] pos) (Y5 f ma mb) :=
  PE.of (pe_cmpR ho ha hb hm) fun _ _ _ h=>X2t hf h
def Z0r (f g:D→D→Option D) (ma mb mc:M):M:=fun e S=>(ma e S).bind fun x S1=>(mb e S1).bind fun y S2=>(op2 f S2 x y).bind fun z S3=>match z with
  | .d (.bl true)=>(mc e S3).bind fun w S4=>op2 g S4 y w
  | .d (.bl false) => .ok (.d (.bl false)) S3
  | _ => .bad
end
end Bv
namespace Bv
open PySem PySem.Spec L2
open PyProof.Rows hiding St
variable [HasW]
mutual
def D.py:D→Option PyData
  | .non=>some .none
  | .bl b=>some (.bool b)
  | .int i=>some (.int i)
  | .str x=>some (.str x)
  | .tup ds=>match pys ds with
    | some l=>some (.tuple l)
    | none=>none
  | .lst ds=>match pys ds with
    | some l=>some (.list l)
    | none=>none
  | .scr ns=>some (.list (ns.map .int))
  | .dic _=>none
  | .obj _ _=>none
  | .gl _=>none
def pys:List D→Option (List PyData)
  | []=>some []
  | d :: r=>match d.py,pys r with
    | some p,some l=>some (p :: l)
    | _,_=>none
end
section
variable {K:PySem.W.Frag} {W:Wd} {H:Hp}
theorem X6o:∀ ns:List Int,DpAll K H (ns.map V.int) (ns.map PyData.int)
  | [] => .nil
  | n :: r => .cons (.int n) (X6o r)
theorem X3p:∀ ns:List Int,PyData.canLayAll0 (ns.map PyData.int)=true
  | []=>by simp [PyData.canLayAll0]
  | n :: r=>by simp [PyData.canLayAll0,PyData.canLay0,X3p r]
mutual
theorem AV.dp:∀ {d:D} {v:V} {p:PyData},AV K W H d v→d.py=some p→Dp K H v p∧p.canLay0=true
  | _,_,_, .non,e=>by cases e; exact ⟨.non,by simp [PyData.canLay0]⟩
  | _,_,_, .bl b,e=>by cases e; exact ⟨.bl b,by simp [PyData.canLay0]⟩
  | _,_,_, .int i,e=>by cases e; exact ⟨.int i,by simp [PyData.canLay0]⟩
  | _,_,_, .str h,e=>by cases e; exact ⟨.str _,by simpa [PyData.canLay0] using h⟩
  | _,_,_, .gl x,e=>by cases e
  | _,_,_, .scr h,e=>by cases e; exact ⟨.lst h.sl (X6o _),by simpa [PyData.canLay0] using X3p _⟩
  | .tup ds,_,p, .tup t hs,e=>by
    have e1:(match pys ds with
      | some l=>some (PyData.tuple l)
      | none=>none)=some p:=by simpa [D.py] using e
    cases q:pys ds with
    | none=>rw [q] at e1; cases e1
    | some l =>
      rw [q] at e1; cases e1
      obtain ⟨h1,h2⟩:=AVs.dp hs q
      exact ⟨.tup t.sq h1,by simpa [PyData.canLay0] using h2⟩
  | .lst ds,_,p, .lst w h hs,e=>by
    have e1:(match pys ds with
      | some l=>some (PyData.list l)
      | none=>none)=some p:=by simpa [D.py] using e
    cases q:pys ds with
    | none=>rw [q] at e1; cases e1
    | some l =>
      rw [q] at e1; cases e1
      obtain ⟨h1,h2⟩:=AVs.dp hs q
      exact ⟨.lst (.inl (.inl h)) h1,by simpa [PyData.canLay0] using h2⟩
  | _,_,_, .dic w h hs,e=>by simp [D.py] at e
  | _,_,_, .obj w h hs,e=>by simp [D.py] at e
theorem AVs.dp:∀ {ds:List D} {vs:List V} {ps:List PyData},AVs K W H ds vs→pys ds=some ps→DpAll K H vs ps∧PyData.canLayAll0 ps=true
  | _,_,_, .nil,e=>by simp [pys] at e; subst e; exact ⟨.nil,by simp [PyData.canLayAll0]⟩
  | d :: r,_,ps, .cons h hs,e=>by
    cases q1:d.py with
    | none=>simp [pys,q1] at e
    | some p =>
      cases q2:pys r with
      | none=>simp [pys,q1,q2] at e
      | some l =>
        simp [pys,q1,q2] at e
        subst e
        obtain ⟨h1,h2⟩:=AV.dp h q1
        obtain ⟨h3,h4⟩:=AVs.dp hs q2
        exact ⟨.cons h1 h3,by simp [PyData.canLayAll0,h2,h4]⟩
end
theorem AW.dp {d:D} {v:V} {p:PyData} (h:AW K W H d v) (e:d.py=some p):Dp K H v p∧p.canLay0=true:=by
  cases h with
  | av h=>exact h.dp e
  | lst h hs =>
    rename_i a xs ds
    have e1:(match pys ds with
      | some l=>some (PyData.list l)
      | none=>none)=some p:=by simpa [D.py] using e
    cases q:pys ds with
    | none=>rw [q] at e1; cases e1
    | some l =>
      rw [q] at e1; cases e1
      obtain ⟨h1,h2⟩:=AVs.dp hs q
      exact ⟨.lst (.inl (.inl h)) h1,by simpa [PyData.canLay0] using h2⟩
  | fdc h hs=>simp [D.py] at e
end
def dOk (p:PyData):Bool:=decide (p.depth ≤ 64)
theorem Z7q {p:PyData} (h:p.canLay0=true) (d:dOk p=true):SeqAt.shaped p=true:=by
  unfold SeqAt.shaped
  rw [h,Bool.true_and]
  exact d
def eqD (a b:D):Option D:=match a.py,b.py with
  | some p,some q=>if dOk p && dOk q then some (.bl (PyData.eqv p q)) else none
  | _,_=>none
def neD (a b:D):Option D:=match a.py,b.py with
  | some p,some q=>if dOk p && dOk q then some (.bl (!PyData.eqv p q)) else none
  | _,_=>none
section
variable {K:PySem.W.Frag}
theorem W3l {a b d:D} {f:PyData→PyData→D} (e:(match a.py,b.py with
  | some p,some q=>if dOk p && dOk q then some (f p q) else none
  | _,_=>none)=some d):∃ p q,a.py=some p∧b.py=some q∧dOk p=true∧dOk q=true∧d=f p q:=by
  cases q1:a.py with
  | none=>rw [q1] at e; cases e
  | some p =>
    cases q2:b.py with
    | none=>rw [q1,q2] at e; cases e
    | some q =>
      rw [q1,q2] at e
      have e:(if dOk p && dOk q then some (f p q) else none)=some d:=e
      cases q3:dOk p && dOk q with
      | false=>rw [q3] at e; cases e
      | true =>
        rw [q3] at e
        cases e
        obtain ⟨h1,h2⟩:=Bool.and_eq_true_iff.mp q3
        exact ⟨p,q,rfl,rfl,h1,h2,rfl⟩
theorem V3k:Op2 K (rEqD K) eqD:=fun W H d1 d2 v1 v2 d Q hw a1 a2 e k=>by
  obtain ⟨p,q,e1,e2,h1,h2,rfl⟩:=W3l (f:=fun p q => .bl (PyData.eqv p q)) e
  obtain ⟨x1,y1⟩:=a1.dp e1
  obtain ⟨x2,y2⟩:=a2.dp e2
  exact ⟨p,q,x1,x2,Z7q y1 h1,Z7q y2 h2,k H _ (Same.refl H) (.bl _)⟩
theorem V3n:Op2 K (rNeD K) neD:=fun W H d1 d2 v1 v2 d Q hw a1 a2 e k=>by
  obtain ⟨p,q,e1,e2,h1,h2,rfl⟩:=W3l (f:=fun p q => .bl (!PyData.eqv p q)) e
  obtain ⟨x1,y1⟩:=a1.dp e1
  obtain ⟨x2,y2⟩:=a2.dp e2
  exact ⟨p,q,x1,x2,Z7q y1 h1,Z7q y2 h2,k H _ (Same.refl H) (.bl _)⟩
end
def inB (a b:D):Option Bool:=match a.py,b.py with
  | some p,some (.list l)=>if dOk p && dOk (.list l) then some (l.any fun z=>PyData.eqv z p) else none
  | some p,some (.tuple l)=>if dOk p && dOk (.tuple l) then some (l.any fun z=>PyData.eqv z p) else none
  | some (.str x),some (.str y)=>if x.cps.size=1 then some (y.cps.toList.contains (x.cps.getD 0 0)) else none
  | _,_=>none
def inD (a b:D):Option D:=(inB a b).map .bl
def Y90 (a b:D):Option D:=(inB a b).map fun c => .bl (!c)
def W65 (neg:Bool) (K:PySem.W.Frag):R2:=fun x y H Q=>(∃ d ds,Dp K H x d∧(Dp K H y (.list ds) ∨ Dp K H y (.tuple ds))∧SeqAt.shaped d=true∧SeqAt.shaped (.list ds)=true∧Q (.bl (if neg then !ds.any fun z=>PyData.eqv z d else ds.any fun z=>PyData.eqv z d)) H) ∨
  ∃ (c:Nat) (z:Str),x = .str ⟨#[c]⟩∧y = .str z∧Q (.bl (if neg then !decide (c ∈ z.cps.toList) else decide (c ∈ z.cps.toList))) H
theorem W8y {X:Cx} (hu:X.A.units + 65 < cLine):OpR X (compareOp .In) (W65 false X.K):=by
  intro pins s σ H x y v u Q I rx ry h
  rcases h with ⟨d,ds,hd,he,sd,se,q⟩ | ⟨c,z,rfl,rfl,q⟩
  · obtain ⟨as,r1⟩:=Dp.reads I d x v hd rx
    rcases he with he | he
    · obtain ⟨bs,r2⟩:=Dp.reads I (.list ds) y u he ry
      exact SeqAt.in_list_reads r2 r1 (SeqAt.canLay_of_shaped se) (SeqAt.canLay_of_shaped sd) (room_in_shaped sd hu) ⟨.bl _,H,I,rfl,q⟩
    · obtain ⟨bs,r2⟩:=Dp.reads I (.tuple ds) y u he ry
      exact SeqAt.in_tuple_reads r2 r1 (SeqAt.canLay_of_shaped se) (SeqAt.canLay_of_shaped sd) (room_in_shaped sd hu) ⟨.bl _,H,I,rfl,q⟩
  · exact op_in_sign pins s σ H _ _ v u Q I rx ry ⟨c,z,rfl,rfl,q⟩
theorem W5x {X:Cx} (hu:X.A.units + 65 < cLine):OpR X (compareOp .NotIn) (W65 true X.K):=by
  intro pins s σ H x y v u Q I rx ry h
  rcases h with ⟨d,ds,hd,he,sd,se,q⟩ | ⟨c,z,rfl,rfl,q⟩
  · obtain ⟨as,r1⟩:=Dp.reads I d x v hd rx
    rcases he with he | he
    · obtain ⟨bs,r2⟩:=Dp.reads I (.list ds) y u he ry
      exact SeqAt.notIn_list_reads r2 r1 (SeqAt.canLay_of_shaped se) (SeqAt.canLay_of_shaped sd) (room_in_shaped sd hu) ⟨.bl _,H,I,rfl,q⟩
    · obtain ⟨bs,r2⟩:=Dp.reads I (.tuple ds) y u he ry
      exact SeqAt.notIn_tuple_reads r2 r1 (SeqAt.canLay_of_shaped se) (SeqAt.canLay_of_shaped sd) (room_in_shaped sd hu) ⟨.bl _,H,I,rfl,q⟩
  · exact op_notIn_sign pins s σ H _ _ v u Q I rx ry ⟨c,z,rfl,rfl,q⟩
theorem W1o {x:Str} (h:x.cps.size=1):x=⟨#[x.cps.getD 0 0]⟩:=by
  obtain ⟨a⟩:=x
  obtain ⟨l⟩:=a
  cases l with
  | nil=>cases h
  | cons c r =>
    cases r with
    | nil=>rfl
    | cons c' r=>simp at h
theorem W2q {K:PySem.W.Frag} {W:Wd} {H:Hp} {a b:D} {v1 v2:V} {c:Bool} (neg:Bool) {Q:VK} (a1:AW K W H a v1) (a2:AW K W H b v2) (e:inB a b=some c) (q:Q (.bl (if neg then !c else c)) H):W65 neg K v1 v2 H Q:=by
  unfold inB at e
  cases e1:a.py with
  | none=>rw [e1] at e; cases e
  | some p =>
    cases e2:b.py with
    | none=>rw [e1,e2] at e; cases p <;> cases e
    | some t =>
      rw [e1,e2] at e
      obtain ⟨x1,y1⟩:=a1.dp e1
      obtain ⟨x2,y2⟩:=a2.dp e2
      have seq:∀ {l:List PyData},(Dp K H v2 (.list l) ∨ Dp K H v2 (.tuple l))→PyData.canLayAll0 l=true→dOk (.list l)=true→dOk p=true→c=(l.any fun z=>PyData.eqv z p)→W65 neg K v1 v2 H Q:=fun {l} h hl hd hp hc=>by
        subst hc
        exact .inl ⟨p,l,x1,h,Z7q y1 hp,Z7q (by simpa [PyData.canLay0] using hl) hd,q⟩
      cases t with
      | list l =>
        have e:(if dOk p && dOk (.list l) then some (l.any fun z=>PyData.eqv z p) else none)=some c:=by cases p <;> exact e
        cases h:dOk p && dOk (.list l) with
        | false=>rw [h] at e; cases e
        | true =>
          rw [h] at e
          cases e
          obtain ⟨h1,h2⟩:=Bool.and_eq_true_iff.mp h
          exact seq (.inl x2) (by simpa [PyData.canLay0] using y2) h2 h1 rfl
      | tuple l =>
        have e:(if dOk p && dOk (.tuple l) then some (l.any fun z=>PyData.eqv z p) else none)=some c:=by cases p <;> exact e
        cases h:dOk p && dOk (.tuple l) with
        | false=>rw [h] at e; cases e
        | true =>
          rw [h] at e
          cases e
          obtain ⟨h1,h2⟩:=Bool.and_eq_true_iff.mp h
          exact seq (.inr x2) (by simpa [PyData.canLay0] using y2) (by simpa [dOk,PyData.depth] using h2) h1 rfl
      | str y =>
        cases p with
        | str x =>
          have e:(if x.cps.size=1 then some (y.cps.toList.contains (x.cps.getD 0 0)) else none)=some c:=e
          by_cases h:x.cps.size=1
          · rw [if_pos h] at e
            cases e
            cases x1
            cases x2
            refine .inr ⟨x.cps.getD 0 0,y,by rw [← W1o h],rfl,?_⟩
            rw [List.contains_eq_mem] at q
            exact q
          · rw [if_neg h] at e; cases e
        | _=>cases e
      | none=>cases p <;> cases e
      | bool _=>cases p <;> cases e
      | int _=>cases p <;> cases e
      | dict _=>cases p <;> cases e
section
variable {K:PySem.W.Frag}
theorem V3l:Op2 K (W65 false K) inD:=fun W H d1 d2 v1 v2 d Q hw a1 a2 e k=>by
  obtain ⟨c,h1,h2⟩:=Option.map_eq_some_iff.mp (show (inB d1 d2).map D.bl=some d from e)
  subst h2
  exact W2q false a1 a2 h1 (k H _ (Same.refl H) (.bl _))
theorem V1n:Op2 K (W65 true K) Y90:=fun W H d1 d2 v1 v2 d Q hw a1 a2 e k=>by
  obtain ⟨c,h1,h2⟩:=Option.map_eq_some_iff.mp (show (inB d1 d2).map (fun c=>D.bl (!c))=some d from e)
  subst h2
  exact W2q true a1 a2 h1 (k H _ (Same.refl H) (.bl _))
end
section
variable {K:PySem.W.Frag}
def ii (f:Int→Int→Option D):D→D→Option D
  | .int i, .int j=>f i j
  | _,_=>none
theorem AW.int_inv {W:Wd} {H:Hp} {i:Int} {v:V} (h:AW K W H (.int i) v):v = .int i:=by
  cases h with | av h=>cases h; rfl
theorem AW.str_inv {W:Wd} {H:Hp} {x:Str} {v:V} (h:AW K W H (.str x) v):v = .str x∧PyData.strOk x=true:=by
  cases h with | av h=>cases h with | str h=>exact ⟨rfl,h⟩
theorem AW.bl_inv {W:Wd} {H:Hp} {b:Bool} {v:V} (h:AW K W H (.bl b) v):v = .bl b:=by
  cases h with | av h=>cases h; rfl
theorem AW.non_inv {W:Wd} {H:Hp} {v:V} (h:AW K W H .non v):v = .non:=by
  cases h with | av h=>cases h; rfl
theorem X66 {f:Int→Int→Option D} {a b d:D} (e:ii f a b=some d):∃ i j,a = .int i∧b = .int j∧f i j=some d:=by
  cases a with
  | int i=>cases b with
    | int j=>exact ⟨i,j,rfl,rfl,e⟩
    | _=>cases e
  | _=>cases b <;> cases e
theorem X32 {C:Int→Int→Prop} [∀ i j,Decidable (C i j)] {g:Int→Int→Int}:Op2 K (rI C fun i j => .int (g i j)) (ii fun i j=>if C i j then some (.int (g i j)) else none):=fun W H d1 d2 v1 v2 d Q hw a1 a2 e k=>by
  obtain ⟨i,j,rfl,rfl,e0⟩:=X66 e
  clear e
  have e:=e0
  clear e0
  by_cases h:C i j
  · rw [if_pos h] at e
    cases e
    cases a1.int_inv
    cases a2.int_inv
    exact ⟨i,j,rfl,rfl,h,k H _ (Same.refl H) (.int _)⟩
  · rw [if_neg h] at e; cases e
theorem X31 {g:Int→Int→Bool}:Op2 K (rI0 fun i j => .bl (g i j)) (ii fun i j=>some (.bl (g i j))):=fun W H d1 d2 v1 v2 d Q hw a1 a2 e k=>by
  obtain ⟨i,j,rfl,rfl,e0⟩:=X66 e
  clear e
  have e:=e0
  clear e0
  cases e
  cases a1.int_inv
  cases a2.int_inv
  exact ⟨i,j,rfl,rfl,k H _ (Same.refl H) (.bl _)⟩
instance (i j:Int):Decidable (CMul i j):=by unfold CMul; infer_instance
instance (i j:Int):Decidable (CDiv i j):=by unfold CDiv; infer_instance
instance (i j:Int):Decidable (CPow i j):=by unfold CPow; infer_instance
def V3s:D→D→Option D:=ii fun i j=>some (.int (i - j))
def X7z:D→D→Option D:=ii fun i j=>if CMul i j then some (.int (i * j)) else none
def X1r:D→D→Option D:=ii fun i j=>if CDiv i j then some (.int (i / j)) else none
def X11:D→D→Option D:=ii fun i j=>if 0 < j then some (.int (i % j)) else none
def W64:D→D→Option D:=ii fun i j=>if CPow i j then some (.int (i ^ j.toNat)) else none
def ltD:D→D→Option D:=ii fun i j=>some (.bl (decide (i < j)))
def leD:D→D→Option D:=ii fun i j=>some (.bl (decide (i ≤ j)))
def gtD:D→D→Option D:=ii fun i j=>some (.bl (decide (j < i)))
def geD:D→D→Option D:=ii fun i j=>some (.bl (decide (j ≤ i)))
end
section
variable {K:PySem.W.Frag} {W:Wd} {H:Hp}
theorem Z9i {p:Addr} {ds:List D} {xs:List V} (hw:∀ a,W a→∃ o,H a=some o) (hp:H p=none) (a:AVs K W H ds xs):AV K W (upd H p (.lst xs)) (.lst ds) (.ref p) :=
  .lst (fun z=>by obtain ⟨o,e⟩:=hw p z; rw [hp] at e; cases e) upd_same (a.mv (Y2s (Z0m hp)))
theorem Y4x {p:Addr} {ds:List D} {xs:List V} (hw:∀ a,W a→∃ o,H a=some o) (hp:H p=none) (a:AVs K W H ds xs):AV K W (upd H p (.tup xs)) (.tup ds) (.ref p) :=
  .tup (.inl ⟨fun z=>(by obtain ⟨o,e⟩:=hw p z; rw [hp] at e; cases e),upd_same⟩) (a.mv (Y2s (Z0m hp)))
theorem Z9j {x y:Str} (hx:PyData.strOk x=true) (hy:PyData.strOk y=true):PyData.strOk (x++y)=true:=by
  unfold PyData.strOk at *
  have e:(x++y).cps=x.cps++y.cps:=rfl
  rw [e,Array.all_append,hx,hy]; rfl
end
def Z8j (a b:D):Option D:=match a,b with
  | .int i, .int j=>some (.int (i + j))
  | .str x, .str y=>if x.length + y.length ≤ sizeLine then some (.str (x++y)) else none
  | .lst xs, .lst ys=>if xs.length + ys.length ≤ sizeLine then some (.lst (xs++ys)) else none
  | .tup xs, .tup ys=>if xs.length + ys.length ≤ sizeLine then some (.tup (xs++ys)) else none
  | _,_=>none
def W87 (K:PySem.W.Frag):R2:=fun x y H Q=>((rI0 fun i j => .int (i + j)) x y H Q) ∨ ((∃ i j,x = .str i∧y = .str j∧i.length + j.length ≤ sizeLine∧Q (.str (i++j)) H) ∨ (rCat x y H Q ∨ rCatA K x y H Q))
theorem W5w {X:Cx}:OpR X (binaryOp .Add) (W87 X.K):=OpR.or op_add (OpR.or op_add_str (OpR.or op_cat op_catA))
theorem V1k {K:PySem.W.Frag}:Op2 K (W87 K) Z8j:=fun W H d1 d2 v1 v2 d Q hw a1 a2 e k=>by
  cases d1 with
  | int i=>cases d2 with
    | int j =>
      cases e
      cases a1.int_inv
      cases a2.int_inv
      exact .inl ⟨i,j,rfl,rfl,k H _ (Same.refl H) (.int _)⟩
    | _=>cases e
  | str x=>cases d2 with
    | str y =>
      have e:(if x.length + y.length ≤ sizeLine then some (D.str (x++y)) else none)=some d:=e
      by_cases h:x.length + y.length ≤ sizeLine
      · rw [if_pos h] at e
        cases e
        obtain ⟨rfl,h1⟩:=a1.str_inv
        obtain ⟨rfl,h2⟩:=a2.str_inv
        exact .inr (.inl ⟨x,y,rfl,rfl,h,k H _ (Same.refl H) (.str (Z9j h1 h2))⟩)
      · rw [if_neg h] at e; cases e
    | _=>cases e
  | lst xs=>cases d2 with
    | lst ys =>
      have e:(if xs.length + ys.length ≤ sizeLine then some (D.lst (xs++ys)) else none)=some d:=e
      by_cases h:xs.length + ys.length ≤ sizeLine
      · rw [if_pos h] at e
        cases e
        obtain ⟨a,vs,rfl,h1,q1⟩:=a1.sq
        obtain ⟨b,us,rfl,h2,q2⟩:=a2.sq
        refine .inr (.inr (.inl ⟨a,b,vs,us,rfl,rfl,h1,h2,by rw [← q1.length,← q2.length]; exact h,fun p hp=>?_⟩))
        exact k _ _ (Z0m hp) (Z9i hw hp (q1.append q2))
      · rw [if_neg h] at e; cases e
    | _=>cases e
  | tup xs=>cases d2 with
    | tup ys =>
      have e:(if xs.length + ys.length ≤ sizeLine then some (D.tup (xs++ys)) else none)=some d:=e
      by_cases h:xs.length + ys.length ≤ sizeLine
      · rw [if_pos h] at e
        cases e
        obtain ⟨a,vs,rfl,h1,q1⟩:=a1.tq
        obtain ⟨b,us,rfl,h2,q2⟩:=a2.tq
        refine .inr (.inr (.inr ⟨a,b,vs,us,rfl,rfl,h1.sq,h2.sq,by rw [← q1.length,← q2.length]; exact h,fun z=>?_,fun z1 z2=>?_,fun _ _ p hp=>?_⟩))
        · subst z
          cases q1
          exact k H _ (Same.refl H) (.tup h2 q2)
        · subst z2
          cases q2
          rw [List.append_nil] at k
          exact k H _ (Same.refl H) (.tup h1 q1)
        · exact k _ _ (Z0m hp) (Y4x hw hp (q1.append q2))
      · rw [if_neg h] at e; cases e
    | _=>cases e
  | _=>cases e
def D.isNon:D→Bool
  | .non=>true
  | _=>false
def isD (a b:D):Option D:=match b with
  | .non=>some (.bl a.isNon)
  | _=>none
def W62 (a b:D):Option D:=match b with
  | .non=>some (.bl (!a.isNon))
  | _=>none
theorem AW.isN {K:PySem.W.Frag} {W:Wd} {H:Hp} {d:D} {v:V} (h:AW K W H d v):decide (v = .non)=d.isNon:=by
  cases h with
  | av h=>cases h <;> simp [D.isNon]
  | lst h hs=>simp [D.isNon]
  | fdc h hs=>simp [D.isNon]
theorem V3m {K:PySem.W.Frag}:Op2 K (fun x y H Q=>y = .non∧Q (.bl (decide (x = .non))) H) isD:=fun W H d1 d2 v1 v2 d Q hw a1 a2 e k=>by
  cases d2 with
  | non =>
    cases a2.non_inv
    refine ⟨rfl,?_⟩
    rw [a1.isN]
    cases e
    exact k H _ (Same.refl H) (.bl _)
  | _=>cases e
theorem V1m {K:PySem.W.Frag}:Op2 K (fun x y H Q=>y = .non∧Q (.bl (!decide (x = .non))) H) W62:=fun W H d1 d2 v1 v2 d Q hw a1 a2 e k=>by
  cases d2 with
  | non =>
    cases a2.non_inv
    refine ⟨rfl,?_⟩
    rw [a1.isN]
    cases e
    exact k H _ (Same.refl H) (.bl _)
  | _=>cases e
end Bv
namespace Bv
open PySem PySem.Spec L2
open PyProof.Rows hiding St
variable [HasW]
def Z11:D→Option Bool
  | .non=>some false
  | .bl b=>some b
  | .int i=>some (i != 0)
  | .str x=>if x.length ≤ sizeLine then some ((x.length:Int) != 0) else none
  | .lst ds=>some (!ds.isEmpty)
  | .tup ds=>some (!ds.isEmpty)
  | .dic _=>none
  | .scr ns=>some (!ns.isEmpty)
  | .obj _ _=>none
  | .gl _=>none
theorem AVs.isEmpty {K:PySem.W.Frag} {W:Wd} {H:Hp}:∀ {ds:List D} {vs:List V},AVs K W H ds vs→ds.isEmpty=vs.isEmpty
  | _,_, .nil=>rfl
  | _,_, .cons _ _=>rfl
theorem AW.tru {K:PySem.W.Frag} {W:Wd} {H:Hp} {d:D} {v:V} {b:Bool} (h:AW K W H d v) (e:Z11 d=some b):TruV K v H b:=by
  cases d with
  | non=>cases h.non_inv; cases e; rfl
  | bl c=>cases h.bl_inv; cases e; rfl
  | int i=>cases h.int_inv; cases e; rfl
  | str x =>
    obtain ⟨rfl,_⟩:=h.str_inv
    have e:(if x.length ≤ sizeLine then some ((x.length:Int) != 0) else none)=some b:=e
    by_cases hx:x.length ≤ sizeLine
    · rw [if_pos hx] at e
      cases e
      exact ⟨hx,rfl⟩
    · rw [if_neg hx] at e; cases e
  | lst ds =>
    obtain ⟨a,xs,rfl,h1,h2⟩:=h.sq
    cases e
    exact .inl ⟨xs, .inl (.inl h1),by rw [h2.isEmpty]⟩
  | tup ds =>
    obtain ⟨a,xs,rfl,h1,h2⟩:=h.tq
    cases e
    exact .inr (.inl ⟨xs,h1.sq,by rw [h2.isEmpty]⟩)
  | dic ds=>cases e
  | scr ns =>
    cases e
    cases h with
    | av h=>cases h with
      | scr r=>exact .inl ⟨_,r.sl,by simp⟩
  | obj _ _=>cases e
  | gl _=>cases e
def Z0e (S:Sto) (x:X):Option Bool:=(x.get S).bind Z11
def Y6 (m:M):MG Bool:=fun e S=>(m e S).bind fun x S1=>match Z0e S1 x with
  | some b => .ok b S1
  | none => .bad
def tb:X→Sto→R Bool:=fun x S=>match x with
  | .d (.bl b) => .ok b S
  | _ => .bad
def Z0d (m:M):MG Bool:=fun e S=>(m e S).bind tb
def W8 (m:MG Bool):MG Bool:=fun e S=>(m e S).bind fun b S1 => .ok (!b) S1
def Q3 (ma mb:MG Bool):MG Bool:=fun e S=>(ma e S).bind fun b S1=>if b then mb e S1 else .ok false S1
def Z0i (ma mb:MG Bool):MG Bool:=fun e S=>(ma e S).bind fun b S1=>if b then .ok true S1 else mb e S1
def Y0v (m:MG Bool):M:=fun e S=>(m e S).bind fun b S1 => .ok (.d (.bl b)) S1
def Z3h (m:M):M:=Y0v (W8 (Y6 m))
def Z1y (ma mb:M):M:=fun e S=>(ma e S).bind fun x S1=>match Z0e S1 x with
  | some true=>mb e S1
  | some false => .ok x S1
  | none => .bad
def Z5k (ma mb:M):M:=fun e S=>(ma e S).bind fun x S1=>match Z0e S1 x with
  | some true => .ok x S1
  | some false=>mb e S1
  | none => .bad
def Z56 (mt:MG Bool) (ma mb:M):M:=fun e S=>(mt e S).bind fun b S1=>if b then ma e S1 else mb e S1
section
variable {X:Cx} {Wx:WX} {pos:Pos} {a b c:Expr} {ma mb mc:M} {rest:List Expr} {mt mu:MG Bool}
theorem AX.tru {K:PySem.W.Frag} {Z:Wd} {ρ:List Addr} {S:Sto} {H:Hp} {x:Bv.X} {v:V} {k:Bool} (st:Sta K Z ρ S H) (h:AX K (Wn Z ρ) ρ H x v) (e:Z0e S x=some k):TruV K v H k:=by
  obtain ⟨d,h1,h2⟩:=Option.bind_eq_some_iff.mp e
  exact (h.get st h1).tru h2
theorem X9 (h:ME X Wx a ma) (he:∀ whole,isTrue a X.env whole=(do let v ← whole; standAt a.pos; holding [v] (truthy v)):=by intro _; rfl):MT X Wx a (Y6 ma):=by
  refine ⟨fun pins s σ H Q I hq=>(pt_truth h he).run pins s σ H Q I ?_⟩
  obtain ⟨Z,ρ,e,S,st,ev,p⟩:=hq
  refine V2 st ev p fun ρ1 H1 v x S1 st1 g1 ev1 a1 p1=>?_
  cases q:Z0e S1 x with
  | none=>rw [q] at p1; exact p1.elim
  | some k =>
    rw [q] at p1
    exact ⟨k,a1.tru st1 q,p1.ret0 st1 rfl⟩
theorem W8l {op:CmpOp} {r:R2} {f:D→D→Option D} (ho:OpR X (compareOp op) r) (hf:Op2 X.K r f) (ha:ME X Wx a ma) (hb:ME X Wx b mb) (hm:behindInMarks op b=false:=by first | exact nomark _ | (with_unfolding_all rfl)):MT X Wx (.Compare a [op] [b] pos) (Z0d (Y5 f ma mb)):=by
  refine ⟨fun pins s σ H Q I hq=>(pt_cmpR ho ha hb hm).run pins s σ H Q I ?_⟩
  obtain ⟨Z,ρ,e,S,st,ev,p⟩:=hq
  show tOp r (RE X.K Wx ma) (RE X.K Wx mb) σ H fun x H'=>∃ k,x = .bl k∧Q k H'
  refine X2t (f:=f) hf ?_
  refine V2 st ev p fun ρ1 H1 v x S1 st1 g1 ev1 a1 p1=>?_
  cases x with
  | r n=>exact p1.elim
  | d d =>
    cases d with
    | bl k =>
      cases a1 with
      | d h =>
        cases h
        exact ⟨k,rfl,p1.ret0 st1 rfl⟩
    | _=>exact p1.elim
theorem Z0q (h:MT X Wx a mt):MT X Wx (.UnaryOp .Not a pos) (W8 mt):=by
  refine ⟨fun pins s σ H Q I hq=>(pt_not h).run pins s σ H Q I ?_⟩
  obtain ⟨Z,ρ,e,S,st,ev,p⟩:=hq
  refine V2 st ev p fun ρ1 H1 v x S1 st1 g1 ev1 a1 p1=>?_
  cases (show x=v from a1)
  exact p1.ret0 st1 rfl
abbrev MW (X:Cx) (Wx:WX) (e:Expr) (m:MG Bool):Prop:=PW X e (RB X.K Wx m)
theorem Z26 (h:MT X Wx a mt):MW X Wx (.BoolOp .And [a] pos) mt:=pw_and1 h
theorem Z2n (h:MT X Wx a mt):MW X Wx (.BoolOp .Or [a] pos) mt:=pw_or1 h
theorem Z3z (h:MT X Wx a mt) (h2:MW X Wx (.BoolOp .And (b :: rest) pos) mu):MW X Wx (.BoolOp .And (a :: b :: rest) pos) (Q3 mt mu):=by
  refine ⟨fun wh pins s σ H Q I hq=>(pw_and h h2).run wh pins s σ H Q I ?_⟩
  obtain ⟨Z,ρ,e,S,st,ev,p⟩:=hq
  refine V2 st ev p fun ρ1 H1 v x S1 st1 g1 ev1 a1 p1=>?_
  cases (show x=v from a1)
  cases v with
  | true=>exact ⟨Z,ρ1,e,S1,st1,ev1,p1⟩
  | false=>exact p1.ret0 st1 rfl
theorem Z36 (h:MT X Wx a mt) (h2:MW X Wx (.BoolOp .Or (b :: rest) pos) mu):MW X Wx (.BoolOp .Or (a :: b :: rest) pos) (Z0i mt mu):=by
  refine ⟨fun wh pins s σ H Q I hq=>(pw_or h h2).run wh pins s σ H Q I ?_⟩
  obtain ⟨Z,ρ,e,S,st,ev,p⟩:=hq
  refine V2 st ev p fun ρ1 H1 v x S1 st1 g1 ev1 a1 p1=>?_
  cases (show x=v from a1)
  cases v with
  | true=>exact p1.ret0 st1 rfl
  | false=>exact ⟨Z,ρ1,e,S1,st1,ev1,p1⟩
theorem Z6p (h:MW X Wx a mt):MT X Wx a mt:=h.pt
theorem Y9r (h:ME X Wx a ma):ME X Wx (.UnaryOp .Not a pos) (Z3h ma):=PE.of (pe_notT h) fun σ H Q ⟨Z,ρ,e,S,st,ev,p⟩=>by
  have p:Z91 X.K Z ρ H Wx σ Q ((ma e S).bind fun x S1=>((match Z0e S1 x with
    | some b=>R.ok b S1
    | none => .bad).bind fun b S1=>R.ok (!b) S1).bind fun b S1 => .ok (.d (.bl b)) S1):=by
    have e1:Z3h ma e S=_:=rfl
    rw [e1] at p
    unfold Z3h Y0v W8 Y6 at p
    cases q:ma e S with
    | ok x S1=>rw [q] at p; exact p
    | err C fs S1=>rw [q] at p; exact p
    | bad=>rw [q] at p; exact p
  refine V2 st ev p fun ρ1 H1 v x S1 st1 g1 ev1 a1 p1=>?_
  cases q:Z0e S1 x with
  | none=>rw [q] at p1; exact p1.elim
  | some k =>
    rw [q] at p1
    exact ⟨k,a1.tru st1 q,V7.ret0 p1 st1 (.d (.bl _))⟩
theorem Z3m {op} (h:ME X Wx a ma):ME X Wx (.BoolOp op [a] pos) ma:=pe_one h
theorem Z9d (h:ME X Wx a ma) (h2:ME X Wx (.BoolOp .And (b :: rest) pos) mb):ME X Wx (.BoolOp .And (a :: b :: rest) pos) (Z1y ma mb):=PE.of (pe_andT h h2) fun σ H Q ⟨Z,ρ,e,S,st,ev,p⟩=>by
  refine V2 st ev p fun ρ1 H1 v x S1 st1 g1 ev1 a1 p1=>?_
  cases q:Z0e S1 x with
  | none=>rw [q] at p1; exact p1.elim
  | some k =>
    rw [q] at p1
    refine ⟨k,a1.tru st1 q,?_⟩
    cases k with
    | true=>rw [if_pos rfl]; exact ⟨Z,ρ1,e,S1,st1,ev1,p1⟩
    | false=>rw [if_neg Bool.false_ne_true]; exact V7.ret0 p1 st1 a1
theorem Y0w (h:ME X Wx a ma) (h2:ME X Wx (.BoolOp .Or (b :: rest) pos) mb):ME X Wx (.BoolOp .Or (a :: b :: rest) pos) (Z5k ma mb):=PE.of (pe_orT h h2) fun σ H Q ⟨Z,ρ,e,S,st,ev,p⟩=>by
  refine V2 st ev p fun ρ1 H1 v x S1 st1 g1 ev1 a1 p1=>?_
  cases q:Z0e S1 x with
  | none=>rw [q] at p1; exact p1.elim
  | some k =>
    rw [q] at p1
    refine ⟨k,a1.tru st1 q,?_⟩
    cases k with
    | true=>rw [if_pos rfl]; exact V7.ret0 p1 st1 a1
    | false=>rw [if_neg Bool.false_ne_true]; exact ⟨Z,ρ1,e,S1,st1,ev1,p1⟩
theorem Y3j (hc:MT X Wx c mt) (h:ME X Wx a ma) (h2:ME X Wx b mb):ME X Wx (.IfExp c a b pos) (Z56 mt ma mb):=PE.of (pe_ifExp hc h h2) fun σ H Q ⟨Z,ρ,e,S,st,ev,p⟩=>by
  refine V2 st ev p fun ρ1 H1 v x S1 st1 g1 ev1 a1 p1=>?_
  cases (show x=v from a1)
  cases v with
  | true=>exact ⟨Z,ρ1,e,S1,st1,ev1,p1⟩
  | false=>exact ⟨Z,ρ1,e,S1,st1,ev1,p1⟩
theorem X6e {r r':R2} {f g:D→D→Option D} (hf:Op2 X.K r f) (hg:Op2 X.K r' g) {σ:St} {H:Hp} {Q:VK} (h:RE X.K Wx (Z0r f g ma mb mc) σ H Q):tChain r r' (RE X.K Wx ma) (RE X.K Wx mb) (RE X.K Wx mc) σ H Q:=by
  obtain ⟨Z,ρ,e,S,st,ev,p⟩:=h
  refine V2 st ev p fun ρ1 H1 v x S1 st1 g1 ev1 a1 p1=>?_
  refine V2 st1 ev1 p1 fun ρ2 H2 u y S2 st2 g2 ev2 a2 p2=>?_
  have a1':=a1.mv (g2.mv st1) g2.pre
  have:=ev2
  have key:∀ d:D,op2 f S2 x y=R.ok (Bv.X.d d) S2→∃ d1 d2,x.get S2=some d1∧y.get S2=some d2∧f d1 d2=some d:=fun d q=>by
    unfold op2 at q
    cases e1:x.get S2 with
    | none=>rw [e1] at q; cases q
    | some d1 =>
      cases e2:y.get S2 with
      | none=>rw [e1,e2] at q; cases q
      | some d2 =>
        rw [e1,e2] at q
        have q:(match f d1 d2 with
          | some d=>R.ok (Bv.X.d d) S2
          | none => .bad) = .ok (Bv.X.d d) S2:=q
        cases e3:f d1 d2 with
        | none=>rw [e3] at q; cases q
        | some d3=>rw [e3] at q; cases q; exact ⟨d1,d2,rfl,rfl,e3⟩
  cases q:op2 f S2 x y with
  | bad=>rw [q] at p2; exact p2.elim
  | err C fs S3=>unfold op2 at q; split at q <;> (first | cases q | (split at q <;> cases q))
  | ok z S3 =>
    have hz:∃ d:D,z=Bv.X.d d∧S3=S2:=by
      unfold op2 at q
      split at q
      · split at q
        · cases q; exact ⟨_,rfl,rfl⟩
        · cases q
      · cases q
    obtain ⟨d,rfl,rfl⟩:=hz
    obtain ⟨d1,d2,e1,e2,e3⟩:=key d q
    rw [q] at p2
    refine hf (Wn Z ρ2) H2 d1 d2 v u d _ (fun _ h=>st2.thereW h) (a1'.get st2 e1) (a2.get st2 e2) e3 fun H3 w k a3=>?_
    cases d with
    | bl kk =>
      cases a3
      refine ⟨kk,rfl,?_⟩
      have st3:=st2.grow k
      have g3:Go ρ2 H2 ρ2 H3:=Go.grow k
      have ev3:=ev2.mv (g3.mv st2) g3.pre
      cases kk with
      | true =>
        rw [if_pos rfl]
        refine V2 st3 ev3 (V7.shift g3 st3 p2) fun ρ4 H4 w' y' S4 st4 g4 ev4 a4 p4=>?_
        exact X77 hg st4 (a2.mv ((g3.trans g4).mv st2) (g3.trans g4).pre) a4 p4
      | false =>
        rw [if_neg Bool.false_ne_true]
        exact V7.ret p2 st2 k (.d (.bl _))
    | _=>exact p2.elim
theorem W9r {m:M} {σ:St} {H:Hp} {Q:Bool→Hp→Prop} (h:RB X.K Wx (Z0d m) σ H Q):RE X.K Wx m σ H fun x H'=>∃ k,x = .bl k∧Q k H':=by
  obtain ⟨Z,ρ,e,S,st,ev,p⟩:=h
  refine V2 st ev p fun ρ1 H1 v x S1 st1 g1 ev1 a1 p1=>?_
  cases x with
  | r n=>exact p1.elim
  | d d =>
    cases d with
    | bl k =>
      cases a1 with
      | d h =>
        cases h
        exact ⟨k,rfl,p1.ret0 st1 rfl⟩
    | _=>exact p1.elim
theorem W02 {op op':CmpOp} {r r':R2} {f g:D→D→Option D} (ho:OpR X (compareOp op) r) (ho':OpR X (compareOp op') r') (hf:Op2 X.K r f) (hg:Op2 X.K r' g) (ha:ME X Wx a ma) (hb:ME X Wx b mb) (hc:ME X Wx c mc)
    (hm:lastMarks [op,op'] [b,c]=false:=by with_unfolding_all rfl):MT X Wx (.Compare a [op,op'] [b,c] pos) (Z0d (Z0r f g ma mb mc)) :=
  ⟨fun pins s σ H Q I hq=>(pt_chain ho ho' ha hb hc hm).run pins s σ H Q I (X6e hf hg (W9r hq))⟩
end
end Bv
namespace Bv
open PySem PySem.Spec L2
open PyProof.Rows hiding St
variable [HasW]
def Z5r {α:Type} (o:Option α) (S:Sto):R α:=match o with
  | some a => .ok a S
  | none => .bad
theorem V7.opt {α β:Type} {rel:Wd→List Addr→Hp→α→β→Prop} {K:PySem.W.Frag} {Z:Wd} {ρ:List Addr} {H:Hp} {Wx:WX} {σ:St} {Q:β→Hp→Prop} {o:Option α} {S:Sto} (p:V7 rel K Z ρ H Wx σ Q (Z5r o S)):∃ a,o=some a∧V7 rel K Z ρ H Wx σ Q (.ok a S):=by
  cases o with
  | none=>exact p.elim
  | some a=>exact ⟨a,rfl,p⟩
def Z7:MG (List X):=fun _ S => .ok [] S
def Z0 (m:M) (ms:MG (List X)):MG (List X):=fun e S=>(m e S).bind fun x S1=>(ms e S1).bind fun xs S2 => .ok (x :: xs) S2
def items (S:Sto):X→Option (List X)
  | .d (.lst ds)=>some (ds.map .d)
  | .d (.tup ds)=>some (ds.map .d)
  | .d _=>none
  | .r n=>match S[n]? with
    | some (.lst xs)=>some xs
    | _=>none
def Z0a (m:M) (ms:MG (List X)):MG (List X):=fun e S=>(m e S).bind fun x S1=>match items S1 x with
  | some ys=>(ms e S1).bind fun xs S2 => .ok (ys++xs) S2
  | none => .bad
section
variable {X:Cx} {Wx:WX} {pos p:Pos} {a b c:Expr} {es:List Expr} {ma mb mc m:M} {ms:MG (List Bv.X)}
theorem Paired.append {α β:Type} {F:α→β→Prop}:∀ {l1 l2:List α} {r1 r2:List β},Paired F l1 r1→Paired F l2 r2→Paired F (l1++l2) (r1++r2)
  | _,_,_,_, .nil,s=>s
  | _,_,_,_, .cons r t,s => .cons r (Paired.append t s)
theorem AVs.axs {K:PySem.W.Frag} {W:Wd} {ρ:List Addr} {H:Hp}:∀ {ds:List D} {vs:List V},AVs K W H ds vs→AXs K W ρ H (ds.map .d) vs
  | _,_, .nil => .nil
  | _,_, .cons h hs => .cons (.d h) (AVs.axs hs)
theorem AX.items {K:PySem.W.Frag} {Z:Wd} {ρ:List Addr} {S:Sto} {H:Hp} {x:Bv.X} {v:V} {ys:List Bv.X} (st:Sta K Z ρ S H) (h:AX K (Wn Z ρ) ρ H x v) (e:items S x=some ys) :
    ∃ q xs,v = .ref q∧(SqT K H q xs ∨ SqL K H q xs)∧AXs K (Wn Z ρ) ρ H ys xs:=by
  cases h with
  | d h =>
    cases h with
    | lst w r hs=>cases e; exact ⟨_,_,rfl, .inr (.inl (.inl r)),hs.axs⟩
    | tup t hs=>cases e; exact ⟨_,_,rfl, .inl t.sq,hs.axs⟩
    | _=>cases e
  | r h =>
    rename_i n q
    have e1:(match S[n]? with
      | some (.lst xs)=>some xs
      | _=>none)=some ys:=e
    cases z:S[n]? with
    | none=>rw [z] at e1; cases e1
    | some o =>
      rw [z] at e1
      cases o with
      | lst xs =>
        cases e1
        obtain ⟨vs,h1,h2⟩:=st.ob n _ q z h
        exact ⟨q,vs,rfl, .inr (.inl (.inl h1)),h2⟩
      | _=>cases e1
theorem Z8:MA X Wx [] Z7:=⟨fun pos pins s σ H Q I h=>pa_nil.run pos pins s σ H Q I (by
  obtain ⟨Z,ρ,e,S,st,ev,p⟩:=h
  exact V7.ret0 p st .nil)⟩
theorem PA.of {X:Cx} {es:List Expr} {t t':TA} (h:PA X es t) (w:∀ σ H Q,t' σ H Q→t σ H Q):PA X es t':=⟨fun pos pins s σ H Q I q=>h.run pos pins s σ H Q I (w σ H Q q)⟩
theorem Z1 (h:ME X Wx a ma) (h2:MA X Wx es ms) (hs:starEach (a :: es) X.env=(false,eval a X.env) :: starEach es X.env:=by rfl):MA X Wx (a :: es) (Z0 ma ms):=PA.of (pa_cons h h2 hs) fun σ H Q ⟨Z,ρ,e,S,st,ev,p⟩=>by
  refine V2 st ev p fun ρ1 H1 v x S1 st1 g1 ev1 a1 p1=>?_
  refine V2 st1 ev1 p1 fun ρ2 H2 vs xs S2 st2 g2 ev2 a2 p2=>?_
  exact V7.ret0 p2 st2 (.cons (a1.mv (g2.mv st1) g2.pre) a2)
theorem Z5c (h:ME X Wx a ma) (h2:MA X Wx es ms) (hs:starEach (.Starred a p :: es) X.env=(true,eval a X.env) :: starEach es X.env:=by rfl):MA X Wx (.Starred a p :: es) (Z0a ma ms):=PA.of (StX.pa_star h h2 hs) fun σ H Q ⟨Z,ρ,e,S,st,ev,p⟩=>by
  refine V2 st ev p fun ρ1 H1 v x S1 st1 g1 ev1 a1 p1=>?_
  cases q:items S1 x with
  | none=>rw [q] at p1; exact p1.elim
  | some ys =>
    rw [q] at p1
    obtain ⟨b,us,rfl,hq,ha⟩:=a1.items st1 q
    refine ⟨b,us,rfl,hq,?_⟩
    refine V2 st1 ev1 p1 fun ρ2 H2 vs xs S2 st2 g2 ev2 a2 p2=>?_
    exact V7.ret0 p2 st2 (Paired.append (ha.mv (g2.mv st1) g2.pre) a2)
def Z4f (xs:List Bv.X) (S:Sto):R Bv.X:=match ds? xs with
  | some ds=>if ds.length ≤ sizeLine then .ok (.d (.tup ds)) S else .bad
  | none => .bad
def Z4d (xs:List Bv.X) (S:Sto):R Bv.X:=match ds? xs with
  | some ds=>if ds.length ≤ sizeLine then .ok (.d (.lst ds)) S else .bad
  | none => .bad
def Z4e (xs:List Bv.X) (S:Sto):R Bv.X:=if xs.length ≤ sizeLine then .ok (.r S.length) (S++[.lst xs]) else .bad
def V4 (ms:MG (List Bv.X)):M:=fun e S=>(ms e S).bind Z4f
def Q7 (ms:MG (List Bv.X)):M:=fun e S=>(ms e S).bind Z4d
def Q8 (ms:MG (List Bv.X)):M:=fun e S=>(ms e S).bind Z4e
theorem Paired.length {α β:Type} {F:α→β→Prop}:∀ {l:List α} {r:List β},Paired F l r→l.length=r.length
  | _,_, .nil=>rfl
  | _,_, .cons _ t=>by simp [Paired.length t]
theorem Q1 {x1} (h:MA X Wx es ms):ME X Wx (.Tuple es x1 pos) (V4 ms):=PE.of (pe_tup h) fun σ H Q ⟨Z,ρ,e,S,st,ev,p⟩=>by
  refine V2 st ev p fun ρ1 H1 vs xs S1 st1 g1 ev1 a1 p1=>?_
  unfold Z4f at p1
  cases q:ds? xs with
  | none=>rw [q] at p1; exact p1.elim
  | some ds =>
    rw [q] at p1
    have p1:Z91 X.K Z ρ1 H1 Wx σ Q (if ds.length ≤ sizeLine then .ok (.d (.tup ds)) S1 else .bad):=p1
    by_cases hl:ds.length ≤ sizeLine
    · rw [if_pos hl] at p1
      have av:=AXs.ds a1 q
      exact ⟨by rw [← av.length]; exact hl,fun p hp=>V7.ret p1 st1 (Z0m hp) (.d (Y4x (fun _ h=>st1.thereW h) hp av))⟩
    · rw [if_neg hl] at p1; exact p1.elim
theorem Z0o (h:MA X Wx es ms):ME X Wx (.List es pos) (Q7 ms):=PE.of (pe_lst h) fun σ H Q ⟨Z,ρ,e,S,st,ev,p⟩=>by
  refine V2 st ev p fun ρ1 H1 vs xs S1 st1 g1 ev1 a1 p1=>?_
  unfold Z4d at p1
  cases q:ds? xs with
  | none=>rw [q] at p1; exact p1.elim
  | some ds =>
    rw [q] at p1
    have p1:Z91 X.K Z ρ1 H1 Wx σ Q (if ds.length ≤ sizeLine then .ok (.d (.lst ds)) S1 else .bad):=p1
    by_cases hl:ds.length ≤ sizeLine
    · rw [if_pos hl] at p1
      have av:=AXs.ds a1 q
      exact ⟨by rw [← av.length]; exact hl,fun p hp=>V7.ret p1 st1 (Z0m hp) (.d (Z9i (fun _ h=>st1.thereW h) hp av))⟩
    · rw [if_neg hl] at p1; exact p1.elim
theorem Sta.pushL {K:PySem.W.Frag} {Z:Wd} {ρ:List Addr} {S:Sto} {H:Hp} {q:Addr} {xs:List Bv.X} {vs:List V} (s:Sta K Z ρ S H) (hq:H q=none) (a:AXs K (Wn Z ρ) ρ H xs vs) :
    Sta K Z (ρ++[q]) (S++[.lst xs]) (upd H q (.lst vs))∧Go ρ H (ρ++[q]) (upd H q (.lst vs)):=by
  have g:Go ρ H (ρ++[q]) (upd H q (.lst vs)):=⟨List.prefix_append _ _,fun b o h e=>⟨fun z=>(by
    rcases List.mem_append.mp z with z | z
    · exact h z
    · have:b=q:=by simpa using z
      rw [this,hq] at e; cases e),Z0m hq b o e⟩,fun b _ _ e=>Z0m hq b _ e⟩
  exact s.push hq (Z0m hq) ⟨vs,upd_same,a.mv (g.mv s) g.pre⟩
theorem Z5d (h:MA X Wx es ms):ME X Wx (.List es pos) (Q8 ms):=PE.of (pe_lst h) fun σ H Q ⟨Z,ρ,e,S,st,ev,p⟩=>by
  refine V2 st ev p fun ρ1 H1 vs xs S1 st1 g1 ev1 a1 p1=>?_
  unfold Z4e at p1
  by_cases hl:xs.length ≤ sizeLine
  · rw [if_pos hl] at p1
    refine ⟨by rw [← Paired.length a1]; exact hl,fun q hq=>?_⟩
    obtain ⟨h1,h2⟩:=st1.pushL hq a1
    exact p1 _ _ _ h1 h2 (.r (by rw [st1.len]; simp))
  · rw [if_neg hl] at p1; exact p1.elim
def Z3j (Cs:List Str) (f:Str) (S:Sto):Bv.X→Option Bv.X
  | .d (.obj C fs)=>if Cs.contains C then (fs.lookup f).map .d else none
  | .d _=>none
  | .r n=>match S[n]? with
    | some (.ins C fs)=>if Cs.contains C then fs.lookup f else none
    | _=>none
def X4 (Cs:List Str) (f:Str) (m:M):M:=fun e S=>(m e S).bind fun x S1=>Z5r (Z3j Cs f S1 x) S1
def Z3y (K:PySem.W.Frag) (Cs:List Str) (f:Str):Prop:=∀ C ∈ Cs,Cls K (He.ga K C)∧NoAttr K (He.ga K C) f
theorem Y66 {K:PySem.W.Frag} {W:Wd} {ρ:List Addr} {H:Hp}:∀ {fs:List (Str × Bv.X)} {vs:List (Str × V)} {f:Str} {x:Bv.X},Paired (fun (p:Str × Bv.X) (q:Str × V)=>p.1=q.1∧AX K W ρ H p.2 q.2) fs vs→fs.lookup f=some x→∃ v,vs.lookup f=some v∧AX K W ρ H x v
  | _,_,_,_, .nil,e=>by cases e
  | (g,y) :: r,(g',v) :: r',f,x, .cons ⟨h1,h2⟩ hs,e=>by
    cases (show g=g' from h1)
    rw [List.lookup_cons] at e ⊢
    cases q:f == g with
    | true=>rw [q] at e; cases e; exact ⟨_,rfl,h2⟩
    | false=>rw [q] at e; exact Y66 hs e
theorem Y67 {K:PySem.W.Frag} {W:Wd} {ρ:List Addr} {H:Hp}:∀ {fs:List (Str × Bv.X)} {vs:List (Str × V)} {f:Str},Paired (fun (p:Str × Bv.X) (q:Str × V)=>p.1=q.1∧AX K W ρ H p.2 q.2) fs vs→fs.lookup f=none→vs.lookup f=none
  | _,_,_, .nil,e=>rfl
  | (g,y) :: r,(g',v) :: r',f, .cons ⟨h1,h2⟩ hs,e=>by
    cases (show g=g' from h1)
    rw [List.lookup_cons] at e ⊢
    cases q:f == g with
    | true=>rw [q] at e; cases e
    | false=>rw [q] at e; exact Y67 hs e
theorem Z6s {α:Type} {c:Bool} {o:Option α} {a:α} (h:(if c then o else none)=some a):c=true∧o=some a:=by
  cases c with
  | true=>exact ⟨rfl,h⟩
  | false=>cases h
theorem V5 {f:Str} (Cs:List Str) (T:Z3y X.K Cs f) (h:ME X Wx a ma) (hb:attributeBase a f X.env (eval a X.env)=eval a X.env:=by rfl):ME X Wx (.Attribute a f pos) (X4 Cs f ma):=PE.of (pe_fld h hb) fun σ H Q ⟨Z,ρ,e,S,st,ev,p⟩=>by
  refine V2 st ev p fun ρ1 H1 v x S1 st1 g1 ev1 a1 p1=>?_
  obtain ⟨y,hy,p2⟩:=p1.opt
  clear p1
  cases a1 with
  | d h1 =>
    cases h1 with
    | obj w r hs =>
      rename_i C q dx vs fs
      obtain ⟨hc,hl⟩:=Z6s (show (if Cs.contains C then (fs.lookup f).map Bv.X.d else none)=some y from hy)
      obtain ⟨d,z,rfl⟩:=Option.map_eq_some_iff.mp hl
      obtain ⟨v,h2,h3⟩:=hs.look z
      obtain ⟨t1,t2⟩:=T C (by simpa using hc)
      exact ⟨_,_,_,_,v,rfl,r,t1,t2,h2,V7.ret0 p2 st1 (.d h3)⟩
    | _=>cases hy
  | r h1 =>
    rename_i n q
    cases z:S1[n]? with
    | none=>simp [Z3j,z] at hy
    | some o =>
      cases o with
      | ins C fs =>
        obtain ⟨hc,hl⟩:=Z6s (show (if Cs.contains C then fs.lookup f else none)=some y by simpa [Z3j,z] using hy)
        obtain ⟨dx,vs,h2,h3⟩:=st1.ob n _ q z h1
        obtain ⟨v,h4,h5⟩:=Y66 h3 hl
        obtain ⟨t1,t2⟩:=T C (by simpa using hc)
        exact ⟨_,_,_,_,v,rfl,h2,t1,t2,h4,V7.ret0 p2 st1 h5⟩
      | _=>simp [Z3j,z] at hy
def ixD:Bv.X→Int→Option Bv.X
  | .d (.str z),i=>if decide (z.length ≤ sizeLine) then (atI z.cps.toList i).map fun c => .d (.str ⟨#[c]⟩) else none
  | .d (.scr ns),i=>(atI ns i).map fun z => .d (.int z)
  | _,_=>none
def ixO (S:Sto) (x:Bv.X) (i:Int):Option Bv.X:=match items S x with
  | some xs=>atI xs i
  | none=>ixD x i
def Z8c:Bv.X→Option Int
  | .d (.int i)=>some i
  | _=>none
def Z1m (ma mb:M):M:=fun e S=>(ma e S).bind fun x S1=>(mb e S1).bind fun y S2=>Z5r ((Z8c y).bind (ixO S2 x)) S2
theorem AX.int {K:PySem.W.Frag} {W:Wd} {ρ:List Addr} {H:Hp} {x:Bv.X} {v:V} {i:Int} (a:AX K W ρ H x v) (h:Z8c x=some i):v = .int i:=by
  cases a with
  | r _=>cases h
  | d h1 =>
    cases h1 with
    | int j=>cases h; rfl
    | _=>cases h
theorem X9p {α β:Type} {F:α→β→Prop} {l:List α} {r:List β} (p:Paired F l r) {i:Int} {a:α} (e:atI l i=some a):∃ b,atI r i=some b∧F a b:=by
  unfold atI at *
  rw [Paired.length p] at e
  cases q:ixN r.length i with
  | none=>rw [q] at e; cases e
  | some j =>
    rw [q] at e
    have e:l[j]?=some a:=e
    have go:∀ {l:List α} {r:List β} {j:Nat},Paired F l r→l[j]?=some a→∃ b,r[j]?=some b∧F a b:=fun {l r j} p=>by
      induction p generalizing j with
      | nil=>intro z; simp at z
      | cons x _ ih =>
        intro z
        cases j with
        | zero=>simp at z; subst z; exact ⟨_,rfl,x⟩
        | succ n=>simp at z; obtain ⟨b,h1,h2⟩:=ih z; exact ⟨b,by simpa using h1,h2⟩
    obtain ⟨b,h1,h2⟩:=go p e
    exact ⟨b,h1,h2⟩
theorem Y5o {z:Str} {c:Nat} (h:PyData.strOk z=true) (m:c ∈ z.cps.toList):c < 0x110000:=by
  have h2:=Array.all_eq_true_iff_forall_mem.mp (show z.cps.all (· < 0x110000)=true from h) c (by simpa using m)
  simpa using h2
theorem Y3w {z:Str} (h:∀ c ∈ z.cps.toList,c < 0x110000):PyData.strOk z=true:=by
  show z.cps.all (· < 0x110000)=true
  exact Array.all_eq_true_iff_forall_mem.mpr fun c m=>by simpa using h c (by simpa using m)
theorem W3v {α:Type} {l:List α} {i:Int} {a:α} (e:atI l i=some a):a ∈ l:=by
  unfold atI at e
  cases q:ixN l.length i with
  | none=>rw [q] at e; cases e
  | some j=>rw [q] at e; exact List.mem_of_getElem? e
theorem Z13 (ha:ME X Wx a ma) (hb:ME X Wx b mb) (hs:PlainIx b:=by exact fun _ _=>rfl):ME X Wx (.Subscript a b pos) (Z1m ma mb):=PE.of (pe_ix ix_seq ha hb hs) fun σ H Q ⟨Z,ρ,e,S,st,ev,p⟩=>by
  refine V2 st ev p fun ρ1 H1 v x S1 st1 g1 ev1 a1 p1=>?_
  refine V2 st1 ev1 p1 fun ρ2 H2 u y S2 st2 g2 ev2 a2 p2=>?_
  have a1':=a1.mv (g2.mv st1) g2.pre
  clear a1
  obtain ⟨w,hw0,p2'⟩:=p2.opt
  clear p2 p1 p
  obtain ⟨i,hi,hw⟩:=Option.bind_eq_some_iff.mp hw0
  clear hw0
  have eu:=a2.int hi
  subst eu
  cases q:items S2 x with
  | some xs =>
    have q2:atI xs i=some w:=by simpa [ixO,q] using hw
    obtain ⟨b,us,rfl,hq,ha⟩:=a1'.items st2 q
    obtain ⟨w',h1,h2⟩:=X9p ha q2
    rcases hq with hq | hq
    · exact .inr (.inl ⟨_,us,i,w',rfl,rfl,hq,h1,V7.ret0 p2' st2 h2⟩)
    · exact .inl ⟨_,us,i,w',rfl,rfl,hq,h1,V7.ret0 p2' st2 h2⟩
  | none =>
    have hw2:ixD x i=some w:=by simpa [ixO,q] using hw
    clear hw
    cases a1' with
    | r h=>cases hw2
    | d h =>
      cases h with
      | str hz =>
        rename_i z
        obtain ⟨hl,hc⟩:=Z6s hw2
        obtain ⟨c,q2,rfl⟩:=Option.map_eq_some_iff.mp hc
        refine .inr (.inr ⟨z,i,c,rfl,rfl,of_decide_eq_true hl,q2,V7.ret0 p2' st2 (.d (.str ?_))⟩)
        have hc:=Y5o hz (W3v q2)
        exact Y3w fun c' m=>by
          have:c'=c:=by simpa using m
          rw [this]; exact hc
      | scr r =>
        rename_i q' ns
        obtain ⟨z,q2,rfl⟩:=Option.map_eq_some_iff.mp hw2
        refine .inl ⟨_,ns.map V.int,i, .int z,rfl,rfl,r.sl,?_,V7.ret0 p2' st2 (.d (.int z))⟩
        unfold atI at *
        rw [List.length_map]
        cases q3:ixN ns.length i with
        | none=>rw [q3] at q2; cases q2
        | some j =>
          rw [q3] at q2
          have q2:ns[j]?=some z:=q2
          show (ns.map V.int)[j]?=some (.int z)
          rw [List.getElem?_map,q2]; rfl
      | _=>cases hw2
end
end Bv
namespace Bv
open PySem PySem.Spec L2
open PyProof.Rows hiding St
variable [HasW]
inductive Out where
  | nx (e:Ev) | rt (x:X) | bk (e:Ev) | ct (e:Ev) | rp (d:D) | rq (xs:List X)
inductive RO where
  | go (o:Out) (S:Sto) | err (C:Str) (fs:List (Str × D)) (e:Ev) (S:Sto) | bad
abbrev MS:=Ev→Sto→RO
def W68 (K:PySem.W.Frag) (W:Wd) (H H':Hp) (fs:List (Str × D)) (d:Option Addr):Prop :=
  (d=none∧fs=[]) ∨ ∃ (dd:Addr) (vs:List (Str × V)),d=some dd∧H dd=none∧¬ W dd∧H' dd=some (.xd vs)∧AVf K W H' fs vs
def Z4t (K:PySem.W.Frag) (Z:Wd) (ρ:List Addr) (H:Hp) (Wx:WX) (D:Ends):RO→Prop
  | .go (.nx e) S'=>∀ (ρ':List Addr) (H':Hp) (σ':St),Sta K Z ρ' S' H'→Go ρ H ρ' H'→EvOk K (Wn Z ρ') ρ' H' e σ'→D.nx σ' H'
  | .go (.bk e) S'=>∀ (ρ':List Addr) (H':Hp) (σ':St),Sta K Z ρ' S' H'→Go ρ H ρ' H'→EvOk K (Wn Z ρ') ρ' H' e σ'→D.bk σ' H'
  | .go (.ct e) S'=>∀ (ρ':List Addr) (H':Hp) (σ':St),Sta K Z ρ' S' H'→Go ρ H ρ' H'→EvOk K (Wn Z ρ') ρ' H' e σ'→D.ct σ' H'
  | .go (.rt x) S'=>∀ (ρ':List Addr) (H':Hp) (v:V),Sta K Z ρ' S' H'→Go ρ H ρ' H'→AX K (Wn Z ρ') ρ' H' x v→D.rt v H'
  | .go (.rp d) _=>∀ (H':Hp) (v:V),(∀ a o,a ∉ ρ→H a=some o→H' a=some o)→AV K Z H' d v→D.rt v H'
  | .go (.rq xs) S'=>∀ (ρ':List Addr) (H':Hp) (vs:List V) (t:Addr),Sta K Z ρ' S' H'→Go ρ H ρ' H'→AXs K (Wn Z ρ') ρ' H' xs vs→H' t=none→D.rt (.ref t) (upd H' t (.tup vs))
  | .err C fs e S'=>∀ (ρ':List Addr) (H':Hp) (σ':St) (d:Option Addr),Sta K Z ρ' S' H'→Go ρ H ρ' H'→EvOk K (Wn Z ρ') ρ' H' e σ'→W68 K (Wn Z ρ') H H' fs d→Wx (.ref (He.ga K C)) d σ' H'
  | .bad=>False
def RS (K:PySem.W.Frag) (Wx:WX) (m:MS):TS:=fun D σ H=>∃ (Z:Wd) (ρ:List Addr) (e:Ev) (S:Sto),Sta K Z ρ S H∧EvOk K (Wn Z ρ) ρ H e σ∧Z4t K Z ρ H Wx D (m e S)
abbrev MP (X:Cx) (Wx:WX) (st:Stmt) (m:MS):Prop:=PS X st (RS X.K Wx m)
abbrev MPs (X:Cx) (Wx:WX) (sts:List Stmt) (m:MS):Prop:=PSs X sts (RS X.K Wx m)
def R.so {α:Type} (r:R α) (e:Ev) (k:α→Sto→RO):RO:=match r with
  | .ok a S=>k a S
  | .err C fs S => .err C fs e S
  | .bad => .bad
section
variable {K:PySem.W.Frag} {Z:Wd} {ρ ρ1:List Addr} {S S1:Sto} {H H1:Hp} {Wx:WX} {σ:St} {D:Ends}
theorem W68.back {W:Wd} {H':Hp} {fs:List (Str × Bv.D)} {d:Option Addr} (s1:∀ a o,H a=some o→∃ u,H1 a=some u) (h:W68 K W H1 H' fs d):W68 K W H H' fs d:=by
  rcases h with q | ⟨dd,vs,h1,h2,h3⟩
  · exact .inl q
  · refine .inr ⟨dd,vs,h1,?_,h3⟩
    cases e:H dd with
    | none=>rfl
    | some o =>
      obtain ⟨u,z⟩:=s1 dd o e
      rw [h2] at z; cases z
theorem Z4t.shift {r:RO} (g:Go ρ H ρ1 H1) (s1:Sta K Z ρ1 S1 H1) (h:Z4t K Z ρ H Wx D r):Z4t K Z ρ1 H1 Wx D r:=by
  cases r with
  | go o S' =>
    cases o with
    | nx e=>exact fun ρ' H' σ' st go ev=>h ρ' H' σ' st (g.trans go) ev
    | bk e=>exact fun ρ' H' σ' st go ev=>h ρ' H' σ' st (g.trans go) ev
    | ct e=>exact fun ρ' H' σ' st go ev=>h ρ' H' σ' st (g.trans go) ev
    | rt x=>exact fun ρ' H' v st go a=>h ρ' H' v st (g.trans go) a
    | rp d=>exact fun H' v k a=>h H' v (fun b o hb q=>let ⟨h1,q1⟩:=g.keep b o hb q; k b o h1 q1) a
    | rq xs=>exact fun ρ' H' vs t st go a ht=>h ρ' H' vs t st (g.trans go) a ht
  | err C fs e S'=>exact fun ρ' H' σ' d st go ev q=>h ρ' H' σ' d st (g.trans go) ev (q.back (X4f g s1))
  | bad=>exact h
theorem Z15 {α β:Type} {rel:Wd→List Addr→Hp→α→β→Prop} {e:Ev} {m:MG α} {k:α→Sto→RO} {R':β→Hp→Prop} (st:Sta K Z ρ S H) (ev:EvOk K (Wn Z ρ) ρ H e σ) (h:Z4t K Z ρ H Wx D ((m e S).so e k))
    (next:∀ ρ1 H1 v x S1,Sta K Z ρ1 S1 H1→Go ρ H ρ1 H1→EvOk K (Wn Z ρ1) ρ1 H1 e σ→rel (Wn Z ρ1) ρ1 H1 x v→Z4t K Z ρ1 H1 Wx D (k x S1)→R' v H1):RG rel K Wx m σ H R':=by
  refine ⟨Z,ρ,e,S,st,ev,?_⟩
  cases q:m e S with
  | ok x S1 =>
    rw [q] at h
    exact fun ρ1 H1 v s1 g a=>next ρ1 H1 v x S1 s1 g (ev.mv (g.mv st) g.pre) a (Z4t.shift g s1 h)
  | err C fs S1 =>
    rw [q] at h
    exact fun ρ' H' d s1 g z=>h ρ' H' σ d s1 g (ev.mv (g.mv st) g.pre) z
  | bad=>rw [q] at h; exact h
theorem Z4t.next {e:Ev} (h:Z4t K Z ρ H Wx D (.go (.nx e) S)) (st:Sta K Z ρ S H) (ev:EvOk K (Wn Z ρ) ρ H e σ):D.nx σ H:=h ρ H σ st (Go.refl _ _) ev
end
def W7:MS:=fun e S => .go (.nx e) S
def RO.then (r:RO) (m:MS):RO:=match r with
  | .go (.nx e) S=>m e S
  | r=>r
def Y2 (m1 m2:MS):MS:=fun e S=>(m1 e S).then m2
def U1 (m:M):MS:=fun e S=>(m e S).so e fun _ S1 => .go (.nx e) S1
def V6 (i:Nat) (m:M):MS:=fun e S=>(m e S).so e fun x S1 => .go (.nx (e.set i (some x))) S1
def Z2h (m:M):MS:=fun e S=>(m e S).so e fun x S1 => .go (.rt x) S1
def X6 (m:M):MS:=fun e S=>(m e S).so e fun x S1=>match x.get S1 with
  | some d => .go (.rp d) S1
  | none => .bad
def Z2p:MS:=fun _ S => .go (.rt (.d .non)) S
def Z06:MS:=fun _ S => .go (.rp .non) S
def gets (S:Sto):List X→Option (List D)
  | []=>some []
  | x :: r=>match x.get S,gets S r with
    | some d,some l=>some (d :: l)
    | _,_=>none
def Z1d (ms:MG (List X)):MS:=fun e S=>(ms e S).so e fun xs S1=>match gets S1 xs with
  | some ds=>if ds.length ≤ sizeLine then .go (.rp (.tup ds)) S1 else .bad
  | none => .bad
def Z0k (mt:MG Bool) (m1 m2:MS):MS:=fun e S=>(mt e S).so e fun b S1=>if b then m1 e S1 else m2 e S1
section
variable {X:Cx} {Wx:WX} {pos p:Pos} {a b c:Expr} {st:Stmt} {es:List Expr} {rest sts sts2:List Stmt} {ma mb mc m:M} {ms:MG (List Bv.X)} {mt:MG Bool} {m1 m2:MS}
theorem PS.of {X:Cx} {st:Stmt} {t t':TS} (h:PS X st t) (w:∀ D σ H,t' D σ H→t D σ H):PS X st t':=⟨fun pins s σ H D I q=>h.run pins s σ H D I (w D σ H q)⟩
theorem PSs.of {X:Cx} {sts:List Stmt} {t t':TS} (h:PSs X sts t) (w:∀ D σ H,t' D σ H→t D σ H):PSs X sts t':=⟨fun pins s σ H D I q=>h.run pins s σ H D I (w D σ H q)⟩
theorem W5:MPs X Wx [] W7:=PSs.of pss_nil fun D σ H ⟨Z,ρ,e,S,st,ev,p⟩=>p.next st ev
theorem Z9 (h1:MP X Wx st m1) (h2:MPs X Wx rest m2):MPs X Wx (st :: rest) (Y2 m1 m2):=PSs.of (pss_cons h1 h2) fun D σ H ⟨Z,ρ,e,S,st,ev,p⟩=>by
  refine ⟨Z,ρ,e,S,st,ev,?_⟩
  have p:Z4t X.K Z ρ H Wx D ((m1 e S).then m2):=p
  cases q:m1 e S with
  | go o S1 =>
    rw [q] at p
    cases o with
    | nx e1=>exact fun ρ' H' σ' st' go ev'=>⟨Z,ρ',e1,S1,st',ev',Z4t.shift go st' p⟩
    | _=>exact p
  | err C fs e1 S1=>rw [q] at p; exact p
  | bad=>rw [q] at p; exact p
theorem Y3 (h1:MP X Wx st m1):MPs X Wx [st] m1:=pss_one h1
theorem Z1k (h:ME X Wx a ma) (hs:swapsWith a none pos.line X.env=pure false:=by rfl):MP X Wx (.Expr a pos) (U1 ma):=PS.of (ps_expr h hs) fun D σ H ⟨Z,ρ,e,S,st,ev,p⟩ =>
  Z15 st ev p fun ρ1 H1 v x S1 st1 g1 ev1 a1 p1=>p1.next st1 ev1
theorem Q6 {i:Nat} {x:Str} {pos':Pos} (hN:X.N.Nodup) (hi:X.N[i]?=some x) (hx:Loc X.env.scope x) (he:ME X Wx a ma) (hs:swapsWith a (some (.Name x pos')) pos.line X.env=pure false:=by rfl) (hf:X.fn x=true ∨ X.env.scope.names.lookup x=some .local:=by first | exact .inl rfl | exact .inr rfl | assumption) :
    MP X Wx (.Assign [.Name x pos'] a pos) (V6 i ma):=PS.of (ps_set hN hi hx he hs hf) fun D σ H ⟨Z,ρ,e,S,st,ev,p⟩ =>
  Z15 st ev p fun ρ1 H1 v x S1 st1 g1 ev1 a1 p1=>p1.next st1 (ev1.set a1)
theorem Y61 (h:ME X Wx a ma):MP X Wx (.Return (some a) pos) (Z2h ma):=PS.of (ps_ret h) fun D σ H ⟨Z,ρ,e,S,st,ev,p⟩ =>
  Z15 st ev p fun ρ1 H1 v x S1 st1 g1 ev1 a1 p1=>p1 ρ1 H1 v st1 (Go.refl _ _) a1
theorem AW.leave {K:PySem.W.Frag} {Z:Wd} {ρ:List Addr} {S:Sto} {H:Hp} {d:Bv.D} {v:V} (st:Sta K Z ρ S H) (h:AW K (Wn Z ρ) H d v) (hz:∀ q,v = .ref q→¬ Z q):AV K Z H d v:=by
  have m:Mv (Wn Z ρ) H Z H:=fun a o h q=>⟨fun z=>h (.inl z),q⟩
  cases h with
  | av h=>exact h.mv m
  | lst h hs=>exact .lst (hz _ rfl) h (hs.mv m)
  | fdc h hs=>exact .dic (hz _ rfl) h (hs.mv m)
theorem AX.leave {K:PySem.W.Frag} {Z:Wd} {ρ:List Addr} {S:Sto} {H:Hp} {x:Bv.X} {d:Bv.D} {v:V} (st:Sta K Z ρ S H) (h:AX K (Wn Z ρ) ρ H x v) (e:x.get S=some d):AV K Z H d v:=by
  cases h with
  | d h =>
    cases e
    exact h.mv fun a o h q=>⟨fun z=>h (.inl z),q⟩
  | r h =>
    refine AW.leave st ((AX.r h).get st e) fun q hq=>?_
    cases hq
    exact fun z=>(st.z _ z).1 (List.mem_of_getElem? h)
theorem W3 (h:ME X Wx a ma):MP X Wx (.Return (some a) pos) (X6 ma):=PS.of (ps_ret h) fun D σ H ⟨Z,ρ,e,S,st,ev,p⟩ =>
  Z15 st ev p fun ρ1 H1 v x S1 st1 g1 ev1 a1 p1=>by
    cases q:x.get S1 with
    | none=>rw [q] at p1; exact p1.elim
    | some d =>
      rw [q] at p1
      exact p1 H1 v (fun _ _ _ z=>z) (a1.leave st1 q)
theorem Y6z {K:PySem.W.Frag} {Z:Wd} {ρ:List Addr} {S:Sto} {H:Hp} (st:Sta K Z ρ S H):∀ {xs:List Bv.X} {vs:List V} {ds:List Bv.D},AXs K (Wn Z ρ) ρ H xs vs→gets S xs=some ds→AVs K Z H ds vs
  | _,_,_, .nil,e=>by cases e; exact .nil
  | x :: r,_,ds, .cons h hs,e=>by
    unfold gets at e
    cases q:x.get S with
    | none=>rw [q] at e; cases e
    | some d =>
      cases q2:gets S r with
      | none=>rw [q,q2] at e; cases e
      | some l =>
        rw [q,q2] at e
        cases e
        exact .cons (h.leave st q) (Y6z st hs q2)
theorem Y8c {x1} {p2:Pos} (h:MA X Wx es ms):MP X Wx (.Return (some (.Tuple es x1 p2)) pos) (Z1d ms):=PS.of (ps_ret (pe_tup h)) fun D σ H ⟨Z,ρ,e,S,st,ev,p⟩ =>
  Z15 (rel:=AXs X.K) st ev p fun ρ1 H1 vs xs S1 st1 g1 ev1 a1 p1=>by
    cases q:gets S1 xs with
    | none=>rw [q] at p1; exact p1.elim
    | some ds =>
      rw [q] at p1
      have p1:Z4t X.K Z ρ1 H1 Wx D (if ds.length ≤ sizeLine then .go (.rp (.tup ds)) S1 else .bad):=p1
      by_cases hl:ds.length ≤ sizeLine
      · rw [if_pos hl] at p1
        have av:=Y6z st1 a1 q
        refine ⟨by rw [← av.length]; exact hl,fun r hr=>p1 _ _ (fun b o _ z=>Z0m hr b o z) (Y4x (fun z hz=>(st1.z z hz).2) hr av)⟩
      · rw [if_neg hl] at p1; exact p1.elim
theorem Z0b (hc:MT X Wx c mt) (h1:MPs X Wx sts m1) (h2:MPs X Wx sts2 m2):MP X Wx (.If c sts sts2 pos) (Z0k mt m1 m2):=PS.of (ps_if hc h1 h2) fun D σ H ⟨Z,ρ,e,S,st,ev,p⟩ =>
  Z15 (rel:=relB) st ev p fun ρ1 H1 v x S1 st1 g1 ev1 a1 p1=>by
    cases (show x=v from a1)
    cases v with
    | true=>exact ⟨Z,ρ1,e,S1,st1,ev1,p1⟩
    | false=>exact ⟨Z,ρ1,e,S1,st1,ev1,p1⟩
def Z44:MS:=fun _ _ => .bad
theorem Z5p:MP X Wx st Z44:=PS.of ps_never fun D σ H ⟨Z,ρ,e,S,st,ev,p⟩=>p
inductive Tg where
  | nm (i:Nat) | tp (ts:List Tg)
mutual
def Tg.asg (S:Sto):Tg→Bv.X→Ev→Option Ev
  | .nm i,x,e=>some (e.set i (some x))
  | .tp ts, .d (.tup ds),e=>Tg.asgs S ts (ds.map .d) e
  | .tp _,_,_=>none
def Tg.asgs (S:Sto):List Tg→List Bv.X→Ev→Option Ev
  | [],[],e=>some e
  | t :: ts,x :: xs,e=>match t.asg S x e with
    | some e1=>Tg.asgs S ts xs e1
    | none=>none
  | [],_ :: _,_=>none
  | _ :: _,[],_=>none
end
mutual
def Tg.slots:Tg→List Nat
  | .nm i=>[i]
  | .tp ts=>Tg.slotss ts
def Tg.slotss:List Tg→List Nat
  | []=>[]
  | t :: ts=>t.slots++Tg.slotss ts
end
def TGt (K:PySem.W.Frag) (t:Tg):TG:=fun v σ H Q=>∃ (Z:Wd) (ρ:List Addr) (e:Ev) (S:Sto) (x:Bv.X) (e':Ev),Sta K Z ρ S H∧EvOk K (Wn Z ρ) ρ H e σ∧AX K (Wn Z ρ) ρ H x v∧t.asg S x e=some e'∧∀ σ',EvOk K (Wn Z ρ) ρ H e' σ'→(∀ vs:List Nat,(∀ i ∈ t.slots,i ∈ vs)→wipe σ' vs=wipe σ vs)→Q σ' H
def W7c (K:PySem.W.Frag) (ts:List Tg):TGs:=fun vs σ H Q=>∃ (Z:Wd) (ρ:List Addr) (e:Ev) (S:Sto) (xs:List Bv.X) (e':Ev),Sta K Z ρ S H∧EvOk K (Wn Z ρ) ρ H e σ∧AXs K (Wn Z ρ) ρ H xs vs∧Tg.asgs S ts xs e=some e'∧∀ σ',EvOk K (Wn Z ρ) ρ H e' σ'→(∀ vs:List Nat,(∀ i ∈ Tg.slotss ts,i ∈ vs)→wipe σ' vs=wipe σ vs)→Q σ' H
theorem X4k {σ:St} {i:Nat} {o:Option V}:∀ {vs:List Nat},i ∈ vs→wipe (σ.set i o) vs=wipe σ vs
  | [],h=>by cases h
  | j :: vs,h=>by
    unfold wipe
    by_cases hi:i ∈ vs
    · rw [X4k hi]
    · have e:i=j:=by
        rcases List.mem_cons.mp h with h | h
        · exact h
        · exact absurd h hi
      subst e
      have go:∀ {vs:List Nat},i ∉ vs→wipe (σ.set i o) vs=(wipe σ vs).set i o:=fun {vs}=>by
        induction vs with
        | nil=>intro _; rfl
        | cons k ks ih =>
          intro hk
          rw [List.mem_cons,not_or] at hk
          unfold wipe
          rw [ih hk.2,List.set_comm _ _ hk.1]
      rw [go hi,List.set_set]
theorem PG.of {X:Cx} {e:Expr} {t t':TG} (h:PG X e t) (w:∀ v σ H Q,t' v σ H Q→t v σ H Q):PG X e t':=⟨fun pins s σ H v u Q I r q=>h.run pins s σ H v u Q I r (w v σ H Q q)⟩
theorem PGs.of {X:Cx} {e:List Expr} {t t':TGs} (h:PGs X e t) (w:∀ v σ H Q,t' v σ H Q→t v σ H Q):PGs X e t':=⟨fun pins s σ H v u Q I r q=>h.run pins s σ H v u Q I r (w v σ H Q q)⟩
theorem W0 {i:Nat} {x:Str} (hN:X.N.Nodup) (hi:X.N[i]?=some x) (hx:Loc X.env.scope x) (hf:X.fn x=true ∨ X.env.scope.names.lookup x=some .local:=by first | exact .inl rfl | exact .inr rfl | assumption):PG X (.Name x pos) (TGt X.K (.nm i)) :=
  PG.of (pg_name hN hi hx hf) fun v σ H Q ⟨Z,ρ,e,S,x,e',st,ev,a,h,k⟩=>by
    have h:some (e.set i (some x))=some e':=by simpa [Tg.asg] using h
    cases h
    exact k _ (ev.set a) fun vs hv=>X4k (hv i (by simp [Tg.slots]))
theorem Z4k:PGs X [] (W7c X.K []):=PGs.of pgs_nil fun v σ H Q ⟨Z,ρ,e,S,xs,e',st,ev,a,h,k⟩=>by
  cases a with
  | nil =>
    have h:some e=some e':=by simpa [Tg.asgs] using h
    cases h
    exact ⟨rfl,k σ ev fun _ _=>rfl⟩
  | cons _ _=>simp [Tg.asgs] at h
theorem W9 {t:Tg} {ts:List Tg} (h1:PG X a (TGt X.K t)) (h2:PGs X es (W7c X.K ts)) (hs:(assignEach (a :: es) X.env).map (·.2)=assign a X.env :: (assignEach es X.env).map (·.2):=by rfl):PGs X (a :: es) (W7c X.K (t :: ts)) :=
  PGs.of (pgs_cons h1 h2 hs) fun v σ H Q ⟨Z,ρ,e,S,xs,e',st,ev,a,h,k⟩=>by
    cases a with
    | nil=>simp [Tg.asgs] at h
    | @cons x v0 xr vr ha hr =>
      cases q:t.asg S x e with
      | none=>simp [Tg.asgs,q] at h
      | some e1 =>
        have h:Tg.asgs S ts xr e1=some e':=by simpa [Tg.asgs,q] using h
        exact ⟨v0,vr,rfl,Z,ρ,e,S,x,e1,st,ev,ha,q,fun σ1 ev1 w1=>⟨Z,ρ,e1,S,xr,e',st,ev1,hr,h,fun σ2 ev2 w2=>k σ2 ev2 fun vs hv=>(w2 vs fun i hi=>hv i (by simp [Tg.slotss,hi])).trans (w1 vs fun i hi=>hv i (by simp [Tg.slotss,hi]))⟩⟩
theorem Y7r {S:Sto}:∀ {ts:List Tg} {xs:List Bv.X} {e e':Ev},Tg.asgs S ts xs e=some e'→xs.length=ts.length
  | [],[],_,_,_=>rfl
  | t :: ts,x :: xs,e,e',h=>by
    cases q:t.asg S x e with
    | none=>simp [Tg.asgs,q] at h
    | some e1 =>
      have h:Tg.asgs S ts xs e1=some e':=by simpa [Tg.asgs,q] using h
      simp [Y7r h]
  | [],_ :: _,_,_,h=>by simp [Tg.asgs] at h
  | _ :: _,[],_,_,h=>by simp [Tg.asgs] at h
theorem Z6t {k:Nat} {ts:List Tg} (hc:X.calm=true) (h:PGs X es (W7c X.K ts)) (hn:(assignEach es X.env).length=ts.length:=by rfl) (hst:(assignEach es X.env).findIdx? (·.1)=none:=by rfl):PG X (.Tuple es k pos) (TGt X.K (.tp ts)) :=
  PG.of (pg_tup hc h hn hst) fun v σ H Q ⟨Z,ρ,e,S,x,e',st,ev,a,h,kk⟩=>by
    cases a with
    | r _=>simp [Tg.asg] at h
    | d h1 =>
      cases h1 with
      | @tup q xs ds t hs =>
        have h:Tg.asgs S ts (ds.map .d) e=some e':=by simpa [Tg.asg] using h
        have hl:=Y7r h
        rw [List.length_map] at hl
        exact ⟨_,xs,rfl,t.sq,by rw [← hs.length]; exact hl,Z,ρ,e,S,_,e',st,ev,hs.axs,h,fun σ2 ev2 w2=>kk σ2 ev2 fun vs hv=>w2 vs fun i hi=>hv i (by simpa [Tg.slots] using hi)⟩
      | _=>simp [Tg.asg] at h
def Z14 (t:Tg) (m:M):MS:=fun e S=>(m e S).so e fun x S1=>match t.asg S1 x e with
  | some e1 => .go (.nx e1) S1
  | none => .bad
theorem Z9e {tg:Expr} {t:Tg} (he:ME X Wx a ma) (hg:PG X tg (TGt X.K t)) (hs:swapsWithSole [tg] a pos.line X.env=pure false:=by rfl) (hw:swappedStores [tg] a X.env=pure none:=by rfl)
    (h1:(assignEach [tg] X.env).map (·.2)=[assign tg X.env]:=by rfl):MP X Wx (.Assign [tg] a pos) (Z14 t ma):=PS.of (ps_asg he hg hs hw h1) fun D σ H ⟨Z,ρ,e,S,st,ev,p⟩ =>
  Z15 st ev p fun ρ1 H1 v x S1 st1 g1 ev1 a1 p1=>by
    cases q:t.asg S1 x e with
    | none=>rw [q] at p1; exact p1.elim
    | some e1 =>
      rw [q] at p1
      exact ⟨Z,ρ1,e,S1,x,e1,st1,ev1,a1,q,fun σ' ev' _=>p1.next st1 ev'⟩
def Z6l (f:Str) (x:Bv.X):List (Str × Bv.X)→List (Str × Bv.X)
  | []=>[(f,x)]
  | (g,y) :: r=>if g=f then (g,x) :: r else (g,y) :: Z6l f x r
theorem X34 {K:PySem.W.Frag} {W:Wd} {ρ:List Addr} {H:Hp} {f:Str} {x:Bv.X} {v:V} (a:AX K W ρ H x v):∀ {fs:List (Str × Bv.X)} {vs:List (Str × V)},Paired (fun (p:Str × Bv.X) (q:Str × V)=>p.1=q.1∧AX K W ρ H p.2 q.2) fs vs →
    Paired (fun (p:Str × Bv.X) (q:Str × V)=>p.1=q.1∧AX K W ρ H p.2 q.2) (Z6l f x fs) (putF f v vs)
  | _,_, .nil => .cons ⟨rfl,a⟩ .nil
  | (g,y) :: r,(g',u) :: r', .cons ⟨h1,h2⟩ hs=>by
    cases (show g=g' from h1)
    unfold Z6l putF
    by_cases h:g=f
    · rw [if_pos h,if_pos h]; exact .cons ⟨rfl,a⟩ hs
    · rw [if_neg h,if_neg h]; exact .cons ⟨rfl,h2⟩ (X34 a hs)
def Z8a (Cs:List Str) (f:Str) (S:Sto) (o y:Bv.X):Option Sto:=match o with
  | .r n=>(match S[n]? with
    | some (.ins C fs)=>if Cs.contains C && decide (fs.length < 1000) then some (S.set n (.ins C (Z6l f y fs))) else none
    | _=>none)
  | .d _=>none
def Z0s (Cs:List Str) (f:Str) (mo m:M):MS:=fun e S=>(m e S).so e fun y S1=>(mo e S1).so e fun o S2=>match Z8a Cs f S2 o y with
  | some S3 => .go (.nx e) S3
  | none => .bad
theorem Z4y {o:Expr} {mo:M} {f:Str} {pos':Pos} (Cs:List Str) (T:Z3y X.K Cs f) (ho:ME X Wx o mo) (ha:ME X Wx a ma) (hs:swapsWith a (some (.Attribute o f pos')) pos.line X.env=pure false:=by rfl):MP X Wx (.Assign [.Attribute o f pos'] a pos) (Z0s Cs f mo ma) :=
  PS.of (ps_fld ho ha hs) fun D σ H ⟨Z,ρ,e,S,st,ev,p⟩ =>
  Z15 st ev p fun ρ1 H1 v y S1 st1 g1 ev1 a1 p1=>Z15 st1 ev1 p1 fun ρ2 H2 u o S2 st2 g2 ev2 a2 p2=>by
    have a1:=a1.mv (g2.mv st1) g2.pre
    cases q:Z8a Cs f S2 o y with
    | none=>rw [q] at p2; exact p2.elim
    | some S3 =>
      rw [q] at p2
      cases a2 with
      | d h=>cases q
      | r h =>
        rename_i n q0
        cases z:S2[n]? with
        | none=>simp [Z8a,z] at q
        | some oo =>
          cases oo with
          | ins C fs =>
            have q1:(if (Cs.contains C && decide (fs.length < 1000))=true then some (S2.set n (.ins C (Z6l f y fs))) else none)=some S3:=by simpa [Z8a,z] using q
            by_cases hc:(Cs.contains C && decide (fs.length < 1000))=true
            · rw [if_pos hc] at q1
              cases q1
              obtain ⟨hc1,hc2⟩:=Bool.and_eq_true_iff.mp hc
              obtain ⟨dx,vs,h2,h3⟩:=st2.ob n _ q0 z h
              obtain ⟨t1,t2⟩:=T C (by simpa using hc1)
              have hl:vs.length < 1000:=by rw [← Paired.length h3]; exact of_decide_eq_true hc2
              have hin:q0 ∈ ρ2:=List.mem_of_getElem? h
              have m:Mv (Wn Z ρ2) H2 (Wn Z ρ2) (upd H2 q0 (.ins (He.ga X.K C) dx (putF f v vs))):=fun b o hb hq=>⟨hb,by rw [upd_ne (fun z=>hb (.inr (by rw [z]; exact hin)))]; exact hq⟩
              obtain ⟨st3,g3⟩:=st2.put (o' := .ins C (Z6l f y fs)) (u := .ins (He.ga X.K C) dx (putF f v vs)) h (fun _ _ q=>by rw [h2] at q; cases q) ⟨dx,_,upd_same,Paired.mapP (X34 a1 h3) fun _ _ w=>⟨w.1,w.2.mv m (List.prefix_refl _)⟩⟩
              exact ⟨_,_,_,vs,rfl,h2,t1,t2,hl,p2 _ _ σ st3 g3 (ev2.mv m (List.prefix_refl _))⟩
            · rw [if_neg hc] at q1; cases q1
          | _=>simp [Z8a,z] at q
end
end Bv
namespace Bv
open PySem PySem.Spec L2
open PyProof.Rows hiding St
variable [HasW]
mutual
def D.beq:D→D→Bool
  | .non, .non=>true
  | .bl a, .bl b=>a == b
  | .int a, .int b=>decide (a=b)
  | .str a, .str b=>decide (a=b)
  | .gl a, .gl b=>decide (a=b)
  | .scr a, .scr b=>decide (a=b)
  | .tup a, .tup b=>D.beqs a b
  | .lst a, .lst b=>D.beqs a b
  | .dic a, .dic b=>D.beqk a b
  | .obj c a, .obj d b=>decide (c=d) && D.beqf a b
  | _,_=>false
def D.beqs:List D→List D→Bool
  | [],[]=>true
  | a :: r,b :: s=>D.beq a b && D.beqs r s
  | _,_=>false
def D.beqk:List (D × D)→List (D × D)→Bool
  | [],[]=>true
  | (k,a) :: r,(l,b) :: s=>(D.beq k l && D.beq a b) && D.beqk r s
  | _,_=>false
def D.beqf:List (Str × D)→List (Str × D)→Bool
  | [],[]=>true
  | (k,a) :: r,(l,b) :: s=>(decide (k=l) && D.beq a b) && D.beqf r s
  | _,_=>false
end
mutual
theorem D.eq_of_beq:∀ (a b:D),D.beq a b=true→a=b
  | .non,b,h=>by cases b <;> first | rfl | simp [D.beq] at h
  | .bl x,b,h=>by cases b <;> first | (simp [D.beq] at h; rw [h]) | simp [D.beq] at h
  | .int x,b,h=>by cases b <;> first | (simp [D.beq] at h; rw [h]) | simp [D.beq] at h
  | .str x,b,h=>by cases b <;> first | (simp [D.beq] at h; rw [h]) | simp [D.beq] at h
  | .gl x,b,h=>by cases b <;> first | (simp [D.beq] at h; rw [h]) | simp [D.beq] at h
  | .scr x,b,h=>by cases b <;> first | (simp [D.beq] at h; rw [h]) | simp [D.beq] at h
  | .tup x,b,h=>by
    cases b with
    | tup y=>simp only [D.beq] at h; rw [D.eqs_of_beqs x y h]
    | _=>simp [D.beq] at h
  | .lst x,b,h=>by
    cases b with
    | lst y=>simp only [D.beq] at h; rw [D.eqs_of_beqs x y h]
    | _=>simp [D.beq] at h
  | .dic x,b,h=>by
    cases b with
    | dic y=>simp only [D.beq] at h; rw [D.eqk_of_beqk x y h]
    | _=>simp [D.beq] at h
  | .obj c x,b,h=>by
    cases b with
    | obj d y=>simp only [D.beq,Bool.and_eq_true,decide_eq_true_eq] at h; rw [h.1,D.eqf_of_beqf x y h.2]
    | _=>simp [D.beq] at h
theorem D.eqs_of_beqs:∀ (a b:List D),D.beqs a b=true→a=b
  | [],b,h=>by cases b <;> first | rfl | simp [D.beqs] at h
  | x :: r,b,h=>by
    cases b with
    | nil=>simp [D.beqs] at h
    | cons y s =>
      simp only [D.beqs,Bool.and_eq_true] at h
      rw [D.eq_of_beq x y h.1,D.eqs_of_beqs r s h.2]
theorem D.eqk_of_beqk:∀ (a b:List (D × D)),D.beqk a b=true→a=b
  | [],b,h=>by cases b <;> first | rfl | simp [D.beqk] at h
  | (k,u) :: r,b,h=>by
    cases b with
    | nil=>simp [D.beqk] at h
    | cons y s =>
      obtain ⟨l,v⟩:=y
      simp only [D.beqk,Bool.and_eq_true] at h
      rw [D.eq_of_beq k l h.1.1,D.eq_of_beq u v h.1.2,D.eqk_of_beqk r s h.2]
theorem D.eqf_of_beqf:∀ (a b:List (Str × D)),D.beqf a b=true→a=b
  | [],b,h=>by cases b <;> first | rfl | simp [D.beqf] at h
  | (k,u) :: r,b,h=>by
    cases b with
    | nil=>simp [D.beqf] at h
    | cons y s =>
      obtain ⟨l,v⟩:=y
      simp only [D.beqf,Bool.and_eq_true,decide_eq_true_eq] at h
      rw [h.1.1,D.eq_of_beq u v h.1.2,D.eqf_of_beqf r s h.2]
end
mutual
theorem D.beq_self:∀ a:D,D.beq a a=true
  | .non=>by simp [D.beq]
  | .bl _=>by simp [D.beq]
  | .int _=>by simp [D.beq]
  | .str _=>by simp [D.beq]
  | .gl _=>by simp [D.beq]
  | .scr _=>by simp [D.beq]
  | .tup a=>by simp [D.beq,D.beqs_self a]
  | .lst a=>by simp [D.beq,D.beqs_self a]
  | .dic a=>by simp [D.beq,D.beqk_self a]
  | .obj c a=>by simp [D.beq,D.beqf_self a]
theorem D.beqs_self:∀ a:List D,D.beqs a a=true
  | []=>by simp [D.beqs]
  | a :: r=>by simp [D.beqs,D.beq_self a,D.beqs_self r]
theorem D.beqk_self:∀ a:List (D × D),D.beqk a a=true
  | []=>by simp [D.beqk]
  | (k,a) :: r=>by simp [D.beqk,D.beq_self k,D.beq_self a,D.beqk_self r]
theorem D.beqf_self:∀ a:List (Str × D),D.beqf a a=true
  | []=>by simp [D.beqf]
  | (k,a) :: r=>by simp [D.beqf,D.beq_self a,D.beqf_self r]
end
instance:DecidableEq D:=fun a b=>if h:D.beq a b=true then .isTrue (D.eq_of_beq a b h) else .isFalse fun e=>h (e ▸ D.beq_self a)
instance:DecidableEq X
  | .d a, .d b=>if h:a=b then .isTrue (h ▸ rfl) else .isFalse fun e=>h (by cases e; rfl)
  | .r a, .r b=>if h:a=b then .isTrue (h ▸ rfl) else .isFalse fun e=>h (by cases e; rfl)
  | .d _, .r _ => .isFalse fun e=>by cases e
  | .r _, .d _ => .isFalse fun e=>by cases e
inductive Lk where
  | free | lst (n:Nat) (xs:List X)
def Lk.ok:Lk→Sto→Bool
  | .free,_=>true
  | .lst n xs,S=>match S[n]? with
    | some (.lst zs)=>decide (zs=xs)
    | _=>false
def Srv (K:PySem.W.Frag) (W:Wd) (ρ:List Addr) (H:Hp) (p:List X × Lk) (J:It):Prop:=∃ (G:Hp→Prop) (Y:Nat→Hp→V→Hp→Prop),Walk J p.1.length G Y ∧
  ∀ (Z2:Wd) (ρ2:List Addr) (S2:Sto) (H2:Hp),Sta K Z2 ρ2 S2 H2→Mv W H (Wn Z2 ρ2) H2→ρ <+: ρ2→(∀ a ob u,H a=some (.frz ob u)→H2 a=some (.frz ob u))→p.2.ok S2=true→G H2 ∧
    ∀ i x H3,Y i H2 x H3→Same H2 H3∧∃ y,p.1[i]?=some y∧AX K (Wn Z2 ρ2) ρ2 H3 y x
abbrev MIt:=MG (List X × Lk)
abbrev MI (X:Cx) (Wx:WX) (tg iter:Expr) (m:MIt):Prop:=PI X tg iter (RG (Srv X.K) X.K Wx m)
theorem PI.of {X:Cx} {tg e:Expr} {t t':TI} (h:PI X tg e t) (w:∀ σ H R,t' σ H R→t σ H R):PI X tg e t':=⟨fun pins s σ H R I q=>h.run pins s σ H R I (w σ H R q)⟩
def RO.ext (r:RO) (e:Ev):RO:=r
def Z8r (t:Tg) (l:Lk) (body:MS):List X→Ev→Sto→RO
  | [],e,S=>if l.ok S then .go (.nx e) S else .bad
  | x :: xs,e,S=>if l.ok S then (match t.asg S x e with
    | some e1=>(match body e1 S with
      | .go (.nx e2) S2=>Z8r t l body xs e2 S2
      | .go (.ct e2) S2=>Z8r t l body xs e2 S2
      | .go (.bk e2) S2 => .go (.nx e2) S2
      | r=>r)
    | none => .bad) else .bad
def Z2o (t:Tg) (mi:MIt) (body:MS):MS:=fun e S=>(mi e S).so e fun p S1=>Z8r t p.2 body p.1 e S1
section
variable {X:Cx} {Wx:WX} {pos:Pos} {tg iter:Expr} {body:List Stmt} {mi:MIt} {mb:MS} {t:Tg}
theorem Y7z {α:Type} {l:List α} {i:Nat} {a:α} (h:l[i]?=some a):l.drop i=a :: l.drop (i + 1):=by
  obtain ⟨h1,h2⟩:=List.getElem?_eq_some_iff.mp h
  rw [← h2]
  exact List.drop_eq_getElem_cons h1
theorem Z46 (hp:PassesOwn (model X.prog X.w) X.A X.env X.xe) (hc:X.calm=true) (hi:MI X Wx tg iter mi) (hg:PG X tg (TGt X.K t)) (hb:MPs X Wx body mb)
    (hs:∀ x,foldedSetIterable iter X.env x=pure x:=by intro _; rfl):MP X Wx (.For tg iter body [] pos) (Z2o t mi mb):=PS.of (ps_for hp hc hi hg hb hs) fun D σ H ⟨Z,ρ,e,S,st,ev,p⟩ =>
  Z15 (rel:=Srv X.K) st ev p fun ρ1 H1 J p0 S1 st1 g1 ev1 srv p1=>by
    obtain ⟨ys,l⟩:=p0
    obtain ⟨G,Y,w,sv⟩:=srv
    have p1:Z4t X.K Z ρ1 H1 Wx D (Z8r t l mb ys e S1):=p1
    have sv:∀ (Z2:Wd) (ρ2:List Addr) (S2:Sto) (H2:Hp),Sta X.K Z2 ρ2 S2 H2→Mv (Wn Z ρ1) H1 (Wn Z2 ρ2) H2→ρ1 <+: ρ2→(∀ a ob u,H1 a=some (.frz ob u)→H2 a=some (.frz ob u))→l.ok S2=true→G H2 ∧
      ∀ i x H3,Y i H2 x H3→Same H2 H3∧∃ y,ys[i]?=some y∧AX X.K (Wn Z2 ρ2) ρ2 H3 y x:=sv
    have w:Walk J ys.length G Y:=w
    let Pv:Nat→L2.St→Hp→Prop:=fun i σ H=>∃ (ρ:List Addr) (e:Ev) (S:Sto),Sta X.K Z ρ S H∧Go ρ1 H1 ρ H∧EvOk X.K (Wn Z ρ) ρ H e σ∧Z4t X.K Z ρ H Wx D (Z8r t l mb (ys.drop i) e S)
    have okOf:∀ {xs:List Bv.X} {e:Ev} {S:Sto} {ρ:List Addr} {H:Hp},Z4t X.K Z ρ H Wx D (Z8r t l mb xs e S)→l.ok S=true:=fun {xs e S ρ H} q=>by
      cases z:l.ok S with
      | true=>rfl
      | false=>cases xs <;> (simp only [Z8r,z] at q; exact q.elim)
    refine for_it w Pv ⟨ρ1,e,S1,st1,Go.refl _ _,ev1,by rw [List.drop_zero]; exact p1⟩ ?_ ?_ ?_
    · rintro i σ2 H2 _ ⟨ρ2,e2,S2,st2,g2,ev2,q2⟩
      exact (sv Z ρ2 S2 H2 st2 (g2.mv st1) g2.pre g2.fz (okOf q2)).1
    · rintro i x σ2 H2 H3 hi ⟨ρ2,e2,S2,st2,g2,ev2,q2⟩ hy
      have hk:=okOf q2
      obtain ⟨k,y,e3,a⟩:=(sv Z ρ2 S2 H2 st2 (g2.mv st1) g2.pre g2.fz hk).2 i x H3 hy
      have st3:=st2.grow k
      have g3:Go ρ2 H2 ρ2 H3:=Go.grow k
      have ev3:=ev2.mv (g3.mv st2) g3.pre
      have q3:=Z4t.shift g3 st3 q2
      rw [Y7z e3] at q3
      simp only [Z8r,hk,if_true] at q3
      cases q4:t.asg S2 y e2 with
      | none=>rw [q4] at q3; exact q3.elim
      | some e4 =>
        rw [q4] at q3
        refine ⟨Z,ρ2,e2,S2,y,e4,st3,ev3,a,q4,fun σ5 ev5 _=>⟨Z,ρ2,e4,S2,st3,ev5,?_⟩⟩
        have q3:Z4t X.K Z ρ2 H3 Wx D (match mb e4 S2 with
          | .go (.nx e2) S2=>Z8r t l mb (ys.drop (i + 1)) e2 S2
          | .go (.ct e2) S2=>Z8r t l mb (ys.drop (i + 1)) e2 S2
          | .go (.bk e2) S2 => .go (.nx e2) S2
          | r=>r):=q3
        cases q5:mb e4 S2 with
        | bad=>rw [q5] at q3; exact q3
        | err C fs e6 S6=>rw [q5] at q3; exact q3
        | go o S6 =>
          rw [q5] at q3
          cases o with
          | nx e6=>exact fun ρ7 H7 σ7 st7 g7 ev7=>⟨ρ7,e6,S6,st7,g2.trans (g3.trans g7),ev7,Z4t.shift g7 st7 q3⟩
          | ct e6=>exact fun ρ7 H7 σ7 st7 g7 ev7=>⟨ρ7,e6,S6,st7,g2.trans (g3.trans g7),ev7,Z4t.shift g7 st7 q3⟩
          | bk e6=>exact q3
          | rt x6=>exact q3
          | rp d6=>exact q3
          | rq d6=>exact q3
    · rintro σ2 H2 ⟨ρ2,e2,S2,st2,g2,ev2,q2⟩
      have hk:=okOf q2
      rw [List.drop_length] at q2
      simp only [Z8r,hk,if_true] at q2
      exact q2.next st2 ev2
def Z6o (mt:MG Bool) (body:MS):Nat→Ev→Sto→RO
  | 0,_,_ => .bad
  | n + 1,e,S=>(mt e S).so e fun b S1=>if b then (match body e S1 with
    | .go (.nx e2) S2=>Z6o mt body n e2 S2
    | .go (.ct e2) S2=>Z6o mt body n e2 S2
    | .go (.bk e2) S2 => .go (.nx e2) S2
    | r=>r) else .go (.nx e) S1
def many:Nat:=1000000
def Z7e (mt:MG Bool) (body:MS):MS:=Z6o mt body many
theorem Y8d {c:Expr} {mt:MG Bool} (hp:PassesOwn (model X.prog X.w) X.A X.env X.xe) (hc:MT X Wx c mt) (hb:MPs X Wx body mb):MP X Wx (.While c body [] pos) (Z7e mt mb):=PS.of (ps_while hp hc hb) fun D σ H ⟨Z,ρ,e,S,st,ev,p⟩=>by
  refine ⟨fun m σ H=>∃ (ρ:List Addr) (e:Ev) (S:Sto),Sta X.K Z ρ S H∧EvOk X.K (Wn Z ρ) ρ H e σ∧Z4t X.K Z ρ H Wx D (Z6o mt mb m e S),⟨many,ρ,e,S,st,ev,p⟩,?_⟩
  rintro m σ H ⟨ρ,e,S,st,ev,p⟩
  cases m with
  | zero=>exact p.elim
  | succ n =>
    refine Z15 (rel:=relB) st ev p fun ρ1 H1 v x S1 st1 g1 ev1 a1 p1=>?_
    cases (show x=v from a1)
    cases v with
    | false=>exact p1.next st1 ev1
    | true =>
      refine ⟨fun σ H=>∃ (ρ:List Addr) (e:Ev) (S:Sto),Sta X.K Z ρ S H∧EvOk X.K (Wn Z ρ) ρ H e σ∧Z4t X.K Z ρ H Wx D (Z6o mt mb n e S),fun σ' H' q=>⟨n,Nat.lt_succ_self n,q⟩,⟨Z,ρ1,e,S1,st1,ev1,?_⟩⟩
      have p1:Z4t X.K Z ρ1 H1 Wx D (match mb e S1 with
        | .go (.nx e2) S2=>Z6o mt mb n e2 S2
        | .go (.ct e2) S2=>Z6o mt mb n e2 S2
        | .go (.bk e2) S2 => .go (.nx e2) S2
        | r=>r):=p1
      cases q5:mb e S1 with
      | bad=>rw [q5] at p1; exact p1
      | err C fs e6 S6=>rw [q5] at p1; exact p1
      | go o S6 =>
        rw [q5] at p1
        cases o with
        | nx e6=>exact fun ρ7 H7 σ7 st7 g7 ev7=>⟨ρ7,e6,S6,st7,ev7,Z4t.shift g7 st7 p1⟩
        | ct e6=>exact fun ρ7 H7 σ7 st7 g7 ev7=>⟨ρ7,e6,S6,st7,ev7,Z4t.shift g7 st7 p1⟩
        | bk e6=>exact p1
        | rt x6=>exact p1
        | rp d6=>exact p1
        | rq d6=>exact p1
def R.ne {α:Type}:R α→R α
  | .ok a S => .ok a S
  | _ => .bad
def Z05 (e:Ev):List Nat→Ev
  | []=>e
  | v :: vs=>(Z05 e vs).set v none
theorem Z60 (e:Ev):∀ vs:List Nat,(Z05 e vs).length=e.length
  | []=>rfl
  | v :: vs=>by unfold Z05; rw [List.length_set,Z60 e vs]
theorem Y7j {e:Ev} {i:Nat} {x:Bv.X}:∀ {vs:List Nat},(Z05 e vs)[i]?=some (some x)→e[i]?=some (some x)∧i ∉ vs
  | [],h=>⟨h,by simp⟩
  | v :: vs,h=>by
    unfold Z05 at h
    by_cases hi:v=i
    · subst hi
      by_cases hv:v < (Z05 e vs).length
      · rw [List.getElem?_set_self hv] at h; cases h
      · rw [List.getElem?_eq_none (by simpa using hv)] at h; cases h
    · rw [List.getElem?_set_ne hi] at h
      obtain ⟨h1,h2⟩:=Y7j h
      exact ⟨h1,by simp only [List.mem_cons,not_or]; exact ⟨fun e=>hi e.symm,h2⟩⟩
theorem X07 {σ:L2.St} {i:Nat} {x:Option V}:∀ {vs:List Nat},i ∉ vs→σ[i]?=some x→(wipe σ vs)[i]?=some x
  | [],_,h=>h
  | v :: vs,hn,h=>by
    rw [List.mem_cons,not_or] at hn
    unfold wipe
    rw [List.getElem?_set_ne (fun z=>hn.1 z.symm)]
    exact X07 hn.2 h
theorem EvOk.wipe {K:PySem.W.Frag} {W:Wd} {ρ:List Addr} {H:Hp} {e:Ev} {σ:L2.St} (h:EvOk K W ρ H e σ) (vs:List Nat):EvOk K W ρ H (Z05 e vs) (wipe σ vs) :=
  ⟨by rw [Z60,wipe_length]; exact h.len,fun i x q=>by
    obtain ⟨h1,h2⟩:=Y7j q
    obtain ⟨v,h3,h4⟩:=h.at_ i x h1
    exact ⟨v,X07 h2 h3,h4⟩⟩
def lcL (t:Tg) (l:Lk) (mt:MG Bool) (me:M) (e:Ev):List Bv.X→Sto→R (List D)
  | [],S=>if l.ok S then .ok [] S else .bad
  | x :: xs,S=>if l.ok S then (match t.asg S x e with
    | some e1=>(mt e1 S).ne.bind fun b S1=>if b then (me e1 S1).ne.bind fun y S2=>(match y with
        | .d d=>(lcL t l mt me e xs S2).bind fun ds S3 => .ok (d :: ds) S3
        | .r _ => .bad) else lcL t l mt me e xs S1
    | none => .bad) else .bad
def Y3a (ds:List D) (S:Sto):R Bv.X:=if ds.length ≤ sizeLine then .ok (.d (.lst ds)) S else .bad
def Z4p (t:Tg) (mi:MIt) (mt:MG Bool) (me:M) (vs:List Nat):M:=fun e S=>(mi e S).bind fun p S1=>(lcL t p.2 mt me (Z05 e vs) p.1 S1).bind Y3a
def Z0n:MG Bool:=fun _ S => .ok true S
abbrev WX0:WX:=fun _ _ _ _=>False
theorem R.bind_assoc {α β γ:Type} (r:R α) (f:α→Sto→R β) (g:β→Sto→R γ):(r.bind f).bind g=r.bind fun a S=>(f a S).bind g:=by cases r <;> rfl
theorem X1w {t:Tg} {l:Lk} {mt:MG Bool} {me:M} {e:Ev}:∀ {xs:List Bv.X} {S:Sto} {C fs S'},lcL t l mt me e xs S ≠ .err C fs S'
  | [],S,C,fs,S',h=>by
    simp only [lcL] at h
    split at h <;> cases h
  | x :: xs,S,C,fs,S',h=>by
    simp only [lcL] at h
    split at h
    · split at h
      · rename_i e1 _
        cases q:(mt e1 S).ne with
        | err _ _ _=>cases q2:mt e1 S <;> rw [q2] at q <;> cases q
        | bad=>rw [q] at h; cases h
        | ok b S1 =>
          rw [q] at h
          have h:(if b then (me e1 S1).ne.bind fun y S2=>(match y with
            | .d d=>(lcL t l mt me e xs S2).bind fun ds S3 => .ok (d :: ds) S3
            | .r _ => .bad) else lcL t l mt me e xs S1) = .err C fs S':=h
          cases b with
          | false=>exact X1w h
          | true =>
            cases q3:(me e1 S1).ne with
            | err _ _ _=>cases q2:me e1 S1 <;> rw [q2] at q3 <;> cases q3
            | bad=>rw [q3] at h; cases h
            | ok y S2 =>
              rw [q3] at h
              cases y with
              | r _=>cases h
              | d d =>
                have h:((lcL t l mt me e xs S2).bind fun ds S3=>R.ok (d :: ds) S3) = .err C fs S':=h
                cases q4:lcL t l mt me e xs S2 with
                | ok _ _=>rw [q4] at h; cases h
                | bad=>rw [q4] at h; cases h
                | err C' fs' S''=>exact X1w q4
      · cases h
    · cases h
theorem Y4w {α β:Type} {rel:Wd→List Addr→Hp→α→β→Prop} {K:PySem.W.Frag} {Z:Wd} {ρ:List Addr} {S:Sto} {e:Ev} {H:Hp} {σ:L2.St} {m:MG α} {R':β→Hp→Prop} (st:Sta K Z ρ S H) (ev:EvOk K (Wn Z ρ) ρ H e σ) {a:α} {S1:Sto} (h:(m e S).ne = .ok a S1)
    (next:∀ ρ1 H1 v,Sta K Z ρ1 S1 H1→Go ρ H ρ1 H1→EvOk K (Wn Z ρ1) ρ1 H1 e σ→rel (Wn Z ρ1) ρ1 H1 a v→R' v H1):RG rel K WX0 m σ H R':=by
  refine ⟨Z,ρ,e,S,st,ev,?_⟩
  cases q:m e S with
  | ok b S2 =>
    rw [q] at h
    cases h
    exact fun ρ1 H1 v s1 g r=>next ρ1 H1 v s1 g (ev.mv (g.mv st) g.pre) r
  | err _ _ _=>rw [q] at h; cases h
  | bad=>rw [q] at h; cases h
end
end Bv
namespace Bv
open PySem PySem.Spec L2
open PyProof.Rows hiding St
variable [HasW]
theorem X08 {σ:L2.St} {v:Nat}:∀ {vs:List Nat},v ∈ vs→(wipe σ vs).set v none=wipe σ vs
  | w :: ws,h=>by
    unfold wipe
    by_cases e:v=w
    · rw [e,List.set_set]
    · have h2:v ∈ ws:=(List.mem_cons.mp h).resolve_left e
      rw [List.set_comm _ _ (fun z=>e z.symm),X08 h2]
theorem X4l {σ:L2.St} {us:List Nat}:∀ {vs:List Nat},(∀ i ∈ vs,i ∈ us)→wipe (wipe σ us) vs=wipe σ us
  | [],_=>rfl
  | v :: vs,h=>by
    show (wipe (wipe σ us) vs).set v none=wipe σ us
    rw [X4l fun i hi=>h i (List.mem_cons_of_mem _ hi)]
    exact X08 (h v List.mem_cons_self)
theorem Y7k {σ:L2.St} (vs:List Nat):wipe (wipe σ vs) vs=wipe σ vs:=X4l fun _ h=>h
abbrev MTs (X:Cx) (Wx:WX) (ifs:List Expr) (m:MG Bool):Prop:=PTs X ifs (RB X.K Wx m)
section
variable {X:Cx} {Wx:WX} {pos:Pos} {tg iter elt c:Expr} {ifs:List Expr} {mi:MIt} {mt:MG Bool} {me:M} {t:Tg} {vs:List Nat}
theorem Z33:MTs X Wx [] Z0n:=⟨fun pins s σ H Q I h=>pts_nil.run pins s σ H Q I (by
  obtain ⟨Z,ρ,e,S,st,ev,p⟩:=h
  exact V7.ret0 p st rfl)⟩
theorem Y2m (h:MT X Wx c mt):MTs X Wx [c] mt:=pts_one h
theorem W2w (hs:∀ i ∈ t.slots,i ∈ vs) {σ:L2.St} {H:Hp} {Q:VK} (h:RE X.K Wx (Z4p t mi mt me vs) σ H Q):tLc (RG (Srv X.K) X.K Wx mi) (TGt X.K t) (RB X.K WX0 mt) (RE X.K WX0 me) vs σ H Q:=by
  obtain ⟨Z,ρ,e,S,st,ev,p⟩:=h
  refine V2 (rel:=Srv X.K) st ev p fun ρ1 H1 J p0 S1 st1 g1 ev1 srv p1=>?_
  obtain ⟨ys,l⟩:=p0
  obtain ⟨G,Y,w,sv⟩:=srv
  intro D0 hD
  have p1:Z91 X.K Z ρ1 H1 Wx σ Q ((lcL t l mt me (Z05 e vs) ys S1).bind Y3a):=p1
  have sv:∀ (Z2:Wd) (ρ2:List Addr) (S2:Sto) (H2:Hp),Sta X.K Z2 ρ2 S2 H2→Mv (Wn Z ρ1) H1 (Wn Z2 ρ2) H2→ρ1 <+: ρ2→(∀ a ob u,H1 a=some (.frz ob u)→H2 a=some (.frz ob u))→l.ok S2=true→G H2 ∧
    ∀ i x H3,Y i H2 x H3→Same H2 H3∧∃ y,ys[i]?=some y∧AX X.K (Wn Z2 ρ2) ρ2 H3 y x:=sv
  have w:Walk J ys.length G Y:=w
  have evw:=ev1.wipe vs
  let Z':Wd:=fun a=>Z a ∨ a=D0
  let Pv:Nat→Hp→Prop:=fun i H=>∃ (ρ:List Addr) (S:Sto) (acc:List D) (xs:List V),Sta X.K Z' ρ S H∧ρ1 <+: ρ∧(∀ a o,a ∉ ρ1→H1 a=some o→a ∉ ρ∧H a=some o)∧(∀ a ob u,H1 a=some (.frz ob u)→H a=some (.frz ob u))∧H D0=some (.lst xs)∧AVs X.K (Wn Z' ρ) H acc xs ∧
    EvOk X.K (Wn Z' ρ) ρ H (Z05 e vs) (wipe σ vs)∧Z91 X.K Z ρ1 H1 Wx σ Q ((lcL t l mt me (Z05 e vs) (ys.drop i) S).bind fun ds S'=>Y3a (acc++ds) S')
  have mvOf:∀ {ρ:List Addr} {S:Sto} {H:Hp},Sta X.K Z' ρ S H→(∀ a o,a ∉ ρ1→H1 a=some o→a ∉ ρ∧H a=some o)→Mv (Wn Z ρ1) H1 (Wn Z' ρ) H:=fun {ρ S H} s k a o hn hq=>by
    have h1:a ∉ ρ1:=fun z=>hn (.inr z)
    obtain ⟨h2,h3⟩:=k a o h1 hq
    refine ⟨fun z=>?_,h3⟩
    rcases z with (z | z) | z
    · exact hn (.inl z)
    · rw [z,hD] at hq; cases hq
    · exact h2 z
  have okOf:∀ {xs:List Bv.X} {S:Sto} {acc:List D},Z91 X.K Z ρ1 H1 Wx σ Q ((lcL t l mt me (Z05 e vs) xs S).bind fun ds S'=>Y3a (acc++ds) S')→l.ok S=true:=fun {xs S acc} q=>by
    cases z:l.ok S with
    | true=>rfl
    | false=>cases xs <;> (simp only [lcL,z] at q; exact q.elim)
  refine lc_it w Pv ?_ ?_ ?_ ?_
  ·
    have k:=Z0m (o := .lst []) hD
    have s0:=st1.grow k
    have hnw:¬ Wn Z ρ1 D0:=st1.fresh hD
    have m0:Mv (Wn Z ρ1) H1 (Wn Z' ρ1) (upd H1 D0 (.lst [])):=fun a o hn hq=>⟨fun z=>by
      rcases z with (z | z) | z
      · exact hn (.inl z)
      · rw [z,hD] at hq; cases hq
      · exact hn (.inr z),k a o hq⟩
    refine ⟨ρ1,S1,[],[],⟨st1.nd,fun a z=>?_,st1.len,fun n o a e1 e2=>AO.mv m0 (List.prefix_refl _) (fun u q=>k _ _ q) (st1.ob n o a e1 e2)⟩,List.prefix_refl _,fun a o hn hq=>⟨hn,k a o hq⟩,fun a _ _ q=>k a _ q,upd_same, .nil,evw.mv m0 (List.prefix_refl _),?_⟩
    · rcases z with z | z
      · exact ⟨(st1.z a z).1,let ⟨o,q⟩:=(st1.z a z).2; ⟨o,k a o q⟩⟩
      · exact ⟨fun z2=>hnw (.inr (by rw [← z]; exact z2)),⟨_,by rw [z]; exact upd_same⟩⟩
    · rw [List.drop_zero]
      exact p1
  · rintro i H2 _ ⟨ρ2,S2,acc,xs,st2,pr2,k2,f2,d2,a2,ev2,q2⟩
    exact (sv Z' ρ2 S2 H2 st2 (mvOf st2 k2) pr2 f2 (okOf q2)).1
  · rintro i x H2 H3 hi ⟨ρ2,S2,acc,xs,st2,pr2,k2,f2,d2,a2,ev2,q2⟩ hy
    have hk:=okOf q2
    obtain ⟨k,y,e3,a⟩:=(sv Z' ρ2 S2 H2 st2 (mvOf st2 k2) pr2 f2 hk).2 i x H3 hy
    have st3:=st2.grow k
    have m23:Mv (Wn Z' ρ2) H2 (Wn Z' ρ2) H3:=Y2s k
    have ev3:=ev2.mv m23 (List.prefix_refl _)
    rw [Y7z e3] at q2
    simp only [lcL,hk,if_true] at q2
    cases q4:t.asg S2 y (Z05 e vs) with
    | none=>rw [q4] at q2; exact q2.elim
    | some e4 =>
      rw [q4] at q2
      refine ⟨Z',ρ2,Z05 e vs,S2,y,e4,st3,ev3,a,q4,fun σ5 ev5 w5=>⟨?_,?_⟩⟩
      · rw [w5 vs hs,Y7k]
      have q2:Z91 X.K Z ρ1 H1 Wx σ Q (((mt e4 S2).ne.bind fun b S1=>if b then (me e4 S1).ne.bind fun y S2=>(match y with
          | .d d=>(lcL t l mt me (Z05 e vs) (ys.drop (i + 1)) S2).bind fun ds S3 => .ok (d :: ds) S3
          | .r _ => .bad) else lcL t l mt me (Z05 e vs) (ys.drop (i + 1)) S1).bind fun ds S'=>Y3a (acc++ds) S'):=q2
      cases q5:(mt e4 S2).ne with
      | err _ _ _=>cases q6:mt e4 S2 <;> rw [q6] at q5 <;> cases q5
      | bad=>rw [q5] at q2; exact q2.elim
      | ok b S6 =>
        rw [q5] at q2
        refine Y4w (rel:=relB) st3 ev5 q5 fun ρ6 H6 v st6 g6 ev6 r6=>?_
        cases (show b=v from r6)
        have pr6:ρ1 <+: ρ6:=pr2.trans g6.pre
        have nD:D0 ∉ ρ2:=(st2.z D0 (.inr rfl)).1
        obtain ⟨nD6,d6⟩:=g6.keep D0 _ nD (k _ _ d2)
        have k6:∀ a o,a ∉ ρ1→H1 a=some o→a ∉ ρ6∧H6 a=some o:=fun a o h1 h2=>by
          obtain ⟨h3,h4⟩:=k2 a o h1 h2
          exact g6.keep a o h3 (k _ _ h4)
        have m36:=g6.mv st3
        have ev6':EvOk X.K (Wn Z' ρ6) ρ6 H6 (Z05 e vs) (wipe σ vs):=ev3.mv m36 g6.pre
        have a6:=(a2.mv m23).mv m36
        cases b with
        | false =>
          rw [if_neg Bool.false_ne_true]
          exact ⟨ρ6,S6,acc,xs,st6,pr6,k6,fun a ob u q=>g6.fz a ob u (k _ _ (f2 a ob u q)),d6,a6,ev6',q2⟩
        | true =>
          rw [if_pos rfl]
          have q2:Z91 X.K Z ρ1 H1 Wx σ Q (((me e4 S6).ne.bind fun y S2=>(match y with
            | .d d=>(lcL t l mt me (Z05 e vs) (ys.drop (i + 1)) S2).bind fun ds S3 => .ok (d :: ds) S3
            | .r _ => .bad)).bind fun ds S'=>Y3a (acc++ds) S'):=q2
          cases q7:(me e4 S6).ne with
          | err _ _ _=>cases q6:me e4 S6 <;> rw [q6] at q7 <;> cases q7
          | bad=>rw [q7] at q2; exact q2.elim
          | ok z S7 =>
            rw [q7] at q2
            refine Y4w (rel:=AX X.K) st6 ev6 q7 fun ρ7 H7 v st7 g7 ev7 r7=>?_
            cases z with
            | r _=>exact q2.elim
            | d d =>
              have q2:Z91 X.K Z ρ1 H1 Wx σ Q (((lcL t l mt me (Z05 e vs) (ys.drop (i + 1)) S7).bind fun ds S3 => .ok (d :: ds) S3).bind fun ds S'=>Y3a (acc++ds) S'):=q2
              rw [R.bind_assoc] at q2
              have nD6':D0 ∉ ρ6:=nD6
              obtain ⟨nD7,d7⟩:=g7.keep D0 _ nD6' d6
              have m67:=g7.mv st6
              have a7:=a6.mv m67
              have k7:∀ a o,a ∉ ρ1→H1 a=some o→a ∉ ρ7∧H7 a=some o:=fun a o h1 h2=>by
                obtain ⟨h3,h4⟩:=k6 a o h1 h2
                exact g7.keep a o h3 h4
              cases r7 with
              | d r7 =>
                have hlen:acc.length < sizeLine:=by
                  cases q8:lcL t l mt me (Z05 e vs) (ys.drop (i + 1)) S7 with
                  | bad=>rw [q8] at q2; exact q2.elim
                  | err C fs S8=>exact absurd q8 X1w
                  | ok ds S8 =>
                    rw [q8] at q2
                    have q2:Z91 X.K Z ρ1 H1 Wx σ Q (if (acc++d :: ds).length ≤ sizeLine then .ok (.d (.lst (acc++d :: ds))) S8 else .bad):=q2
                    by_cases hl:(acc++d :: ds).length ≤ sizeLine
                    · rw [List.length_append,List.length_cons] at hl; omega
                    · rw [if_neg hl] at q2; exact q2.elim
                have wD:Wn Z' ρ7 D0 := .inl (.inr rfl)
                have m8:Mv (Wn Z' ρ7) H7 (Wn Z' ρ7) (upd H7 D0 (.lst (xs++[v]))):=fun a o hn hq=>⟨hn,by rw [upd_ne (fun z=>hn (by rw [z]; exact wD))]; exact hq⟩
                have neD:∀ b,b ∈ ρ7→b ≠ D0:=fun b hb z=>nD7 (by rw [← z]; exact hb)
                refine ⟨xs,d7,by rw [← a7.length]; exact hlen,ρ7,S7,acc++[d],xs++[v],⟨st7.nd,fun a z=>⟨(st7.z a z).1,?_⟩,st7.len,fun n o a e1 e2=>AO.mv m8 (List.prefix_refl _) (fun u q=>by rw [upd_ne (neD a (List.mem_of_getElem? e2))]; exact q) (st7.ob n o a e1 e2)⟩,pr6.trans g7.pre,fun a o h1 h2=>?_,fun a ob u q=>by rw [upd_ne (fun z=>by rw [z,hD] at q; cases q)]; exact g7.fz a ob u (g6.fz a ob u (k _ _ (f2 a ob u q))),upd_same,(a7.append (.cons r7 .nil)).mv m8,(ev6'.mv m67 g7.pre).mv m8 (List.prefix_refl _),?_⟩
                · by_cases hz:a=D0
                  · exact ⟨_,by rw [hz]; exact upd_same⟩
                  · obtain ⟨o,q⟩:=(st7.z a z).2
                    exact ⟨o,by rw [upd_ne hz]; exact q⟩
                · obtain ⟨h3,h4⟩:=k7 a o h1 h2
                  exact ⟨h3,by rw [upd_ne (fun z=>by rw [z,hD] at h2; cases h2)]; exact h4⟩
                · have e9:(fun (ds:List D) (S':Sto)=>Y3a (acc++[d]++ds) S')=fun ds S'=>Y3a (acc++(d :: ds)) S':=by
                    funext ds S'
                    rw [List.append_assoc]; rfl
                  show Z91 X.K Z ρ1 H1 Wx σ Q ((lcL t l mt me (Z05 e vs) (ys.drop (i + 1)) S7).bind fun ds S'=>Y3a (acc++[d]++ds) S')
                  rw [e9]
                  exact q2
  · rintro H2 ⟨ρ2,S2,acc,xs,st2,pr2,k2,f2,d2,a2,ev2,q2⟩
    have hk:=okOf q2
    rw [List.drop_length] at q2
    simp only [lcL,hk,if_true] at q2
    have q2:Z91 X.K Z ρ1 H1 Wx σ Q (Y3a (acc++[]) S2):=q2
    rw [List.append_nil] at q2
    have q2:Z91 X.K Z ρ1 H1 Wx σ Q (if acc.length ≤ sizeLine then .ok (.d (.lst acc)) S2 else .bad):=q2
    by_cases hl:acc.length ≤ sizeLine
    · rw [if_pos hl] at q2
      have m:Mv (Wn Z' ρ2) H2 (Wn Z ρ2) H2:=fun a o hn hq=>⟨fun z=>hn (z.elim (fun z => .inl (.inl z)) .inr),hq⟩
      refine q2 ρ2 H2 (.ref D0) ⟨st2.nd,fun a z=>st2.z a (.inl z),st2.len,fun n o a e1 e2=>AO.mv m (List.prefix_refl _) (fun u q=>q) (st2.ob n o a e1 e2)⟩ ⟨pr2,k2,f2⟩ (.d (.lst (fun z=>?_) d2 (a2.mv m)))
      rcases z with z | z
      · exact st1.fresh hD (.inl z)
      · exact (st2.z D0 (.inr rfl)).1 z
    · rw [if_neg hl] at q2; exact q2.elim
theorem Z7o {scope:Scope} {own:List (Str × Nat)} (hc:X.calm=true) (hN:X.N.Nodup) (hi:MI X Wx tg iter mi) (ok:BlkOk X.N X.env.scope scope own) (hsl:∀ i ∈ t.slots,i ∈ own.map (·.2))
    (hg:∀ (s:Shared) (H:Hp) (C:Addr) (cl:List (Str × Addr)) (fp:List Addr),PG (X.blk s H scope (compEnvC scope cl C X.env) fp) tg (TGt X.K t)) (ht:∀ (s:Shared) (H:Hp) (C:Addr) (cl:List (Str × Addr)) (fp:List Addr),MTs (X.blk s H scope (compEnvC scope cl C X.env) fp) WX0 ifs mt)
    (he:∀ (s:Shared) (H:Hp) (C:Addr) (cl:List (Str × Addr)) (fp:List Addr),ME (X.blk s H scope (compEnvC scope cl C X.env) fp) WX0 elt me) (hs:∀ x,foldedSetIterable iter X.env x=pure x:=by intro _; rfl) :
    ME X Wx (.ListComp elt [⟨tg,iter,ifs,0⟩] scope pos) (Z4p t mi mt me (own.map (·.2))):=PE.of (pe_lc hc hN hi ok hg ht he hs) fun _ _ _ h=>W2w hsl h
theorem W01 {i:Nat} {y:Str} {py spos:Pos} {scope:Scope} {own:List (Str × Nat)} (hc:X.calm=true) (hN:X.N.Nodup) (hy:X.N[i]?=some y) (hyl:X.env.scope.names.lookup y=some .local)
    (hsw:swapsWith (.ListComp elt [⟨tg,iter,ifs,0⟩] scope pos) (some (.Name y py)) spos.line X.env=pure true) (hi:MI X Wx tg iter mi) (ok:BlkOk X.N X.env.scope scope own) (hsl:∀ i ∈ t.slots,i ∈ own.map (·.2))
    (hg:∀ (s:Shared) (H:Hp) (C:Addr) (cl:List (Str × Addr)) (fp:List Addr),PG (X.blk s H scope (compEnvC scope cl C X.env) fp) tg (TGt X.K t)) (ht:∀ (s:Shared) (H:Hp) (C:Addr) (cl:List (Str × Addr)) (fp:List Addr),MTs (X.blk s H scope (compEnvC scope cl C X.env) fp) WX0 ifs mt)
    (he:∀ (s:Shared) (H:Hp) (C:Addr) (cl:List (Str × Addr)) (fp:List Addr),ME (X.blk s H scope (compEnvC scope cl C X.env) fp) WX0 elt me) (hs:∀ x,foldedSetIterable iter X.env x=pure x:=by intro _; rfl) :
    MP X Wx (.Assign [.Name y py] (.ListComp elt [⟨tg,iter,ifs,0⟩] scope pos) spos) (V6 i (Z4p t mi mt me (own.map (·.2)))):=PS.of (ps_setLc hc hN hy hyl hsw hi ok hg ht he hs) fun D σ H ⟨Z,ρ,e,S,st,ev,p⟩=>by
  refine W2w (mt:=mt) (me:=me) (t:=t) hsl ?_
  exact Z15 (rel:=AX X.K) st ev p fun ρ1 H1 v x S1 st1 g1 ev1 a1 p1=>p1.next st1 (ev1.set a1)
end
end Bv
namespace Bv
open PySem PySem.Spec L2
open PyProof.Rows hiding St
variable [HasW]
def V20 (K:PySem.W.Frag) (t:TE):TI:=fun σ H R=>t σ H fun x H1 =>
  (∃ a,x = .ref a∧(((∃ xs,SqL K H1 a xs)∧R (Itl K a) H1) ∨ ((∃ xs,SqT K H1 a xs)∧R (Itt K a) H1))) ∨ ∃ z,x = .str z∧R (Its z) H1
theorem W81 {X:Cx} {tg e:Expr} {t:TE} (he:PE X e t):PI X tg e (V20 X.K t):=⟨fun pins s σ H R I h=>thn (he.run pins s σ H _ I h) fun v s1 ⟨x,H1,I1,r1,q1⟩=>by
  rcases q1 with ⟨a,rfl,⟨⟨xs,hq⟩,q⟩ | ⟨⟨xs,hq⟩,q⟩⟩ | ⟨z,rfl,q⟩
  · cases r1
    obtain ⟨its,_,p,_⟩:=I1.list hq
    exact wpAny_pyIter_list p.isList (pi_one (tk:=s1.toks) I1 _ (turn_list a _) ⟨_,Heap.get?_push_size _ rfl,rfl,rfl⟩ q)
  · cases r1
    obtain ⟨its,_,p,_⟩:=I1.tuple hq
    exact wpAny_pyIter_tuple (show s1.heap.IsTuple a its.toArray from p) (pi_one (tk:=s1.toks) I1 _ (turn_tuple a _) ⟨_,Heap.get?_push_size _ rfl,rfl,rfl⟩ q)
  · obtain ⟨t,rfl⟩:=r1
    cases hz:z.cps.all (· < 128) with
    | false=>exact wpAny_pyIter_wide hz (pi_one (tk:=s1.toks) I1 _ (turn_str _ z t "str_iterator" (.inr rfl)) ⟨_,Heap.get?_push_size _ rfl,rfl,rfl⟩ q)
    | true=>exact wpAny_pyIter_ascii hz (pi_one (tk:=s1.toks) I1 _ (turn_str _ z t "str_ascii_iterator" (.inl rfl)) ⟨_,Heap.get?_push_size _ rfl,rfl,rfl⟩ q)⟩
def Y1u (S:Sto):X→Option (List X × Lk)
  | .d (.lst ds)=>some (ds.map .d, .free)
  | .d (.tup ds)=>some (ds.map .d, .free)
  | .d (.scr ns)=>some (ns.map fun i => .d (.int i), .free)
  | .d (.str z)=>some (z.cps.toList.map fun c => .d (.str ⟨#[c]⟩), .free)
  | .d _=>none
  | .r n=>match S[n]? with
    | some (.lst xs)=>some (xs, .lst n xs)
    | _=>none
def Q9 (m:M):MIt:=fun e S=>(m e S).bind fun x S1=>Z5r (Y1u S1 x) S1
theorem X5t {K:PySem.W.Frag} {a:Addr} (n:Nat):Walk (Itl K a) n (fun H=>∃ xs,xs.length=n∧SqL K H a xs) (fun i H x H'=>H'=H∧∀ xs,SqL K H a xs→xs[i]?=some x) :=
  ⟨fun i _ hi ⟨xs,e,q⟩=>⟨xs,xs[i]'(by omega),q,by simp [show i < xs.length by omega]⟩,fun _ ⟨xs,e,q⟩=>⟨xs,q,by omega⟩,fun _ _ _ _ _ _ y=>y⟩
theorem Same.rfl' {H:Hp}:Same H H:=fun _ _ q=>q
theorem Y48 {α β:Type} {F:α→β→Prop}:∀ {l:List α} {r:List β} {j:Nat} {b:β},Paired F l r→r[j]?=some b→∃ a,l[j]?=some a∧F a b
  | _,_,_,_, .nil,z=>by simp at z
  | _,_,0,_, .cons h _,z=>by simp at z; subst z; exact ⟨_,rfl,h⟩
  | _,_,j + 1,_, .cons _ t,z=>by
    obtain ⟨a,h1,h2⟩:=Y48 (j:=j) t (by simpa using z)
    exact ⟨a,by simpa using h1,h2⟩
theorem AVs.at_ {K:PySem.W.Frag} {W:Wd} {H:Hp} {ds:List D} {vs:List V} {i:Nat} {v:V} (h:AVs K W H ds vs) (e:vs[i]?=some v):∃ d,ds[i]?=some d∧AV K W H d v:=by
  have hl:=h.length
  obtain ⟨h1,h2⟩:=List.getElem?_eq_some_iff.mp e
  have hd:ds[i]?=some (ds[i]'(by omega)):=List.getElem?_eq_getElem _
  obtain ⟨u,h3,h4⟩:=h.get hd
  rw [e] at h3
  cases h3
  exact ⟨_,hd,h4⟩
theorem Y7s {K:PySem.W.Frag} {W:Wd} {H:Hp}:∀ ns:List Int,AVs K W H (ns.map D.int) (ns.map V.int)
  | [] => .nil
  | i :: r => .cons (.int i) (Y7s r)
section
variable {X:Cx} {Wx:WX} {pos p:Pos} {tg e a b:Expr} {es:List Expr} {m:M} {ms:MG (List Bv.X)}
theorem X4c {K:PySem.W.Frag} {W:Wd} {ρ:List Addr} {H:Hp} {a:Addr} {xs:List V} {ds:List D} (r:Lp K W H a xs) (hs:AVs K W H ds xs):Srv K W ρ H (ds.map .d, .free) (Itl K a) :=
  ⟨fun H=>SqL K H a xs,YAt xs,by rw [show (ds.map Bv.X.d,Lk.free).1.length=xs.length by simpa using hs.length]; exact walk_list,fun Z2 ρ2 S2 H2 st m p fz k=>⟨(m.lp r).sl,fun i x H3 y=>by
    obtain ⟨rfl,y⟩:=y
    obtain ⟨d,h1,h2⟩:=(hs.mv m).at_ y
    exact ⟨Same.rfl', .d d,by simp [h1], .d h2⟩⟩⟩
theorem Z1c (h:ME X Wx e m):MI X Wx tg e (Q9 m):=PI.of (W81 h) fun σ H R ⟨Z,ρ,e,S,st,ev,p⟩=>V2 st ev p fun ρ1 H1 v x S1 st1 g1 ev1 a1 p1=>by
  obtain ⟨w,hw,p2⟩:=p1.opt
  have fin:∀ J,Srv X.K (Wn Z ρ1) ρ1 H1 w J→R J H1:=fun J h=>V7.ret0 p2 st1 h
  cases a1 with
  | d a =>
    cases a with
    | lst w r hs=>cases hw; exact .inl ⟨_,rfl, .inl ⟨⟨_, .inl (.inl r)⟩,fin _ (X4c (.inl ⟨w, .inl r⟩) hs)⟩⟩
    | scr r =>
      rename_i q ns
      cases hw
      refine .inl ⟨_,rfl, .inl ⟨⟨_,r.sl⟩,fin _ ?_⟩⟩
      have hs:AVs X.K (Wn Z ρ1) H1 (ns.map D.int) (ns.map V.int):=Y7s ns
      have e1:(ns.map D.int).map Bv.X.d=ns.map fun i=>Bv.X.d (.int i):=by simp
      rw [← e1]
      exact X4c r hs
    | tup t hs =>
      rename_i q us ds
      cases hw
      refine .inl ⟨_,rfl, .inr ⟨⟨_,t.sq⟩,fin _ ⟨_,_,by rw [show (ds.map Bv.X.d,Lk.free).1.length=us.length by simpa using hs.length]; exact walk_tup,fun Z2 ρ2 S2 H2 st m p fz k=>⟨(m.tp t).sq,fun i x H3 y=>?_⟩⟩⟩⟩
      obtain ⟨rfl,y⟩:=y
      obtain ⟨d,h1,h2⟩:=(hs.mv m).at_ y
      exact ⟨Same.rfl', .d d,by simp [h1], .d h2⟩
    | str hz =>
      rename_i z
      cases hw
      refine .inr ⟨_,rfl,fin _ ⟨_,_,by rw [show (z.cps.toList.map fun c=>Bv.X.d (.str ⟨#[c]⟩),Lk.free).1.length=z.cps.size by simp]; exact walk_str,fun Z2 ρ2 S2 H2 st m p fz k=>⟨trivial,fun i x H3 y=>?_⟩⟩⟩
      obtain ⟨rfl,c,hc,rfl⟩:=y
      have hm:c ∈ z.cps.toList:=by
        have:=Array.mem_of_getElem? hc
        simpa using this
      have hc':=Y5o hz hm
      refine ⟨Same.rfl', .d (.str ⟨#[c]⟩),by simp [hc], .d (.str (Y3w fun c' m=>?_))⟩
      have:c'=c:=by simpa using m
      rw [this]; exact hc'
    | _=>cases hw
  | r h =>
    rename_i n a
    have hw:(match S1[n]? with
      | some (.lst xs)=>some (xs,Lk.lst n xs)
      | _=>none)=some w:=hw
    cases q:S1[n]? with
    | none=>rw [q] at hw; cases hw
    | some o =>
      rw [q] at hw
      cases o with
      | lst xs =>
        cases hw
        obtain ⟨vs,h1,h2⟩:=st1.ob n _ _ q h
        refine .inl ⟨_,rfl, .inl ⟨⟨_, .inl (.inl h1)⟩,fin _ ⟨_,_,X5t xs.length,fun Z2 ρ2 S2 H2 st m p fz k=>?_⟩⟩⟩
        have k:(match S2[n]? with
          | some (.lst zs)=>decide (zs=xs)
          | _=>false)=true:=k
        cases q2:S2[n]? with
        | none=>rw [q2] at k; cases k
        | some o2 =>
          rw [q2] at k
          cases o2 with
          | lst zs =>
            have k:zs=xs:=of_decide_eq_true k
            subst k
            have h':ρ2[n]?=some a:=by
              obtain ⟨t,rfl⟩:=p
              rw [List.getElem?_append_left (List.getElem?_eq_some_iff.mp h).1]; exact h
            obtain ⟨us,h3,h4⟩:=st.ob n _ _ q2 h'
            refine ⟨⟨us,(Paired.length h4).symm, .inl (.inl h3)⟩,fun i x H3 y=>?_⟩
            obtain ⟨rfl,y⟩:=y
            obtain ⟨b,h5,h6⟩:=Y48 h4 (y us (.inl (.inl h3)))
            exact ⟨Same.rfl',b,h5,h6⟩
          | _=>cases k
      | _=>cases hw
def Y7d (j:Int):Bool:=decide (-(2 ^ 62) ≤ j∧j < 2 ^ 62)
def upTo (lo:Int) (n:Nat):List Bv.X:=(List.range n).map fun (i:Nat)=>Bv.X.d (.int (lo + i))
def ints?:List Bv.X→Option (List Int)
  | []=>some []
  | x :: r=>match Z8c x,ints? r with
    | some i,some l=>some (i :: l)
    | _,_=>none
theorem Y73 {K:PySem.W.Frag} {W:Wd} {ρ:List Addr} {H:Hp}:∀ {xs:List Bv.X} {vs:List V} {l:List Int},AXs K W ρ H xs vs→ints? xs=some l→vs=l.map V.int
  | _,_,_, .nil,e=>by cases e; rfl
  | x :: r,_,l, .cons h t,e=>by
    unfold ints? at e
    cases q:Z8c x with
    | none=>rw [q] at e; cases e
    | some i =>
      cases q2:ints? r with
      | none=>rw [q,q2] at e; cases e
      | some l2 =>
        rw [q,q2] at e
        cases e
        rw [h.int q,Y73 t q2]; rfl
def W1y (xs:List Bv.X):Option (List Bv.X × Lk):=match ints? xs with
  | some [j]=>if Y7d j then some (upTo 0 j.toNat, .free) else none
  | _=>none
def Y9l (ms:MG (List Bv.X)):MIt:=fun e S=>(ms e S).bind fun xs S1=>Z5r (W1y xs) S1
theorem W6c {K:PySem.W.Frag} {W:Wd} {ρ:List Addr} {H:Hp} {lo:Int} {n:Nat}:Srv K W ρ H (upTo lo n, .free) (Itr lo n) :=
  ⟨fun H=>True,fun i H x H'=>i < n∧H'=H∧x = .int (lo + i),by rw [show (upTo lo n,Lk.free).1.length=n by simp [upTo]]; exact ⟨fun _ _ hi _=>hi,fun _ _=>Nat.le_refl _,fun i _ _ _ hi _ y=>⟨hi,y.1,y.2⟩⟩,fun Z2 ρ2 S2 H2 st m p fz k=>⟨trivial,fun i x H3 y=>by
    obtain ⟨hi,rfl,rfl⟩:=y
    exact ⟨Same.rfl', .d (.int (lo + i)),by simp [upTo,hi], .d (.int _)⟩⟩⟩
theorem Y7e {j:Int} (h:Y7d j=true):-(2 ^ 62) ≤ j∧j < 2 ^ 62:=of_decide_eq_true h
theorem W5h (hg:Gl X "range") (hm:X.mg "range" = none) (ha:MA X Wx [a] ms) (hs:starEach [a] X.env=[(false,eval a X.env)]:=by rfl):MI X Wx tg (.Call (.Name "range" p) [a] [] pos) (Y9l ms):=PI.of (pi_range1 hg hm ha hs) fun σ H R ⟨Z,ρ,e,S,st,ev,p⟩=>V2 st ev p fun ρ1 H1 v xs S1 st1 g1 ev1 a1 p1=>by
  obtain ⟨w,hw,p2⟩:=p1.opt
  unfold W1y at hw
  cases q:ints? xs with
  | none=>rw [q] at hw; cases hw
  | some l =>
    rw [q] at hw
    have e1:=Y73 a1 q
    match l,hw,e1 with
    | [j],hw,e1 =>
      obtain ⟨h1,h2⟩:=Z6s hw
      cases h2
      exact ⟨j,e1,(Y7e h1).1,(Y7e h1).2,V7.ret0 p2 st1 W6c⟩
    | [],hw,_=>cases hw
    | _ :: _ :: _,hw,_=>cases hw
end
end Bv
namespace Xq
open PySem PySem.Spec PyProof.Rows L2
inductive Ch (B:Heap) (H:Hp):Value→Prop
  | nil:Ch B H .none
  | cons {b:Addr} {ob:Obj} {ws:Array Value} {v:Value} (at_:B.get? b=some ob) (da:ob.data = .fields ws) (fr:H b=none) (nx:ws[2]?=some v) (rest:Ch B H v):Ch B H (.ref b)
def Ctx (B:Heap) (H:Hp) (o:Obj):Prop:=∀ ws:Array Value,o.data = .fields ws→∃ v,ws[2]?=some v∧Ch B H v
abbrev Zq (B:Heap) (H:Hp) (cls:Value) (d:Option Addr) (o:Obj):Prop:=Zc cls d o∧Ctx B H o
theorem ctx_steady {B:Heap} {H:Hp}:PXN.Steady1 (Ctx B H):=fun o v h=>by
  obtain ⟨c,d,dt,sl⟩:=o
  cases dt with
  | fields u0 =>
    intro ws e
    cases e
    obtain ⟨v2,e2,q⟩:=h u0 rfl
    exact ⟨v2,HotX.set_other (by decide) e2,q⟩
  | _=>intro ws e; cases e
theorem zq_steady {B:Heap} {H:Hp} {cls:Value} {d:Option Addr}:PXN.Steady1 (Zq B H cls d):=PXN.steady_and (PXN.steady_and PXN.steady_cls PXN.steady_dict) ctx_steady
structure Up (X:Cx) (W:WX) (u:Value) (s':Shared) (a:Addr) (B:Heap) (sI:Shared) (pins:List (Addr × Obj)) (σ:L2.St) (H:Hp) (cls:Value) (d:Option Addr):Prop where
  isA:u = .ref a
  inv:Inv X pins σ H sI
  gr:∀ b o,sI.heap.get? b=some o→b ∉ frs X.stack→B.get? b=some o
  up:sI.heap.UpToSlots s'.heap
  sky:Sky B X.stack a (Zq B H cls d) X.env.locals s'.heap
  na:H a=none
  os:s'.os=sI.os
  ag:AllBare s'.gens
  wish:W cls d σ H
def QX (X:Cx) (W:WX) (u:Value) (s':Shared):Prop:=∃ a B sI pins σ H cls d,Up X W u s' a B sI pins σ H cls d
def Tk (X:Cx) (W:WX):Prop:=∀ u s',QX X W u s'→X.xe u s'
structure Out (P:Program) (w:World) (outer:List Env) (H:Hp) (s:Shared) (E:XK) (u:Value) (s':Shared) (a:Addr) (B:Heap) (H':Hp) (cls:Value) (d:Option Addr):Prop where
  isA:u = .ref a
  fl:HandSPX.FlyingZ B outer a (Zq B H' cls d) s'.heap
  hok:HOk P w H' B
  ub:UB (frs outer) H H' s.heap B s'.heap
  na:H' a=none
  os:s'.os=s.os
  ag:AllBare s'.gens
  wish:E cls d H'
def CQ (P:Program) (w:World):CXT:=fun outer H s E u s'=>∃ a B H' cls d,Out P w outer H s E u s' a B H' cls d
section
variable {X:Cx} {pins:List (Addr × Obj)} {σ:L2.St} {H:Hp} {sI s s':Shared} {B:Heap} {W:WX} {E:XK}
theorem of_call (I:Inv X pins σ H s) (hW:∀ cls d H',E cls d H'→W cls d σ H') {u:Value} (c:CQ X.prog X.w X.stack H s E u s'):QX X W u s':=by
  obtain ⟨a,B,H',cls,d,x⟩:=c
  let keep:Addr→Bool:=fun b=>(B.get? b).isSome || decide (b ∈ frs X.stack)
  obtain ⟨G,inG,outG⟩:=restrict s'.heap keep
  have toG:∀ b o,B.get? b=some o→G.get? b=some o:=fun b o e=>(inG b (by show ((B.get? b).isSome || _)=true; rw [e]; rfl)).trans (x.fl.1 b o e)
  have frG:∀ b,b ∈ frs X.stack→G.get? b=s'.heap.get? b:=fun b hb=>inG b (by show (_ || decide _)=true; rw [decide_eq_true hb,Bool.or_true])
  have un:Un (frs X.stack) [] H H' s.heap G:=by
    refine ⟨fun b o e n hb _=>toG b o (x.ub.keep b o e n hb),fun b o e n hb _=>?_,fun b o e n _=>x.ub.free b o e n,fun b o e _=>?_,x.ub.tups,x.ub.frzs,x.ub.tbls⟩
    · rw [frG b hb]; exact x.ub.slot b o e hb
    · by_cases hb:b ∈ frs X.stack
      · rw [frG b hb]; obtain ⟨sl,q⟩:=x.ub.slot b o e hb; exact ⟨_,q⟩
      · obtain ⟨o',q⟩:=x.ub.there b o e hb; exact ⟨o',toG b o' q⟩
  have fromG:∀ b o,G.get? b=some o→s'.heap.get? b=some o∧keep b=true:=fun b o e=>by
    cases q:keep b with
    | true=>exact ⟨(inG b q).symm.trans e,rfl⟩
    | false=>rw [outG b q] at e; cases e
  refine ⟨a,B,{ s with heap:=G,gens:=s'.gens,drawn:=s'.drawn,toks:=s'.toks },pins,σ,H',cls,d,x.isA,I.call (ch:=[]) un (x.hok.kept toG) x.ag (fun _ z=>nomatch z),fun b o e hb=>?_,Heap.UpToSlots.of_keeps fun b o e=>(fromG b o e).1, .inr (.inl x.fl),x.na,x.os,x.ag,hW _ _ _ x.wish⟩
  obtain ⟨e1,k1⟩:=fromG b o e
  rcases Bool.or_eq_true_iff.mp k1 with k2 | k2
  · obtain ⟨o2,q⟩:=Option.isSome_iff_exists.mp k2
    have z:=x.fl.1 b o2 q
    rw [e1] at z; cases z; exact q
  · exact absurd (of_decide_eq_true k2) hb
theorem QX.leave (hs:X.stack=X.env :: X.outer) (hf:X.env.frame=some X.env.locals) (hex:X.ex=[]) {E₁:Value→Shared→Prop} (hW:∀ cls d σ H,W cls d σ H→E cls d H) {u:Value} (x:QX X W u s') :
    wpAny (model X.prog X.w) X.A (leaving X.env u) (fun _ s''=>CQ X.prog X.w X.outer X.H_0 X.s_0 E u s'') E₁ s':=by
  obtain ⟨a,B,sI,pins,σ,H,cls,d,rfl,I,gr,up,sky,na,os,ag,w⟩:=x
  have frames:X.A.frames=some (X.env :: X.outer):=I.ok.frames.trans (congrArg some hs)
  have hex':∀ b,b ∉ X.ex:=fun b hb=>by rw [hex] at hb; cases hb
  have away:∀ b o,X.s_0.heap.get? b=some o→b ∉ X.fs→b ∉ frs X.stack:=fun b o e hb hm=>by
    cases List.mem_cons.mp (I.stkSub b hm) with
    | inl z =>
      have l1:=Heap.lt_size e
      have l2:=I.ok.above
      rw [z] at l1
      exact Nat.lt_irrefl _ (Nat.lt_of_lt_of_le l1 l2)
    | inr z=>exact hb z
  have ends:∀ h',HandSPX.FlyingZ B X.outer a (Zq B H cls d) h'→s'.heap.UpToSlots h'→CQ X.prog X.w X.outer X.H_0 X.s_0 E (.ref a) { s' with heap:=h' }:=fun h' fl up'=>by
    have ub:UB (frs X.outer) X.H_0 H X.s_0.heap B h':=by
      refine ⟨fun b o e n hb=>gr b o (I.base.keep b o e n hb (hex' b)) (away b o e hb),fun b o e hb=>?_,fun b o e n=>I.base.free b o e n (hex' b),fun b o e hb=>?_,I.base.tups,I.base.frzs,I.base.tbls⟩
      · obtain ⟨_,o0,e0,notF⟩:=I.ok.funs.mem hb
        obtain rfl:o0=o:=by rw [e] at e0; cases e0; rfl
        obtain ⟨l1,q1⟩:=I.base.slot b o0 e (I.ok.frf b hb) hb (hex' b)
        obtain ⟨l2,q2⟩:=up b _ q1 notF
        exact up' b _ q2 notF |>.elim fun l3 q3=>⟨l3,q3⟩
      · obtain ⟨o',q1⟩:=I.base.there b o e (hex' b)
        exact ⟨o',gr b o' q1 (away b o e hb)⟩
    exact ⟨a,B,H,cls,d,rfl,fl,I.inGround gr,ub,na,os.trans I.os,ag,hW _ _ _ _ w⟩
  rw [hs] at sky
  rcases sky with ⟨b1,b2,b3,oe,vs,b4,b5,b6,b7⟩ | fl | hd
  · exact PXN.leaving_firstZ zq_steady frames b3 hf b4 b1 b2 b6 b7 b5 ends
  · exact PXN.leaves_onZ zq_steady frames hf fl ends
  · exact HandSPX.leaves_heldZ hf hd ends
theorem tk_of (hs:X.stack=X.env :: X.outer) (hf:X.env.frame=some X.env.locals) (hex:X.ex=[]) {E₁:Value→Shared→Prop}
    (hx:X.xe=fun e s'=>wpAny (model X.prog X.w) X.A (leaving X.env e) (fun _ s''=>CQ X.prog X.w X.outer X.H_0 X.s_0 E e s'') E₁ s'):Tk X (fun cls d _ H=>E cls d H):=fun u s' x=>by
  rw [hx]
  exact QX.leave (W:=fun cls d _ H=>E cls d H) hs hf hex (fun _ _ _ _ h=>h) x
theorem passAt (tk:Tk X W) (σ:L2.St):PassesAt (CQ X.prog X.w) X σ (WE W σ):=fun _ _ _ e s' I c=>tk e s' (of_call I (fun _ _ _ h=>h) c)
theorem tk0 {X:Cx}:Tk X (fun _ _ _ _=>False):=fun _ _ ⟨_,_,_,_,_,_,_,_,x⟩=>x.wish.elim
end
end Xq
namespace Xq
open PySem PySem.Spec PyProof.Rows L2
inductive Hc (h:Heap) (a:Addr):Value→Prop
  | nil:Hc h a .none
  | cons {b:Addr} {ob:Obj} {ws:Array Value} {v:Value} (ne:b ≠ a) (at_:h.get? b=some ob) (da:ob.data = .fields ws) (nx:ws[2]?=some v) (rest:Hc h a v):Hc h a (.ref b)
inductive Pth (h:Heap):Nat→Addr→Addr→Prop
  | here (b:Addr):Pth h 0 b b
  | step {c b c2:Addr} {oc:Obj} {ws:Array Value} {m:Nat}:h.get? c=some oc→oc.data = .fields ws→ws[2]?=some (.ref c2)→Pth h m c2 b→Pth h (m + 1) c b
section
variable {prog:Program} {w:World} {A:Around} {E:Value→Shared→Prop} {s:Shared}
end
inductive Cp (pn:List (Addr × Obj)):Value→Prop
  | nil:Cp pn .none
  | cons {b:Addr} {ob:Obj} {ws:Array Value} {v:Value} (mem:(b,ob) ∈ pn) (da:ob.data = .fields ws) (nx:ws[2]?=some v) (rest:Cp pn v):Cp pn (.ref b)
section
variable {X:Cx} {pins:List (Addr × Obj)} {σ:L2.St} {H:Hp} {s:Shared}
end
end Xq
namespace Xq
open PySem PySem.Spec PyProof.Rows L2
structure Hot (X:Cx) (a:Addr) (cls:Value):Prop where
  hd:X.A.handled=some (.ref a)
  ch:Cp X.pn (.ref a)
  base:X.base.get? a=none
  obj:∃ (oe:Obj) (vs:Array Value),(a,oe) ∈ X.pn∧oe.cls=cls∧oe.data = .fields vs
section
variable {X:Cx} {W:WX} {a:Addr} {cls0:Value}
end
end Xq
namespace Xq
open PySem PySem.Spec PyProof.Rows L2
section
variable {X:Cx} {pins:List (Addr × Obj)} {σ:L2.St} {H:Hp} {sI s:Shared} {B:Heap} {a:Addr} {Z:Obj→Prop} {i:Nat} {n:Str} {pos:Pos}
end
end Xq
namespace Xq
open PySem PySem.Spec PyProof.Rows L2
section
variable {X:Cx} {x n:Str} {c:Value} {i:Nat} {body suite:List Stmt} {b₀:Stmt} {np pos pos':Pos} {tb:WX→TS} {ts:Addr→Value→Option Addr→TS} {Wout:WX}
end
end Xq
namespace Bv
open PySem PySem.Spec L2
open PyProof.Rows hiding St
variable [HasW]
structure FnG (P:Program) (w:World) (K:PySem.W.Frag) (mg:Str→Option Value) (base:Heap) (k:Nat) (f:Addr) (fd:FuncData) (ps:List Str) (sp:Sp):Prop where
  len:∀ vs H Q E,sp vs H Q E→vs.length=ps.length
  run:∀ (A:Around) (outer:List Env) (s:Shared) (H:Hp) (as:Args) (us:List Value) (vs:List V) (Q:VK) (E:XK),A.guards=some []→Room k A→Env0 P w K mg base A outer s H→BindsTo s fd as (ps.zip us)→Vals vs us→sp vs H Q E →
    codeAny (model P w) A (.call (.ref f) as) (CR (Xq.CQ P w) outer P w H s Q E) s
theorem W4q {A:Around} {C:Addr} {us:List Value} {kw:List (Str × Value)} (h:A.guards=some []):(A.under (.builtin "type.__call__" ⟨.ref C :: us,kw⟩)).guards=some []:=by
  have e:(Code.builtin "type.__call__" ⟨.ref C :: us,kw⟩).guards=[]:=by first | rfl | simp [Code.guards,Code.isGuard,guardIds]
  show pushGuards (Code.builtin "type.__call__" ⟨.ref C :: us,kw⟩).guards A.guards=some []
  rw [e]
  exact h
section
variable {P:Program} {w:World} {K:PySem.W.Frag} {mg:Str→Option Value} {base:Heap} {x qual:Str} {pa:Arguments} {bd:List Stmt} {sc:Scope} {dl:List V} {kw:List (Str × V)} {f:Addr} {fd:FuncData} {N ps:List Str} {k:Nat} {sp:Sp}
abbrev cxB (P:Program) (w:World) (K:PySem.W.Frag) (mg:Str→Option Value) (base:Heap) (N:List Str) (qual:Str) (sc:Scope) (f:Addr) (cdv:Value) (A:Around) (outer:List Env) (s:Shared) (H:Hp) (E:XK):Cx :=
  cxOf (Xq.CQ P w) P w K mg base N qual sc f cdv A outer s H E
theorem FnG.of (F:FunD K x qual pa bd sc dl kw f fd) (S:FnScope N ps sc) (len:∀ vs H Q E,sp vs H Q E→vs.length=ps.length)
    (body:∀ (cdv:Value) (A:Around) (outer:List Env) (s:Shared) (H:Hp) (vs:List V) (Q:VK) (E:XK),A.guards=some []→Room k (A.deeper (envOfC qual sc s.heap.objs.size f cdv))→sp vs H Q E →
      ∃ t,PSs (cxB P w K mg base N qual sc f cdv A outer s H E) bd t∧t { nx:=fun _ H'=>Q .non H',rt:=Q } (L2.start N vs) H):FnG P w K mg base (k + 1) f fd ps sp:=by
  obtain ⟨oc,od,dV,kV,doc,pm,an,cdv,ct,osl,rfl,look,code,_,_⟩:=F.ex
  refine ⟨len,fun A outer s H as us vs Q E gu room e0 binds rel hsp=>?_⟩
  have inK:K.In s.heap:=e0.mod.kin.keeps fun b o q=>(e0.bs b o q).1
  have nolim:s.heap.NoLimit:=e0.mod.nolimit.keeps fun b o q=>(e0.bs b o q).1
  refine codeAny_call_function room.depth (inK _ _ look) rfl S.co S.gen rfl (PySem.W.codeRec_of inK code) (binds _ _ _ _ ?_)
  refine wpAny_newFunctionEnv_cells S.kind (fun ⟨n,v⟩ m=>?_) fun env ee s1 z=>?_
  · rcases S.par n (List.of_mem_zip m).1 with q | q
    · exact .inl q
    · exact .inr ⟨q,PySem.W.cellsFrom_some _ _ _ (.inl q)⟩
  · subst ee
    refine ⟨nolim.keeps z.toInCall.keep,codeAny_func ?_⟩
    obtain ⟨t,run,q⟩:=body cdv A outer s H vs Q E gu (room.deeper _) hsp
    have I:Inv (cxB P w K mg base N qual sc f cdv A outer s H E) [] (L2.start N vs) H s1:=inv_start S room.hd e0 (len _ _ _ _ hsp) rel z
    refine wpAny_mono (run.run [] s1 (L2.start N vs) H _ I q) (fun fl s' y=>?_) fun _ _ y=>y
    cases fl with
    | ret u=>obtain ⟨v,σ',H',J,rv,q⟩:=y; exact ⟨v,H',J.os,J.bare,J.base,J.hok,rv,q⟩
    | next=>obtain ⟨σ',H',J,q⟩:=y; exact ⟨.non,H',J.os,J.bare,J.base,J.hok,rfl,q⟩
    | brk=>obtain ⟨_,_,_,q⟩:=y; exact (show False from q).elim
    | cont=>obtain ⟨_,_,_,q⟩:=y; exact (show False from q).elim
end
theorem X24 {X:Cx} {k:Nat} {f:Addr} {fd:FuncData} {ps:List Str} {sp:Sp} {dvs:List V} {ds:List Value} {E:St→XK} {pins:List (Addr × Obj)} {σ:St} {H:Hp} {s:Shared} {Q:VK} {us:List Value} {vs:List V} (F:FnG X.prog X.w X.K X.mg X.base k f fd ps sp) (gu:X.A.guards=some []) (room:Room k X.A) (hb:Binds X.K fd ps ds) (hd:Vals dvs ds) (hx:PassesAt (Xq.CQ X.prog X.w) X σ (E σ))
    (I:Inv X pins σ H s) (r:Vals vs us) (h:sp (vs++dvs) H Q (E σ)):codeAny (model X.prog X.w) X.A (.call (.ref f) ⟨us,[]⟩) (wants (EP X pins σ Q) X.xe) s:=by
  have rel:=r.append hd
  have many:(us++ds).length=ps.length:=rel.length.symm.trans (F.len _ _ _ _ h)
  refine codeAny_mono (F.run X.A X.stack s H ⟨us,[]⟩ (us++ds) (vs++dvs) Q (E σ) gu room I.env0 (hb s us I.kIn many) rel h) fun y s' z=>?_
  cases y with
  | error e=>exact hx pins H s e s' I z
  | ok fl =>
    cases fl with
    | ret u=>exact I.after z
    | next=>exact z.elim
    | brk=>exact z.elim
    | cont=>exact z.elim
omit [HasW] in
theorem X7e {P:Program} {w:World} {K:PySem.W.Frag} {mg mb:Str→Option Value} {k:Nat} {fa a:Addr} {fd:FuncData} {x:Str} {sp:Sp} {s1:Shared} {vs:List Value} {ns:List Int} (KX:K.In s1.heap) (hm:s1.heap.Ns mainGlobals mg) (hb:s1.heap.Ns builtinsNs mb) (hbb:∀ x:Str,x ≠ "__name__" → mb x=bootBuiltins x)
    (lim:s1.heap.NoLimit) (hg:s1.gens=#[]) (ha:s1.heap.get? a=some { cls := .type "list",data := .seq vs.toArray }) (hi:IntsAre vs ns) (hl:ns.length ≤ sizeLine) (room:Room k callerA) (F:∀ base:Heap,K.In base→base.Ns mainGlobals mg→FnG P w K mg base k fa fd [x] sp)
    (bind:∀ (s:Shared) (u:Value),BindsTo s fd ⟨[u],[]⟩ [(x,u)]) (hsp:∀ H:Hp,Only H→SqL K H a (ns.map V.int)→sp [.ref a] H (fun v _=>v = .bl true) fun _ _ _=>False) :
    codeAny (model P w) callerA (.call (.ref fa) ⟨[.ref a],[]⟩) (fun r s'=>r = .ok (.ret (.bool true))∧OldK s1.heap s'.heap∧s'.os=s1.os∧AllBare s'.gens) s1:=by
  have main:∀ H:Hp,Only H→SqL K H a (ns.map V.int)→HOk P w H s1.heap→(∀ b,H b ≠ none→b=a)→(H a ≠ none→K.lookup a=none) →
      codeAny (model P w) callerA (.call (.ref fa) ⟨[.ref a],[]⟩) (fun r s'=>r = .ok (.ret (.bool true))∧OldK s1.heap s'.heap∧s'.os=s1.os∧AllBare s'.gens) s1:=fun H only seq hok own out=>by
    have isA:∀ {b:Addr},H b=none ∨ b=a:=fun {b}=>Classical.byCases .inl fun z => .inr (own b z)
    have keepN:∀ {b:Addr} {o:Obj},s1.heap.get? b=some o→H b=none→(hidT s1.heap H).get? b=some o:=fun q n=>hidT_get q n
    have dictN:∀ {b:Addr} {o:Obj} {es:Array DictEntry} {ep:Nat},s1.heap.get? b=some o→o.data = .dict es ep→H b=none:=fun {b o es ep} q d=>isA.resolve_right fun z=>by
      rw [z,ha] at q
      cases q
      exact nomatch (show Data.seq vs.toArray _=Data.dict es ep from d)
    have nsN:∀ {b:Addr} {m:Str→Option Value},s1.heap.Ns b m→(hidT s1.heap H).Ns b m:=fun {b m} ⟨o,es,ep,q,d,r⟩=>⟨o,es,ep,keepN q (dictN q d),d,r⟩
    have inB:K.In (hidT s1.heap H):=fun b o q=>keepN (KX b o q) (Classical.byContradiction fun z=>by
      rw [own b z,out (by rw [← own b z]; exact z)] at q
      cases q)
    have modB:Mod K mg (hidT s1.heap H):=⟨inB,nsN hm,⟨mb,nsN hb,hbb⟩,let ⟨mc,h1,h2⟩:=lim; ⟨mc,nsN h1,h2⟩⟩
    have e0:Env0 P w K mg (hidT s1.heap H) callerA [] s1 H:=⟨rfl,modB,fun b o q=>of_hidT q,Nat.le_of_eq (hidT_size _ _),trivial,fun b z=>absurd (show b ∈ ([]:List Addr) from z) (by simp),hok, .of_eq hg⟩
    refine codeAny_mono ((F _ inB (nsN hm)).run callerA [] s1 H ⟨[.ref a],[]⟩ [.ref a] [.ref a] _ _ rfl room e0 (bind s1 (.ref a)) (.cons rfl .nil) (hsp H only seq)) fun y s' z=>?_
    cases y with
    | error e =>
      obtain ⟨_,_,_,_,_,no⟩:=z
      exact no.wish.elim
    | ok fl =>
      cases fl with
      | next=>exact z.elim
      | brk=>exact z.elim
      | cont=>exact z.elim
      | ret u =>
        obtain ⟨v,H',os,bare,un,hok',rv,q⟩:=z
        cases (show v = .bl true from q)
        cases (show u=Value.bool true from rv)
        refine ⟨rfl,OldK.of_keep fun b o e=>?_,os,bare⟩
        rcases only b with n | ⟨ob,xs,n⟩
        · exact un.keep b o e n (fun z=>absurd (show b ∈ ([]:List Addr) from z) (by simp)) (by simp)
        · obtain ⟨e1,_⟩:=hok b _ n
          obtain ⟨e2,_⟩:=hok' b _ (un.frzs b ob _ n)
          rw [e] at e1
          cases e1
          exact e2
  have rv:=vals_ints hi
  cases own:K.lookup a with
  | some o =>
    have e:=KX a o own
    rw [ha] at e
    cases e
    exact main (fun _=>none) (fun _ => .inl rfl) (.inr ⟨_,vs.toArray,_,own,rfl,rfl,rfl,by rw [List.size_toArray,hi.length]; exact hl,by simpa using rv⟩) (fun b u z=>nomatch (show (none:Option HO)=some u from z)) (fun b z=>absurd rfl z) fun z=>absurd rfl z
  | none =>
    let H0:Hp:=fun b=>if b=a then some (.frz { cls := .type "list",data := .seq vs.toArray } (.lst (ns.map V.int))) else none
    have at0:H0 a=some (.frz { cls := .type "list",data := .seq vs.toArray } (.lst (ns.map V.int))):=if_pos rfl
    have off:∀ b,b ≠ a→H0 b=none:=fun b z=>if_neg z
    refine main H0 (fun b=>?_) (.inl (.inr ⟨_,at0⟩)) (fun b u z=>?_) (fun b z=>Classical.byContradiction fun y=>z (off b y)) fun _=>own
    · by_cases y:b=a
      · exact .inr ⟨_,_,by rw [y]; exact at0⟩
      · exact .inl (off b y)
    · by_cases y:b=a
      · rw [y,at0] at z
        cases z
        rw [y]
        exact ⟨ha,by rw [List.length_map]; exact hl,vs,_,rv,ha⟩
      · rw [off b y] at z; cases z
omit [HasW] in
theorem walk_ofG {l:PySem.W.OpenLaw} {n k:Nat} {q:Program} {loose:List Str} {XP:(Str→Option Value)→Heap→Prop} {YP:World→Heap→Prop} {d:DefRec} {x:Str} (hn:l.most=some n) (hn2:n ≤ sizeLine) (hdf:d.params.defaults=[]) (room:Room k callerA)
    (F:∀ (w:World) (mg:Str→Option Value) (fa:Addr) (h:Heap),YP w h→h.Ns mainGlobals mg→mg d.name=some (.ref fa) →
      ∃ (K:PySem.W.Frag) (fd:FuncData) (sp:Sp),K.In h∧(∀ (s:Shared) (u:Value),BindsTo s fd ⟨[u],[]⟩ [(x,u)])∧(∀ (H:Hp) (a:Addr) (ns:List Int),ns.length ≤ n→Only H→SqL K H a (ns.map V.int)→sp [.ref a] H (fun v _=>v = .bl true) fun _ _ _=>False) ∧
        ∀ base:Heap,K.In base→base.Ns mainGlobals mg→FnG l.prog w K mg base k fa fd [x] sp):PySem.W.WalkO q loose XP YP l.row.toRowW d [] (fun f vs=>PySem.call f vs):=by
  refine Att.attach_call hn hdf fun w s0 s1 mg mb fa o pm cd doc a vs ns G Y _ _ _ hmg hobj hints hlen hg=>?_
  obtain ⟨K,fd,sp,KX,bind,hsp,run⟩:=F w mg fa _ Y G.T.g hmg
  exact X7e KX G.T.g G.T.b G.T.builtins G.T.nolimit hg hobj hints (Nat.le_trans hlen hn2) room run bind fun H only seq=>hsp H a ns hlen only seq
end Bv
namespace Bv
open PySem PySem.Spec L2
open PyProof.Rows hiding St
variable [HasW]
def okX (k:Nat):X→Bool
  | .d _=>true
  | .r n=>decide (n < k)
def okO (k:Nat):O→Bool
  | .lst xs=>xs.all (okX k)
  | .dic kvs=>kvs.all fun p=>okX k p.2
  | .fdc kvs=>kvs.all fun p=>okX k p.2
  | .tdc kvs=>kvs.all fun p=>okX k p.2
  | .tfc kvs=>kvs.all fun p=>okX k p.2
  | .ins _ fs=>fs.all fun p=>okX k p.2
def cut (k:Nat) (S:Sto):Option Sto:=if (S.take k).all (okO k) then some (S.take k) else none
def Z3l (k:Nat) (S:Sto):X→Option X
  | .d v=>some (.d v)
  | .r n=>if decide (n < k) then some (.r n) else ((X.r n).get S).map .d
def trunc (k:Nat):R X→R X
  | .ok x S=>match Z3l k S x,cut k S with
    | some y,some T => .ok y T
    | _,_ => .ok x S
  | .err C fs S=>match cut k S with
    | some T => .err C fs T
    | none => .err C fs S
  | .bad => .bad
section
variable {K:PySem.W.Frag} {Z:Wd} {ρ ρ1:List Addr} {S S1 T:Sto} {H H1:Hp}
theorem Y3d {W W':Wd} {x:X} {v:V} (p:ρ <+: ρ1) (m:Mv W H W' H) (h:okX ρ.length x=true) (a:AX K W ρ1 H x v):AX K W' ρ H x v:=by
  cases a with
  | d a=>exact .d (a.mv m)
  | r e =>
    rename_i n a
    have h:n < ρ.length:=of_decide_eq_true h
    obtain ⟨t,rfl⟩:=p
    rw [List.getElem?_append_left h] at e
    exact .r e
theorem Z8h {α β:Type} {F G:α→β→Prop} {f:α→Bool} (hf:∀ a b,f a=true→F a b→G a b):∀ {l:List α} {r:List β},l.all f=true→Paired F l r→Paired G l r
  | _,_,_, .nil => .nil
  | a :: l,_,h, .cons x t=>by
    rw [List.all_cons,Bool.and_eq_true] at h
    exact .cons (hf _ _ h.1 x) (Z8h hf h.2 t)
theorem X1k (s:Sta K Z ρ S H) (s1:Sta K Z ρ1 S1 H1) (g:Go ρ H ρ1 H1) (h:cut ρ.length S1=some T):Sta K Z ρ T H1∧Go ρ H ρ H1∧Mv (Wn Z ρ1) H1 (Wn Z ρ) H1:=by
  obtain ⟨h1,h2⟩:(S1.take ρ.length).all (okO ρ.length)=true∧T=S1.take ρ.length:=by
    unfold cut at h
    split at h
    · rename_i q; cases h; exact ⟨q,rfl⟩
    · cases h
  subst h2
  have m:Mv (Wn Z ρ1) H1 (Wn Z ρ) H1:=fun a o z q=>⟨fun w=>z (w.elim .inl fun w => .inr (g.pre.subset w)),q⟩
  have hl:ρ.length ≤ S1.length:=by rw [s1.len]; exact g.pre.length_le
  refine ⟨⟨s.nd,fun a z=>⟨(s.z a z).1,(s1.z a z).2⟩,by simp; omega,fun n o a e1 e2=>?_⟩,⟨List.prefix_refl _,fun a o z q=>⟨z,(g.keep a o z q).2⟩,g.fz⟩,m⟩
  have hn:n < ρ.length:=(List.getElem?_eq_some_iff.mp e2).1
  have e3:S1[n]?=some o:=by rw [List.getElem?_take_of_lt hn] at e1; exact e1
  have e4:ρ1[n]?=some a:=by
    obtain ⟨t,rfl⟩:=g.pre
    rw [List.getElem?_append_left hn]; exact e2
  have x:=s1.ob n o a e3 e4
  have ho:okO ρ.length o=true:=(List.all_eq_true.mp h1) o (List.mem_of_getElem? e1)
  cases o with
  | lst xs=>obtain ⟨vs,e,q⟩:=x; exact ⟨vs,e,Z8h (fun _ _=>Y3d g.pre m) ho q⟩
  | dic kvs=>obtain ⟨vs,e,q⟩:=x; exact ⟨vs,e,Z8h (f:=fun p=>okX ρ.length p.2) (fun _ _ h z=>⟨z.1,Y3d g.pre m h z.2⟩) (show (kvs.all fun p=>okX ρ.length p.2)=true from ho) q⟩
  | fdc kvs=>obtain ⟨ob,vs,e,q⟩:=x; exact ⟨ob,vs,e,Z8h (f:=fun p=>okX ρ.length p.2) (fun _ _ h z=>⟨z.1,Y3d g.pre m h z.2⟩) (show (kvs.all fun p=>okX ρ.length p.2)=true from ho) q⟩
  | tdc kvs=>obtain ⟨vs,e,q⟩:=x; exact ⟨vs,e,Z8h (f:=fun p=>okX ρ.length p.2) (fun _ _ h z=>⟨z.1,z.2.1.mv m,Y3d g.pre m h z.2.2⟩) (show (kvs.all fun p=>okX ρ.length p.2)=true from ho) q⟩
  | tfc kvs=>obtain ⟨ob,vs,e,q⟩:=x; exact ⟨ob,vs,e,Z8h (f:=fun p=>okX ρ.length p.2) (fun _ _ h z=>⟨z.1,z.2.1.mv m,Y3d g.pre m h z.2.2⟩) (show (kvs.all fun p=>okX ρ.length p.2)=true from ho) q⟩
  | ins C fs=>obtain ⟨dx,vs,e,q⟩:=x; exact ⟨dx,vs,e,Z8h (f:=fun p=>okX ρ.length p.2) (fun _ _ h z=>⟨z.1,Y3d g.pre m h z.2⟩) (show (fs.all fun p=>okX ρ.length p.2)=true from ho) q⟩
theorem W40 {x y:X} {v:V} (s:Sta K Z ρ S H) (s1:Sta K Z ρ1 S1 H1) (g:Go ρ H ρ1 H1) (m:Mv (Wn Z ρ1) H1 (Wn Z ρ) H1) (h:Z3l ρ.length S1 x=some y) (a:AX K (Wn Z ρ1) ρ1 H1 x v):AX K (Wn Z ρ) ρ H1 y v:=by
  cases x with
  | d d=>cases h; exact Y3d g.pre m rfl a
  | r n =>
    have h:(if decide (n < ρ.length) then some (X.r n) else ((X.r n).get S1).map .d)=some y:=h
    by_cases hn:n < ρ.length
    · rw [if_pos (decide_eq_true hn)] at h
      cases h
      exact Y3d g.pre m (decide_eq_true hn) a
    · rw [if_neg (by simpa using hn)] at h
      obtain ⟨d,h1,h2⟩:=Option.map_eq_some_iff.mp h
      subst h2
      have w:=a.get s1 h1
      cases a with
      | r e =>
        rename_i b
        have hb:¬ Wn Z ρ b:=fun z=>by
          rcases z with z | z
          · exact (s1.z b z).1 (List.mem_of_getElem? e)
          · obtain ⟨j,hj,e5⟩:=List.getElem_of_mem z
            obtain ⟨t,rfl⟩:=g.pre
            have e6:(ρ++t)[j]?=some b:=by rw [List.getElem?_append_left hj,List.getElem?_eq_getElem hj,e5]
            have hn2:n < (ρ++t).length:=(List.getElem?_eq_some_iff.mp e).1
            have hj2:j < (ρ++t).length:=(List.getElem?_eq_some_iff.mp e6).1
            have:(ρ++t)[n]=(ρ++t)[j]:=by
              rw [List.getElem?_eq_getElem hn2] at e
              rw [List.getElem?_eq_getElem hj2] at e6
              exact Option.some.inj (e.trans e6.symm)
            have:=(List.getElem_inj s1.nd).mp this
            omega
        cases w with
        | av w=>exact .d (w.mv m)
        | lst h hs=>exact .d (.lst hb h (hs.mv m))
        | fdc h hs=>exact .d (.dic hb h (hs.mv m))
theorem Y68 {Wx:WX} {σ:St} {Q:VK} {r:R X} (s:Sta K Z ρ S H) (h:V7 (AX K) K Z ρ H Wx σ Q (trunc S.length r)):V7 (AX K) K Z ρ H Wx σ Q r:=by
  rw [s.len] at h
  cases r with
  | bad=>exact h
  | ok x T =>
    intro ρ1 H1 v s1 g a
    have h:V7 (AX K) K Z ρ H Wx σ Q (match Z3l ρ.length T x,cut ρ.length T with
      | some y,some T => .ok y T
      | _,_ => .ok x T):=h
    cases q1:Z3l ρ.length T x with
    | none=>rw [q1] at h; exact h ρ1 H1 v s1 g a
    | some y =>
      cases q2:cut ρ.length T with
      | none=>rw [q1,q2] at h; exact h ρ1 H1 v s1 g a
      | some T' =>
        rw [q1,q2] at h
        obtain ⟨s2,g2,m⟩:=X1k s s1 g q2
        exact h ρ H1 v s2 g2 (W40 s s1 g m q1 a)
  | err C fs T =>
    have h:V7 (AX K) K Z ρ H Wx σ Q (match cut ρ.length T with
      | some T => .err C fs T
      | none => .err C fs T):=h
    cases q2:cut ρ.length T with
    | none=>rw [q2] at h; exact h
    | some T' =>
      rw [q2] at h
      intro ρ1 H1 d s1 g z
      obtain ⟨s2,g2,m⟩:=X1k s s1 g q2
      refine h ρ H1 d s2 g2 ?_
      rcases z with z | ⟨dd,vs,z1,z2,z3,z4,z5⟩
      · exact .inl z
      · exact .inr ⟨dd,vs,z1,z2,fun w=>z3 (w.elim .inl fun w => .inr (g.pre.subset w)),z4,z5.mv m⟩
end
abbrev wxE (E:XK):WX:=fun c d _ H=>E c d H
def spE (K:PySem.W.Frag) (n:Nat) (g:List X→Sto→R X):Sp:=fun vs H Q E=>vs.length=n∧∃ (Z:Wd) (ρ:List Addr) (xs:List X) (S:Sto),Sta K Z ρ S H∧AXs K (Wn Z ρ) ρ H xs vs∧V7 (AX K) K Z ρ H (wxE E) [] Q (g xs S)
inductive PR where
  | ok (d:D) | err (C:Str) (fs:List (Str × D)) | bad
def W7a (K:PySem.W.Frag) (W:Wd) (H:Hp) (Q:VK) (E:XK):PR→Prop
  | .ok d=>∀ H' v,Same H H'→AV K W H' d v→Q v H'
  | .err C fs=>∀ H' d,Same H H'→W68 K W H H' fs d→E (.ref (He.ga K C)) d H'
  | .bad=>False
def spP (K:PySem.W.Frag) (n:Nat) (g:List D→PR):Sp:=fun vs H Q E=>vs.length=n∧∃ (W:Wd) (ds:List D),(∀ a,W a→∃ o,H a=some o)∧AVs K W H ds vs∧W7a K W H Q E (g ds)
def ev0 (N:Nat) (xs:List X):Ev:=xs.map some++List.replicate (N - xs.length) none
def Z8m:RO→R X
  | .go (.nx _) S => .ok (.d .non) S
  | .go (.rt x) S => .ok x S
  | .err C fs _ S => .err C fs S
  | _ => .bad
def X2f (N:Nat) (mb:MS) (xs:List X) (S:Sto):R X:=trunc S.length (Z8m (mb (ev0 N xs) S))
def W94 (N:Nat) (mb:MS) (xs:List X) (S:Sto):R X:=Z8m (mb (ev0 N xs) S)
def Z9q:RO→PR
  | .go (.nx _) _ => .ok .non
  | .go (.rp d) _ => .ok d
  | .err C fs _ _ => .err C fs
  | _ => .bad
def Z50 (N:Nat) (mb:MS) (ds:List D):PR:=Z9q (mb (ev0 N (ds.map .d)) [])
theorem X6v {K:PySem.W.Frag} {W:Wd} {ρ:List Addr} {H:Hp} {N:List Str} {xs:List X} {vs:List V} (a:AXs K W ρ H xs vs):EvOk K W ρ H (ev0 N.length xs) (L2.start N vs):=by
  have hl:xs.length=vs.length:=Paired.length a
  refine ⟨by simp [ev0,L2.start,hl],fun i x q=>?_⟩
  unfold ev0 at q
  by_cases hi:i < xs.length
  · rw [List.getElem?_append_left (by simpa using hi),List.getElem?_map] at q
    obtain ⟨y,h1,h2⟩:=Option.map_eq_some_iff.mp q
    cases h2
    have go:∀ {l:List X} {r:List V} {j:Nat},AXs K W ρ H l r→l[j]?=some x→∃ b,r[j]?=some b∧AX K W ρ H x b:=fun {l r j} p=>by
      induction p generalizing j with
      | nil=>intro z; simp at z
      | cons x _ ih =>
        intro z
        cases j with
        | zero=>simp at z; subst z; exact ⟨_,rfl,x⟩
        | succ n=>simp at z; obtain ⟨b,h1,h2⟩:=ih z; exact ⟨b,by simpa using h1,h2⟩
    obtain ⟨v,h3,h4⟩:=go a h1
    refine ⟨v,?_,h4⟩
    unfold L2.start
    rw [List.getElem?_append_left (by rw [List.length_map,← hl]; exact hi),List.getElem?_map,h3]; rfl
  · rw [List.getElem?_append_right (by simpa using hi)] at q
    rw [List.getElem?_replicate] at q
    split at q <;> cases q
section
variable {P:Program} {w:World} {K:PySem.W.Frag} {mg:Str→Option Value} {base:Heap} {x qual:Str} {pa:Arguments} {bd:List Stmt} {sc:Scope} {dl:List V} {kw:List (Str × V)} {f:Addr} {fd:FuncData} {N ps:List Str} {k:Nat} {mb:MS}
theorem fnE (F:FunD K x qual pa bd sc dl kw f fd) (S:FnScope N ps sc)
    (h:∀ (cdv:Value) (A:Around) (outer:List Env) (s:Shared) (H:Hp) (E:XK),A.guards=some []→Room k (A.deeper (envOfC qual sc s.heap.objs.size f cdv))→MPs (cxB P w K mg base N qual sc f cdv A outer s H E) (wxE E) bd mb) :
    FnG P w K mg base (k + 1) f fd ps (spE K ps.length (X2f N.length mb)):=FnG.of F S (fun _ _ _ _ z=>z.1) fun cdv A outer s H vs Q E gu hr ⟨hl,Z,ρ,xs,T,st,a,p⟩=>by
  refine ⟨_,h cdv A outer s H E gu hr,Z,ρ,ev0 N.length xs,T,st,X6v a,?_⟩
  have p:=Y68 st (show V7 (AX K) K Z ρ H (wxE E) [] Q (trunc T.length (Z8m (mb (ev0 N.length xs) T))) from p)
  cases q:mb (ev0 N.length xs) T with
  | bad=>rw [q] at p; exact p
  | err C fs e S'=>rw [q] at p; exact fun ρ' H' σ' d s1 g ev z=>p ρ' H' d s1 g z
  | go o S' =>
    rw [q] at p
    cases o with
    | nx e=>exact fun ρ' H' σ' s1 g ev=>p ρ' H' .non s1 g (.d .non)
    | rt x=>exact p
    | bk e=>exact p.elim
    | ct e=>exact p.elim
    | rp d=>exact p.elim
    | rq d=>exact p.elim
theorem fnR (F:FunD K x qual pa bd sc dl kw f fd) (S:FnScope N ps sc)
    (h:∀ (cdv:Value) (A:Around) (outer:List Env) (s:Shared) (H:Hp) (E:XK),A.guards=some []→Room k (A.deeper (envOfC qual sc s.heap.objs.size f cdv))→MPs (cxB P w K mg base N qual sc f cdv A outer s H E) (wxE E) bd mb) :
    FnG P w K mg base (k + 1) f fd ps (spE K ps.length (W94 N.length mb)):=FnG.of F S (fun _ _ _ _ z=>z.1) fun cdv A outer s H vs Q E gu hr ⟨hl,Z,ρ,xs,T,st,a,p⟩=>by
  refine ⟨_,h cdv A outer s H E gu hr,Z,ρ,ev0 N.length xs,T,st,X6v a,?_⟩
  have p:V7 (AX K) K Z ρ H (wxE E) [] Q (Z8m (mb (ev0 N.length xs) T)):=p
  cases q:mb (ev0 N.length xs) T with
  | bad=>rw [q] at p; exact p
  | err C fs e S'=>rw [q] at p; exact fun ρ' H' σ' d s1 g ev z=>p ρ' H' d s1 g z
  | go o S' =>
    rw [q] at p
    cases o with
    | nx e=>exact fun ρ' H' σ' s1 g ev=>p ρ' H' .non s1 g (.d .non)
    | rt x=>exact p
    | bk e=>exact p.elim
    | ct e=>exact p.elim
    | rp d=>exact p.elim
    | rq d=>exact p.elim
theorem fnP (F:FunD K x qual pa bd sc dl kw f fd) (S:FnScope N ps sc)
    (h:∀ (cdv:Value) (A:Around) (outer:List Env) (s:Shared) (H:Hp) (E:XK),A.guards=some []→Room k (A.deeper (envOfC qual sc s.heap.objs.size f cdv))→MPs (cxB P w K mg base N qual sc f cdv A outer s H E) (wxE E) bd mb) :
    FnG P w K mg base (k + 1) f fd ps (spP K ps.length (Z50 N.length mb)):=FnG.of F S (fun _ _ _ _ z=>z.1) fun cdv A outer s H vs Q E gu hr ⟨hl,W,ds,hw,a,p⟩=>by
  have m0:∀ H,Mv W H (Wn W []) H:=fun H a o z q=>⟨fun y=>y.elim z (by simp),q⟩
  have m1:∀ ρ H,Mv (Wn W ρ) H W H:=fun ρ H a o z q=>⟨fun y=>z (.inl y),q⟩
  have st:Sta K W [] [] H:=⟨List.nodup_nil,fun a z=>⟨by simp,hw a z⟩,rfl,fun n o a e1 _=>by simp at e1⟩
  refine ⟨_,h cdv A outer s H E gu hr,W,[],ev0 N.length (ds.map .d),[],st,X6v (a.mv (m0 H)).axs,?_⟩
  have p:W7a K W H Q E (Z9q (mb (ev0 N.length (ds.map .d)) [])):=p
  cases q:mb (ev0 N.length (ds.map .d)) [] with
  | bad=>rw [q] at p; exact p
  | err C fs e S' =>
    rw [q] at p
    refine fun ρ' H' σ' d s1 g ev z=>p H' d (fun a o q=>(g.keep a o (by simp) q).2) ?_
    rcases z with z | ⟨dd,vs,z1,z2,z3,z4,z5⟩
    · exact .inl z
    · exact .inr ⟨dd,vs,z1,z2,fun w=>z3 (.inl w),z4,z5.mv (m1 _ _)⟩
  | go o S' =>
    rw [q] at p
    cases o with
    | nx e=>exact fun ρ' H' σ' s1 g ev=>p H' .non (fun a o q=>(g.keep a o (by simp) q).2) .non
    | rp d=>exact fun H' v k a=>p H' v (fun b o q=>k b o (by simp) q) a
    | bk e=>exact p.elim
    | ct e=>exact p.elim
    | rt d=>exact p.elim
    | rq d=>exact p.elim
end
end Bv
namespace Bv
open PySem PySem.Spec L2
open PyProof.Rows hiding St
variable [HasW]
mutual
def D.noL:D→Bool
  | .lst _=>false
  | .dic _=>false
  | .scr _=>false
  | .tup ds=>D.noLs ds
  | .obj _ fs=>D.noLf fs
  | _=>true
def D.noLs:List D→Bool
  | []=>true
  | d :: r=>d.noL && D.noLs r
def D.noLf:List (Str × D)→Bool
  | []=>true
  | (_,d) :: r=>d.noL && D.noLf r
end
def X9m (W W':Wd) (H:Hp):Prop:=∀ a,W a→¬ W' a→(∃ xs,H a=some (.lst xs)) ∨ ∃ ob ks,H a=some (.frz ob (.dK ks))
theorem W5t {ds:List D} (h:(D.tup ds).noL=true):D.noLs ds=true:=by simpa [D.noL] using h
theorem W5r {C:Str} {fs:List (Str × D)} (h:(D.obj C fs).noL=true):D.noLf fs=true:=by simpa [D.noL] using h
theorem Y92 {d:D} {r:List D} (h:D.noLs (d :: r)=true):d.noL=true∧D.noLs r=true:=by simpa [D.noLs] using h
theorem Y91 {f:Str} {d:D} {r:List (Str × D)} (h:D.noLf ((f,d) :: r)=true):d.noL=true∧D.noLf r=true:=by simpa [D.noLf] using h
theorem W5q {ds:List D}:¬ (D.lst ds).noL=true:=by simp [D.noL]
theorem W5p {ds:List (D × D)}:¬ (D.dic ds).noL=true:=by simp [D.noL]
theorem W5s {ds:List Int}:¬ (D.scr ds).noL=true:=by simp [D.noL]
section
variable {K:PySem.W.Frag} {W W':Wd} {H:Hp}
mutual
theorem AV.noL (hw:X9m W W' H):∀ {d:D} {v:V},d.noL=true→AV K W' H d v→AV K W H d v
  | _,_,_, .non => .non
  | _,_,_, .bl b => .bl b
  | _,_,_, .int i => .int i
  | _,_,_, .str x => .str x
  | _,_,_, .gl x => .gl x
  | _,_,n, .tup h hs => .tup (by
      rcases h with ⟨h1,h2⟩ | h
      · refine .inl ⟨fun z=>?_,h2⟩
        rcases hw _ z h1 with ⟨xs,q⟩ | ⟨_,ks,q⟩ <;> (rw [h2] at q; cases q)
      · exact .inr h) (AVs.noL hw (W5t n) hs)
  | _,_,n, .obj h1 h2 hs => .obj (fun z=>by
      rcases hw _ z h1 with ⟨xs,q⟩ | ⟨_,ks,q⟩ <;> (rw [h2] at q; cases q)) h2 (AVf.noL hw (W5r n) hs)
  | _,_,n, .lst _ _ _=>(W5q n).elim
  | _,_,n, .dic _ _ _=>(W5p n).elim
  | _,_,n, .scr _=>(W5s n).elim
theorem AVs.noL (hw:X9m W W' H):∀ {ds:List D} {vs:List V},D.noLs ds=true→AVs K W' H ds vs→AVs K W H ds vs
  | _,_,_, .nil => .nil
  | _,_,n, .cons h hs => .cons (AV.noL hw (Y92 n).1 h) (AVs.noL hw (Y92 n).2 hs)
theorem AVf.noL (hw:X9m W W' H):∀ {ds:List (Str × D)} {vs:List (Str × V)},D.noLf ds=true→AVf K W' H ds vs→AVf K W H ds vs
  | _,_,_, .nil => .nil
  | _,_,n, .cons h hs => .cons (AV.noL hw (Y91 n).1 h) (AVf.noL hw (Y91 n).2 hs)
end
end
def X.isD:X→Bool
  | .d _=>true
  | .r _=>false
def callP (g:List D→PR) (xs:List X) (S:Sto):R X:=match gets S xs with
  | some ds=>(match g ds with
    | .ok d=>if xs.all X.isD || d.noL then .ok (.d d) S else .bad
    | .err C fs=>if xs.all X.isD || D.noLf fs then .err C fs S else .bad
    | .bad => .bad)
  | none => .bad
section
variable {K:PySem.W.Frag} {Z:Wd} {ρ:List Addr} {S:Sto} {H:Hp}
def W69 (ρ:List Addr) (xs:List X):Wd:=fun a=>∃ n,X.r n ∈ xs∧ρ[n]?=some a
theorem lend (st:Sta K Z ρ S H) (W':Wd) (hs:∀ a,W' a→Wn Z ρ a):∀ {xs:List X} {vs:List V} {ds:List D},(∀ a,W69 ρ xs a→¬ W' a)→AXs K (Wn Z ρ) ρ H xs vs→gets S xs=some ds→AVs K W' H ds vs
  | _,_,_,_, .nil,e=>by cases e; exact .nil
  | x :: r,_,ds,hb, .cons h t,e=>by
    unfold gets at e
    cases q:x.get S with
    | none=>rw [q] at e; cases e
    | some d =>
      cases q2:gets S r with
      | none=>rw [q,q2] at e; cases e
      | some l =>
        rw [q,q2] at e
        cases e
        have m:Mv (Wn Z ρ) H W' H:=fun a o z y=>⟨fun w=>z (hs a w),y⟩
        refine .cons ?_ (lend st W' hs (fun a ⟨n,h1,h2⟩=>hb a ⟨n,List.mem_cons_of_mem _ h1,h2⟩) t q2)
        have w:=h.get st q
        cases h with
        | d h=>cases q; exact h.mv m
        | r h =>
          have nb:=hb _ ⟨_,List.mem_cons_self,h⟩
          cases w with
          | av w=>exact w.mv m
          | lst h hs=>exact .lst nb h (hs.mv m)
          | fdc h hs=>exact .dic nb h (hs.mv m)
theorem W2x (st:Sta K Z ρ S H):∀ {xs:List X} {ds:List D} {a:Addr},gets S xs=some ds→W69 ρ xs a→(∃ vs,H a=some (.lst vs)) ∨ ∃ ob ks,H a=some (.frz ob (.dK ks))
  | [],_,_,_,⟨n,h,_⟩=>by simp at h
  | x :: r,ds,a,e,⟨n,h,h2⟩=>by
    unfold gets at e
    cases q:x.get S with
    | none=>rw [q] at e; cases e
    | some d =>
      cases q2:gets S r with
      | none=>rw [q,q2] at e; cases e
      | some l =>
        rcases List.mem_cons.mp h with z | z
        · subst z
          have w:=(AX.r (K:=K) (W:=Wn Z ρ) (H:=H) h2).get st q
          have q':(match S[n]? with
            | some (.lst xs)=>(ds? xs).map .lst
            | some (.fdc kvs)=>(ks? kvs).map .dic
            | _=>none)=some d:=q
          cases y:S[n]? with
          | none=>rw [y] at q'; cases q'
          | some o =>
            rw [y] at q'
            have ob:=st.ob n o a y h2
            cases o with
            | lst xs=>obtain ⟨vs,h3,_⟩:=ob; exact .inl ⟨vs,h3⟩
            | fdc xs=>obtain ⟨o,vs,h3,_⟩:=ob; exact .inr ⟨o,vs,h3⟩
            | _=>cases q'
        · exact W2x st q2 ⟨n,z,h2⟩
theorem W0f {xs:List X} (h:xs.all X.isD=true) (a:Addr):¬ W69 ρ xs a:=fun ⟨n,h1,_⟩=>by
  have:=List.all_eq_true.mp h _ h1
  cases this
end
end Bv
namespace Bv
open PySem PySem.Spec L2
open PyProof.Rows hiding St
variable [HasW]
section
variable {K:PySem.W.Frag} {Z:Wd} {ρ:List Addr} {S:Sto} {H:Hp}
theorem W9e {g:List D→PR} {Wx:WX} {σ:St} {Q:VK} {xs:List X} {vs:List V} {n:Nat} (st:Sta K Z ρ S H) (a:AXs K (Wn Z ρ) ρ H xs vs) (hn:vs.length=n) (p:V7 (AX K) K Z ρ H Wx σ Q (callP g xs S)):spP K n g vs H Q (WE Wx σ):=by
  unfold callP at p
  cases q:gets S xs with
  | none=>rw [q] at p; exact p.elim
  | some ds =>
    rw [q] at p
    have p:V7 (AX K) K Z ρ H Wx σ Q (match g ds with
      | .ok d=>if xs.all X.isD || d.noL then .ok (.d d) S else .bad
      | .err C fs=>if xs.all X.isD || D.noLf fs then .err C fs S else .bad
      | .bad => .bad):=p
    let W':Wd:=fun a=>Wn Z ρ a∧¬ W69 ρ xs a
    have only:∀ {H':Hp},Same H H'→X9m (Wn Z ρ) W' H':=fun k a h1 h2=>by
      have:W69 ρ xs a:=Classical.byContradiction fun z=>h2 ⟨h1,z⟩
      rcases W2x st q this with ⟨vs,h⟩ | ⟨o,vs,h⟩
      · exact .inl ⟨vs,k _ _ h⟩
      · exact .inr ⟨o,vs,k _ _ h⟩
    have none':xs.all X.isD=true→∀ {H':Hp},Mv W' H' (Wn Z ρ) H':=fun hd H' a o z y=>⟨fun w=>z ⟨w,W0f hd a⟩,y⟩
    refine ⟨hn,W',ds,fun a h=>st.thereW h.1,lend st W' (fun a h=>h.1) (fun a h z=>z.2 h) a q,?_⟩
    cases q2:g ds with
    | bad=>rw [q2] at p; exact p.elim
    | ok d =>
      rw [q2] at p
      have p:V7 (AX K) K Z ρ H Wx σ Q (if xs.all X.isD || d.noL then .ok (.d d) S else .bad):=p
      split at p
      · rename_i hc
        refine fun H' v k a=>p ρ H' v (st.grow k) (Go.grow k) (.d ?_)
        rcases Bool.or_eq_true_iff.mp hc with hc | hc
        · exact a.mv (none' hc)
        · exact a.noL (only k) hc
      · exact p.elim
    | err C fs =>
      rw [q2] at p
      have p:V7 (AX K) K Z ρ H Wx σ Q (if xs.all X.isD || D.noLf fs then .err C fs S else .bad):=p
      split at p
      · rename_i hc
        refine fun H' d k z=>p ρ H' d (st.grow k) (Go.grow k) ?_
        rcases z with z | ⟨dd,vs,z1,z2,z3,z4,z5⟩
        · exact .inl z
        · refine .inr ⟨dd,vs,z1,z2,fun w=>?_,z4,?_⟩
          · obtain ⟨o,e⟩:=st.thereW w
            rw [z2] at e; cases e
          · rcases Bool.or_eq_true_iff.mp hc with hc | hc
            · exact z5.mv (none' hc)
            · exact z5.noL (only k) hc
      · exact p.elim
theorem W3h {g:List X→Sto→R X} {Wx:WX} {σ:St} {Q:VK} {xs:List X} {vs:List V} {n:Nat} (st:Sta K Z ρ S H) (a:AXs K (Wn Z ρ) ρ H xs vs) (hn:vs.length=n) (p:V7 (AX K) K Z ρ H Wx σ Q (g xs S)):spE K n g vs H Q (WE Wx σ):=by
  refine ⟨hn,Z,ρ,xs,S,st,a,?_⟩
  cases q:g xs S with
  | bad=>rw [q] at p; exact p
  | ok x T=>rw [q] at p; exact p
  | err C fs T=>rw [q] at p; exact p
end
end Bv
namespace Bv
open PySem PySem.Spec L2
open PyProof.Rows hiding St
variable [HasW]
def X9i (X:Cx) (Wx:WX) (fv:Value) (n:Nat) (g:List Bv.X→Sto→R Bv.X):Prop:=∀ (pins:List (Addr × Obj)) (s:Shared) (σ:St) (H:Hp) (Q:VK) (us:List Value) (vs:List V) (Z:Wd) (ρ:List Addr) (xs:List Bv.X) (S:Sto),
  Inv X pins σ H s→Vals vs us→Sta X.K Z ρ S H→AXs X.K (Wn Z ρ) ρ H xs vs→vs.length=n→V7 (AX X.K) X.K Z ρ H Wx σ Q (g xs S)→codeAny (model X.prog X.w) X.A (.call fv ⟨us,[]⟩) (wants (EP X pins σ Q) X.xe) s
structure Dft (K:PySem.W.Frag) (dxs:List D) (dvs:List V) (ds:List Value):Prop where
  av:∀ W H,AVs K W H dxs dvs
  va:Vals dvs ds
theorem X1n {K:PySem.W.Frag}:Dft K [] [] []:=⟨fun _ _ => .nil, .nil⟩
def X5 (dxs:List D) (g:List Bv.X→Sto→R Bv.X):List Bv.X→Sto→R Bv.X:=fun xs S=>g (xs++dxs.map .d) S
section
variable {X:Cx} {Wx:WX} {k n:Nat} {f:Addr} {fd:FuncData} {ps:List Str} {dxs:List D} {dvs:List V} {ds:List Value}
theorem V0b {g:List Bv.X→Sto→R Bv.X} (tk:Xq.Tk X Wx) (gu:X.A.guards=some []) (F:FnG X.prog X.w X.K X.mg X.base k f fd ps (spE X.K n g)) (hr:Room k X.A) (hb:Binds X.K fd ps ds) (hd:Dft X.K dxs dvs ds) (hn:n - dvs.length + dvs.length=n:=by rfl) :
    X9i X Wx (.ref f) (n - dvs.length) (X5 dxs g):=fun pins s σ H Q us vs Z ρ xs S I r st a hl p =>
  X24 F gu hr hb hd.va (Xq.passAt tk σ) I r (W3h st (Paired.append a (hd.av _ _).axs) (by rw [List.length_append,hl,hn]) p)
theorem V0c {g:List D→PR} (tk:Xq.Tk X Wx) (gu:X.A.guards=some []) (F:FnG X.prog X.w X.K X.mg X.base k f fd ps (spP X.K n g)) (hr:Room k X.A) (hb:Binds X.K fd ps ds) (hd:Dft X.K dxs dvs ds) (hn:n - dvs.length + dvs.length=n:=by rfl) :
    X9i X Wx (.ref f) (n - dvs.length) (X5 dxs (callP g)):=fun pins s σ H Q us vs Z ρ xs S I r st a hl p =>
  X24 F gu hr hb hd.va (Xq.passAt tk σ) I r (W9e st (Paired.append a (hd.av _ _).axs) (by rw [List.length_append,hl,hn]) p)
def fs?:List (Str × Bv.X)→Option (List (Str × D))
  | []=>some []
  | (f,x) :: r=>match x,fs? r with
    | .d v,some l=>some ((f,v) :: l)
    | _,_=>none
def frz (S:Sto) (k:Nat):Option D:=match S[k]? with
  | some (.ins C fs)=>(fs? fs).map (.obj C)
  | _=>none
def mkF (k:Nat):R Bv.X→R Bv.X
  | .ok (.d .non) S=>(match frz S k,cut k S with
    | some d,some T => .ok (.d d) T
    | _,_ => .bad)
  | .ok _ _ => .bad
  | .err C fs S=>trunc k (.err C fs S)
  | .bad => .bad
def mkM (k:Nat):R Bv.X→R Bv.X
  | .ok (.d .non) S => .ok (.r k) S
  | .ok _ _ => .bad
  | .err C fs S=>trunc k (.err C fs S)
  | .bad => .bad
def made (C:Str) (mk:Nat→R Bv.X→R Bv.X) (g:List Bv.X→Sto→R Bv.X):List Bv.X→Sto→R Bv.X:=fun xs S=>mk S.length (g (.r S.length :: xs) (S++[.ins C []]))
def Mks (mk:Nat→R Bv.X→R Bv.X):Prop:=∀ {K:PySem.W.Frag} {Z:Wd} {ρ:List Addr} {S:Sto} {H H2:Hp} {Wx:WX} {σ:St} {Q:VK} {x:Addr} {r:R Bv.X},Sta K Z ρ S H→H x=none→(∀ a o,H a=some o→H2 a=some o)→Sta K Z (ρ++[x]) (S++[.ins (Str.empty) []]) H2 ∨ True→x ∉ ρ→Go ρ H (ρ++[x]) H2 →
  V7 (AX K) K Z ρ H Wx σ Q (mk S.length r)→V7 (AX K) K Z (ρ++[x]) H2 Wx σ (fun v H3=>v = .non∧Q (.ref x) H3) r
theorem W2c {K:PySem.W.Frag} {W:Wd} {ρ:List Addr} {H:Hp}:∀ {fs:List (Str × Bv.X)} {vs:List (Str × V)} {l:List (Str × D)},Paired (fun (p:Str × Bv.X) (q:Str × V)=>p.1=q.1∧AX K W ρ H p.2 q.2) fs vs→fs? fs=some l→AVf K W H l vs
  | _,_,_, .nil,e=>by cases e; exact .nil
  | (f,x) :: r,(f',v) :: _,l, .cons h t,e=>by
    cases x with
    | r n=>simp [fs?] at e
    | d d =>
      unfold fs? at e
      cases q:fs? r with
      | none=>rw [q] at e; cases e
      | some l2 =>
        rw [q] at e
        cases e
        obtain ⟨h1,h2⟩:=h
        obtain rfl:f=f':=h1
        cases h2 with
        | d h2=>exact .cons h2 (W2c t q)
theorem X7t {K:PySem.W.Frag} {Z:Wd} {ρ:List Addr} {S:Sto} {H H2:Hp} {Wx:WX} {σ:St} {Q Q':VK} {x:Addr} {C:Str} {fs:List (Str × D)} {T:Sto} (st:Sta K Z ρ S H) (k:∀ a o,H a=some o→H2 a=some o) (g:Go ρ H (ρ++[x]) H2)
    (p:V7 (AX K) K Z ρ H Wx σ Q (trunc S.length (.err C fs T))):V7 (AX K) K Z (ρ++[x]) H2 Wx σ Q' (.err C fs T) :=
  W3o.shift g (fun a o h=>⟨o,k a o h⟩) (show W3o K Z ρ H Wx σ C fs T from Y68 st p)
theorem Y9s:Mks mkF:=fun {K Z ρ S H H2 Wx σ Q x r} st hx k _ hn g p=>by
  cases r with
  | bad=>exact p
  | err C fs T=>exact X7t st k g p
  | ok y T =>
    cases y with
    | r n=>exact p.elim
    | d d =>
      cases d with
      | non =>
        intro ρ1 H1 v s1 g1 a
        have p:V7 (AX K) K Z ρ H Wx σ Q (match frz T S.length,cut S.length T with
          | some d,some T => .ok (.d d) T
          | _,_ => .bad):=p
        cases a with
        | d a =>
          cases a with
          | non =>
            refine ⟨rfl,?_⟩
            cases q1:frz T S.length with
            | none=>rw [q1] at p; exact p.elim
            | some d =>
              cases q2:cut S.length T with
              | none=>rw [q1,q2] at p; exact p.elim
              | some T' =>
                rw [q1,q2] at p
                have gg:=g.trans g1
                have q2':=q2
                rw [st.len] at q2'
                obtain ⟨s2,g2,m⟩:=X1k st s1 gg q2'
                refine p ρ H1 (.ref x) s2 g2 (.d ?_)
                have ex:ρ1[S.length]?=some x:=by
                  obtain ⟨t,rfl⟩:=g1.pre
                  rw [st.len,List.append_assoc,List.getElem?_append_right (Nat.le_refl _),Nat.sub_self]; rfl
                unfold frz at q1
                cases y:T[S.length]? with
                | none=>rw [y] at q1; cases q1
                | some o =>
                  rw [y] at q1
                  have ob:=s1.ob _ o x y ex
                  cases o with
                  | ins C fs =>
                    obtain ⟨l,h1,h2⟩:=Option.map_eq_some_iff.mp (show (fs? fs).map (D.obj C)=some d from q1)
                    subst h2
                    obtain ⟨dx,vs,h3,h4⟩:=ob
                    refine .obj (fun z=>?_) h3 ((W2c h4 h1).mv m)
                    rcases z with z | z
                    · exact (s1.z x z).1 (List.mem_of_getElem? ex)
                    · exact hn z
                  | _=>cases q1
      | _=>exact p.elim
theorem W8i:Mks mkM:=fun {K Z ρ S H H2 Wx σ Q x r} st hx k _ hn g p=>by
  cases r with
  | bad=>exact p
  | err C fs T=>exact X7t st k g p
  | ok y T =>
    cases y with
    | r n=>exact p.elim
    | d d =>
      cases d with
      | non =>
        intro ρ1 H1 v s1 g1 a
        cases a with
        | d a =>
          cases a with
          | non =>
            refine ⟨rfl,?_⟩
            have p:V7 (AX K) K Z ρ H Wx σ Q (.ok (.r S.length) T):=p
            refine p ρ1 H1 (.ref x) s1 (g.trans g1) (.r ?_)
            obtain ⟨t,rfl⟩:=g1.pre
            rw [st.len,List.append_assoc,List.getElem?_append_right (Nat.le_refl _),Nat.sub_self]; rfl
      | _=>exact p.elim
theorem X9v {C:Str} {g:List Bv.X→Sto→R Bv.X} {mk:Nat→R Bv.X→R Bv.X} (hm:Mks mk) (tk:Xq.Tk X Wx) (gu:X.A.guards=some []) (M:Mk X.K (He.ga X.K C) f) (F:FnG X.prog X.w X.K X.mg X.base k f fd ps (spE X.K (n + 1) g)) (hr:Room (k + 1) X.A) (hb:Binds X.K fd ps ds) (hd:Dft X.K dxs dvs ds) (hn:n - dvs.length + dvs.length=n:=by rfl) :
    X9i X Wx (.ref (He.ga X.K C)) (n - dvs.length) (X5 dxs (made C mk g)):=fun pins s σ H Q us vs Z ρ xs S I r st a hl p=>by
  have I2:=Inv.made (C:=He.ga X.K C) I
  have f1:H (s.heap.objs.size + 1)=none:=I.hok.fresh (Nat.le_succ _)
  have f2:H s.heap.objs.size=none:=I.hok.fresh (Nat.le_refl _)
  have fne:s.heap.objs.size ≠ s.heap.objs.size + 1:=Nat.ne_of_lt (Nat.lt_succ_self _)
  have kk:∀ a o,H a=some o→(upd (upd H s.heap.objs.size (.own (s.heap.objs.size + 1))) (s.heap.objs.size + 1) (.ins (He.ga X.K C) s.heap.objs.size [])) a=some o:=fun a o q=>by
    rw [upd_ne (ne_of_none q f1),upd_ne (ne_of_none q f2)]; exact q
  obtain ⟨st2,g2⟩:=st.push (o' := .ins C []) f1 kk ⟨_,[],upd_same, .nil⟩
  have hx:s.heap.objs.size + 1 ∉ ρ:=fun z=>by
    obtain ⟨m,o,e1,e2⟩:=st.mem z
    obtain ⟨u,q⟩:=(st.ob m o _ e1 e2).there
    rw [f1] at q; cases q
  have p2:=hm st f1 kk (.inr trivial) hx g2 (show V7 (AX X.K) X.K Z ρ H Wx σ Q (mk S.length (g (.r S.length :: (xs++dxs.map .d)) (S++[.ins C []]))) from p)
  have a2:AXs X.K (Wn Z (ρ++[s.heap.objs.size + 1])) (ρ++[s.heap.objs.size + 1]) _ (.r S.length :: (xs++dxs.map .d)) (V.ref (s.heap.objs.size + 1) :: (vs++dvs)) :=
    .cons (.r (by rw [st.len,List.getElem?_append_right (Nat.le_refl _),Nat.sub_self]; rfl)) (Paired.append (a.mv (g2.mv st) g2.pre) (hd.av _ _).axs)
  have hq:=W3h st2 a2 (n:=n + 1) (by simp only [List.length_cons,List.length_append,hl]; omega) p2
  have r2:Vals (V.ref (s.heap.objs.size + 1) :: (vs++dvs)) (Value.ref (s.heap.objs.size + 1) :: (us++ds)) := .cons rfl (r.append hd.va)
  have hl2:(Value.ref (s.heap.objs.size + 1) :: us++ds).length=ps.length:=by
    have e:=r2.length
    rw [F.len _ _ _ _ hq] at e
    exact e.symm
  refine (make_map (f:=f) I.kIn M.makes M.init (beq_iff_eq.mp M.fn) (codeAny_mono (F.run _ X.stack _ _ ⟨Value.ref (s.heap.objs.size + 1) :: us,[]⟩ (Value.ref (s.heap.objs.size + 1) :: (us++ds)) _ _ (WE Wx σ) (W4q gu) (hr.make _ us [])
    (I2.env0.make _ us []) (hb _ (Value.ref (s.heap.objs.size + 1) :: us) I2.kIn hl2) r2 hq) fun y s' hq'=>?_))
  cases y with
  | error e=>exact Xq.passAt tk σ pins _ _ e s' I2 hq'
  | ok fl =>
    cases fl with
    | ret u =>
      obtain ⟨v,H',I3,rv,ev,q3⟩:=I2.after hq'
      subst ev
      exact ⟨rv,V.ref (s.heap.objs.size + 1),H',I3,rfl,q3⟩
    | next=>exact False.elim hq'
    | brk=>exact False.elim hq'
    | cont=>exact False.elim hq'
end
end Bv
namespace Bv
open PySem PySem.Spec L2
open PyProof.Rows hiding St
variable [HasW]
def Y0 (g:List Bv.X→Sto→R Bv.X) (ms:MG (List Bv.X)):M:=fun e S=>(ms e S).bind g
def Y9 (n:Nat) (g:List Bv.X→Sto→R Bv.X):List Bv.X→Sto→R Bv.X:=fun xs S=>if decide (xs.length=n) then g xs S else .bad
section
variable {X:Cx} {Wx:WX} {n:Nat} {f:Addr} {x:Str} {p pos apos:Pos} {e o:Expr} {es:List Expr} {ms:MG (List Bv.X)} {mo:M} {g:List Bv.X→Sto→R Bv.X}
theorem ari {rel:R Bv.X→Prop} {xs:List Bv.X} {S:Sto} (hb:¬ rel .bad) (h:rel (Y9 n g xs S)):xs.length=n∧rel (g xs S):=by
  unfold Y9 at h
  by_cases hn:xs.length=n
  · rw [if_pos (decide_eq_true hn)] at h; exact ⟨hn,h⟩
  · rw [if_neg (by simpa using hn)] at h; exact (hb h).elim
theorem X7 (c:X9i X Wx (.ref f) n g) (hg:Gl X x) (hm:X.mg x=some (.ref f)) (hk:PySem.W.keepIn X.K (.ref f)=true) (ha:MA X Wx (e :: es) ms) (hdb:(x == ("__debug__" : Str))=false:=by decide)
    (he:starEach (e :: es) X.env=(false,eval e X.env) :: starEach es X.env:=by rfl) (hpl:(backTo pos (starEach es X.env)).any (·.1)=false:=by rfl):ME X Wx (.Call (.Name x p) (e :: es) [] pos) (Y0 (Y9 n g) ms):=⟨fun pins s σ H Q I ⟨Z,ρ,e,S,st,ev,q⟩=>by
  refine wpAny_Call_Name_kw (ld_glob I hg hm ?_ hdb)
  refine PySem.W.callWith_K (h₀:=X.base) I.ok.mod.kin hk (thn (ha.run pos pins s σ H _ I (V2 (R':=fun vs H1=>∃ (ρ1:List Addr) (xs:List Bv.X) (S1:Sto),Sta X.K Z ρ1 S1 H1∧AXs X.K (Wn Z ρ1) ρ1 H1 xs vs∧V7 (AX X.K) X.K Z ρ1 H1 Wx σ Q (Y9 n g xs S1)) st ev q fun ρ1 H1 v xs S1 s1 g1 ev1 a1 p1=>⟨ρ1,xs,S1,s1,a1,p1⟩))
    fun us s1 ⟨vs,H1,I1,r,ρ1,xs,S1,st1,a1,p1⟩=>⟨I1.kIn,?_⟩) he hpl
  obtain ⟨hl,p2⟩:=ari (rel:=V7 (AX X.K) X.K Z ρ1 H1 Wx σ Q) (fun z=>z) p1
  exact wpAny_call (c pins s1 σ H1 Q us vs Z ρ1 xs S1 I1 r st1 a1 (by rw [← Paired.length a1]; exact hl) p2)⟩
def isOf (C m:Str) (S:Sto):Bv.X→Bool
  | .d (.obj D fs)=>decide (D=C) && (fs.lookup m).isNone
  | .d _=>false
  | .r n=>match S[n]? with
    | some (.ins D fs)=>decide (D=C) && (fs.lookup m).isNone
    | _=>false
theorem W0g {K:PySem.W.Frag} {Z:Wd} {ρ:List Addr} {S:Sto} {H:Hp} {C m:Str} {y:Bv.X} {v:V} (st:Sta K Z ρ S H) (a:AX K (Wn Z ρ) ρ H y v) (h:isOf C m S y=true):∃ a dx fs,v = .ref a∧H a=some (.ins (He.ga K C) dx fs)∧fs.lookup m=none:=by
  cases a with
  | d a =>
    cases a with
    | obj w r hs =>
      obtain ⟨h1,h2⟩:=Bool.and_eq_true_iff.mp h
      obtain rfl:=of_decide_eq_true h1
      exact ⟨_,_,_,rfl,r,hs.none_of (Option.isNone_iff_eq_none.mp h2)⟩
    | _=>cases h
  | r e =>
    rename_i n q
    have h:(match S[n]? with
      | some (.ins D fs)=>decide (D=C) && (fs.lookup m).isNone
      | _=>false)=true:=h
    cases z:S[n]? with
    | none=>rw [z] at h; cases h
    | some ob =>
      rw [z] at h
      cases ob with
      | ins D fs =>
        obtain ⟨h1,h2⟩:=Bool.and_eq_true_iff.mp (show (decide (D=C) && (fs.lookup m).isNone)=true from h)
        obtain rfl:=of_decide_eq_true h1
        obtain ⟨dx,vs,h3,h4⟩:=st.ob n _ q z e
        exact ⟨_,_,_,rfl,h3,Y67 h4 (Option.isNone_iff_eq_none.mp h2)⟩
      | _=>cases h
def Z1n (C m:Str) (g:List Bv.X→Sto→R Bv.X) (mo:M) (ms:MG (List Bv.X)):M:=fun e S=>(mo e S).bind fun x S1=>if isOf C m S1 x then (ms e S1).bind fun xs S2=>g (x :: xs) S2 else .bad
theorem Z4x {C m:Str} {pl:Sem Bool} (cc:X9i X Wx (.ref f) n g) (c:Cls X.K (He.ga X.K C)) (hm:Meth X.K (He.ga X.K C) m f) (ho:ME X Wx o mo) (ha:MA X Wx (e :: es) ms)
    (hst:starEach (e :: es) X.env=(false,eval e X.env) :: starEach es X.env:=by rfl) (hpl:(backTo pos (starEach es X.env)).any (·.1)=false:=by rfl)
    (ht:eval (.Call (.Attribute o m apos) (e :: es) [] pos) X.env=(do
      let ov ← eval o X.env
      standAt apos.atName
      let (f,first) ← holding [ov] (getMethod ov m pl)
      callWith pos f first (backTo pos (starEach (e :: es) X.env)) (backToKw pos (keywordEach [] X.env))):=by rfl):ME X Wx (.Call (.Attribute o m apos) (e :: es) [] pos) (Z1n C m (Y9 n g) mo ms):=⟨fun pins s σ H Q I ⟨Z,ρ,e,S,st,ev,q⟩=>by
  refine PySem.W.methodCall_KW (pl:=pl) (thn (ho.run pins s σ H _ I (V2 (R':=fun v H1=>∃ (ρ1:List Addr) (y:Bv.X) (S1:Sto),Sta X.K Z ρ1 S1 H1∧AX X.K (Wn Z ρ1) ρ1 H1 y v∧EvOk X.K (Wn Z ρ1) ρ1 H1 e σ∧isOf C m S1 y=true∧V7 (AX X.K) X.K Z ρ1 H1 Wx σ Q ((ms e S1).bind fun xs S2=>Y9 n g (y :: xs) S2)) st ev q
    fun ρ1 H1 v y S1 s1 g1 ev1 a1 p1=>by
      have p1:V7 (AX X.K) X.K Z ρ1 H1 Wx σ Q (if isOf C m S1 y then (ms e S1).bind fun xs S2=>Y9 n g (y :: xs) S2 else .bad):=p1
      split at p1
      · rename_i hq; exact ⟨ρ1,y,S1,s1,a1,ev1,hq,p1⟩
      · exact p1.elim)) fun u s1 ⟨x,H1,I1,rx,ρ1,y,S1,st1,a1,ev1,hq,p1⟩=>?_) ht
  obtain ⟨a,dx,fs,rfl,ea,l⟩:=W0g st1 a1 hq
  obtain rfl:u=Value.ref a:=rx
  refine getmeth_ok I1 ea c hm l ?_
  refine PySem.W.callWith_K (first:=[.ref a]) (h₀:=X.base) I.ok.mod.kin hm.kp (thn (ha.run pos pins s1 σ H1 _ I1 (V2 (R':=fun vs H2=>∃ (ρ2:List Addr) (xs:List Bv.X) (S2:Sto),Sta X.K Z ρ2 S2 H2∧AX X.K (Wn Z ρ2) ρ2 H2 y (.ref a)∧AXs X.K (Wn Z ρ2) ρ2 H2 xs vs∧V7 (AX X.K) X.K Z ρ2 H2 Wx σ Q (Y9 n g (y :: xs) S2)) st1 ev1 p1
    fun ρ2 H2 v xs S2 s2 g2 ev2 a2 p2=>⟨ρ2,xs,S2,s2,a1.mv (g2.mv st1) g2.pre,a2,p2⟩)) fun us s2 ⟨vs,H2,I2,r,ρ2,xs,S2,st2,b2,a2,p2⟩=>⟨I2.kIn,?_⟩) hst hpl
  obtain ⟨hl,p3⟩:=ari (rel:=V7 (AX X.K) X.K Z ρ2 H2 Wx σ Q) (fun z=>z) p2
  have aa:AXs X.K (Wn Z ρ2) ρ2 H2 (y :: xs) (V.ref a :: vs) := .cons b2 a2
  exact wpAny_call (cc pins s2 σ H2 Q (.ref a :: us) (.ref a :: vs) Z ρ2 (y :: xs) S2 I2 (.cons rfl r) st2 aa (by rw [← Paired.length aa]; exact hl) p3)⟩
def X5v (K:PySem.W.Frag) (r:List V→Hp→VK→Prop) (g:List Bv.X→Sto→R Bv.X):Prop:=∀ (Z:Wd) (ρ:List Addr) (S:Sto) (H:Hp) (Wx:WX) (σ:St) (xs:List Bv.X) (vs:List V) (Q:VK),Sta K Z ρ S H→AXs K (Wn Z ρ) ρ H xs vs→V7 (AX K) K Z ρ H Wx σ Q (g xs S)→r vs H Q
theorem CallR.or {fv:Value} {r r':List V→Hp→VK→Prop} (h:CallR X fv r) (h':CallR X fv r'):CallR X fv (fun xs H Q=>r xs H Q ∨ r' xs H Q):=fun pins s σ H xs us Q I v q=>q.elim (h pins s σ H xs us Q I v) (h' pins s σ H xs us Q I v)
theorem Z2i {id:String} {r:List V→Hp→VK→Prop} (hc:CallR X (.builtin id) r) (h:X5v X.K r g) (hg:Gl X x) (hm:X.mg x=none) (ha:MA X Wx (e :: es) ms) (hv:bootBuiltins x=some (.builtin id):=by rfl) (hn:x ≠ "__name__" := by decide) (hdb:(x == ("__debug__" : Str))=false:=by decide)
    (he:starEach (e :: es) X.env=(false,eval e X.env) :: starEach es X.env:=by rfl) (hpl:(backTo pos (starEach es X.env)).any (·.1)=false:=by rfl):ME X Wx (.Call (.Name x p) (e :: es) [] pos) (Y0 g ms):=PE.of (pe_callB hc hg hm hv ha hn hdb he hpl) fun σ H Q ⟨Z,ρ,e,S,st,ev,q⟩ =>
  V2 st ev q fun ρ1 H1 v xs S1 s1 g1 ev1 a1 p1=>h Z ρ1 S1 H1 Wx σ xs v Q s1 a1 p1
theorem Z5o {T:String} {r:List V→Hp→VK→Prop} (hc:CallR X (.type T) r) (h:X5v X.K r g) (hg:Gl X x) (hm:X.mg x=none) (ha:MA X Wx (e :: es) ms) (hv:bootBuiltins x=some (.type T):=by rfl) (hn:x ≠ "__name__" := by decide) (hdb:(x == ("__debug__" : Str))=false:=by decide)
    (he:starEach (e :: es) X.env=(false,eval e X.env) :: starEach es X.env:=by rfl) (hpl:(backTo pos (starEach es X.env)).any (·.1)=false:=by rfl):ME X Wx (.Call (.Name x p) (e :: es) [] pos) (Y0 g ms):=PE.of (pe_callTy hc hg hm hv ha hn hdb he hpl) fun σ H Q ⟨Z,ρ,e,S,st,ev,q⟩ =>
  V2 st ev q fun ρ1 H1 v xs S1 s1 g1 ev1 a1 p1=>h Z ρ1 S1 H1 Wx σ xs v Q s1 a1 p1
end
def Z31 (f:List Int→Option Int):List Bv.X→Sto→R Bv.X:=fun xs S=>match (ints? xs).bind f with
  | some i => .ok (.d (.int i)) S
  | none => .bad
theorem X69 {K:PySem.W.Frag} {Z:Wd} {ρ:List Addr} {S:Sto} {H:Hp} {Wx:WX} {σ:St} {Q:VK} {f:List Int→Option Int} {xs:List Bv.X} {vs:List V} (st:Sta K Z ρ S H) (a:AXs K (Wn Z ρ) ρ H xs vs) (h:V7 (AX K) K Z ρ H Wx σ Q (Z31 f xs S)):∃ l i,vs=l.map V.int∧f l=some i∧Q (.int i) H:=by
  unfold Z31 at h
  cases q:(ints? xs).bind f with
  | none=>rw [q] at h; exact h.elim
  | some i =>
    rw [q] at h
    obtain ⟨l,h1,h2⟩:=Option.bind_eq_some_iff.mp q
    exact ⟨l,i,Y73 a h1,h2,V7.ret0 h st (.d (.int i))⟩
def Y0i:List Int→Option Int
  | [i]=>some (if i < 0 then -i else i)
  | _=>none
def Y2l:List Int→Option Int
  | [i,j]=>some (if j < i then j else i)
  | _=>none
def Y2j:List Int→Option Int
  | [i,j]=>some (if j > i then j else i)
  | _=>none
section
variable {K:PySem.W.Frag}
theorem W99:X5v K (fun xs H Q=>∃ i,xs=[.int i]∧Q (.int (if i < 0 then -i else i)) H) (Z31 Y0i):=fun Z ρ S H Wx σ xs vs Q st a h=>by
  obtain ⟨l,i,e1,e2,q⟩:=X69 st a h
  match l,e2 with
  | [j],e2=>cases e2; exact ⟨j,e1,q⟩
def Z7h:List Bv.X→Sto→R Bv.X
  | [.d (.int i)],S => .ok (.d (.int i)) S
  | [.d (.bl b)],S => .ok (.d (.int (if b then 1 else 0))) S
  | _,_ => .bad
theorem W1n {W:Wd} {ρ:List Addr} {H:Hp} {d:D} {vs:List V} (a:AXs K W ρ H [.d d] vs):∃ v,vs=[v]∧AV K W H d v:=by
  cases a with
  | cons h t =>
    cases t
    cases h with
    | d h=>exact ⟨_,rfl,h⟩
theorem X4n:X5v K (fun xs H Q=>(∃ i,xs=[.int i]∧Q (.int i) H) ∨ ∃ k,xs=[.bl k]∧Q (.int (if k then 1 else 0)) H) Z7h:=fun Z ρ S H Wx σ xs vs Q st a h=>by
  unfold Z7h at h
  split at h
  · rename_i j
    obtain ⟨v,rfl,b⟩:=W1n a
    have e:v = .int j:=by cases b; rfl
    exact .inl ⟨_,by rw [e],V7.ret0 h st (.d (.int _))⟩
  · rename_i j
    obtain ⟨v,rfl,b⟩:=W1n a
    have e:v = .bl j:=by cases b; rfl
    exact .inr ⟨_,by rw [e],V7.ret0 h st (.d (.int _))⟩
  · exact h.elim
def Y1w:D→Option Int
  | .str z=>if decide (z.length ≤ sizeLine) then some z.length else none
  | .scr ns=>some ns.length
  | _=>none
def Z7n (S:Sto):Bv.X→Option Int
  | .d (.dic kvs)=>some kvs.length
  | .d d=>match items S (.d d) with
    | some ys=>some ys.length
    | none=>Y1w d
  | .r n=>match S[n]? with
    | some (.lst xs)=>some xs.length
    | some (.dic kvs)=>some kvs.length
    | some (.fdc kvs)=>some kvs.length
    | _=>none
def Z3i:List Bv.X→Sto→R Bv.X
  | [x],S=>(match Z7n S x with
    | some n => .ok (.d (.int n)) S
    | none => .bad)
  | _,_ => .bad
abbrev W88 (K:PySem.W.Frag):List V→Hp→VK→Prop:=fun xs H Q=>((∃ p ys,xs=[.ref p]∧(SqL K H p ys ∨ SqT K H p ys)∧Q (.int ys.length) H) ∨ (∃ z,xs=[.str z]∧z.length ≤ sizeLine∧Q (.int z.length) H)) ∨ ∃ a kvs,xs=[V.ref a]∧Rd H a (.dK kvs)∧Q (.int kvs.length) H
theorem X4p {X:Cx}:CallR X (.builtin "len") (fun xs H Q=>∃ a kvs,xs=[V.ref a]∧Rd H a (.dK kvs)∧Q (.int kvs.length) H):=fun pins s σ H xs us Q I r h=>by
  obtain ⟨a,kvs,rfl,hd,q⟩:=h
  cases r with
  | cons r t =>
    cases t
    cases (show _=Value.ref a from r)
    exact d_len I hd fun t s' I'=>⟨V.int kvs.length,H,I',⟨t,rfl⟩,q⟩
theorem Y0r {X:Cx}:CallR X (.builtin "len") (W88 X.K):=CallR.or (CallR.or call_len_seq call_len_str) X4p
theorem AVk.length {W:Wd} {H:Hp}:∀ {ds:List (D × D)} {vs:List (Key × V)},AVk K W H ds vs→ds.length=vs.length
  | _,_, .nil=>rfl
  | _,_, .cons _ _ t=>by simp [AVk.length t]
theorem Y0n:X5v K (W88 K) Z3i:=fun Z ρ S H Wx σ xs vs Q st a h=>by
  unfold Z3i at h
  split at h
  · rename_i x
    cases a with
    | cons ha t =>
      cases t
      cases q:Z7n S x with
      | none=>rw [q] at h; exact h.elim
      | some n =>
        rw [q] at h
        have hQ:Q (.int n) H:=V7.ret0 h st (.d (.int n))
        cases ha with
        | d ha =>
          cases ha with
          | dic w r hs=>cases q; exact .inr ⟨_,_,rfl, .inr ⟨_,r⟩,by rw [← hs.length]; exact hQ⟩
          | lst w r hs =>
            rw [show Z7n S (.d (.lst _))=some ((List.map Bv.X.d _).length:Int) from rfl,List.length_map] at q
            cases q; exact .inl (.inl ⟨_,_,rfl, .inl (.inl (.inl r)),by rw [← hs.length]; exact hQ⟩)
          | tup r hs =>
            rw [show Z7n S (.d (.tup _))=some ((List.map Bv.X.d _).length:Int) from rfl,List.length_map] at q
            cases q; exact .inl (.inl ⟨_,_,rfl, .inr r.sq,by rw [← hs.length]; exact hQ⟩)
          | scr r =>
            rename_i q' ns
            cases q
            exact .inl (.inl ⟨_,ns.map V.int,rfl, .inl r.sl,by rw [List.length_map]; exact hQ⟩)
          | str hz =>
            rename_i z
            have q:(if decide (z.length ≤ sizeLine) then some (z.length:Int) else none)=some n:=q
            obtain ⟨h1,h2⟩:=Z6s q
            cases h2
            exact .inl (.inr ⟨z,rfl,of_decide_eq_true h1,hQ⟩)
          | _=>cases q
        | r e =>
          rename_i m b
          have q:(match S[m]? with
            | some (.lst xs)=>some (xs.length:Int)
            | some (.dic kvs)=>some (kvs.length:Int)
            | some (.fdc kvs)=>some (kvs.length:Int)
            | _=>none)=some n:=q
          cases z:S[m]? with
          | none=>rw [z] at q; cases q
          | some o =>
            rw [z] at q
            have ob:=st.ob m o b z e
            cases o with
            | lst xs =>
              cases q
              obtain ⟨vs,h3,h4⟩:=ob
              exact .inl (.inl ⟨_,vs,rfl, .inl (.inl (.inl h3)),by rw [← Paired.length h4]; exact hQ⟩)
            | dic xs =>
              cases q
              obtain ⟨vs,h3,h4⟩:=ob
              exact .inr ⟨_,vs,rfl, .inl h3,by rw [← Paired.length h4]; exact hQ⟩
            | fdc xs =>
              cases q
              obtain ⟨o,vs,h3,h4⟩:=ob
              exact .inr ⟨_,vs,rfl, .inr ⟨o,h3⟩,by rw [← Paired.length h4]; exact hQ⟩
            | _=>cases q
  · exact h.elim
def X7f:List Bv.X→Sto→R Bv.X
  | [x],S=>(match items S x with
    | some ys => .ok (.r S.length) (S++[.lst ys])
    | none => .bad)
  | _,_ => .bad
abbrev W53 (K:PySem.W.Frag):List V→Hp→VK→Prop:=fun xs H Q=>∃ p ys,xs=[.ref p]∧(SqL K H p ys ∨ SqT K H p ys)∧∀ l,H l=none→Q (.ref l) (upd H l (.lst ys))
theorem W3z:X5v K (W53 K) X7f:=fun Z ρ S H Wx σ xs vs Q st a h=>by
  unfold X7f at h
  split at h
  · rename_i x
    cases a with
    | cons ha t =>
      cases t
      cases q:items S x with
      | none=>rw [q] at h; exact h.elim
      | some ys =>
        rw [q] at h
        obtain ⟨b,us,rfl,hq,hp⟩:=ha.items st q
        refine ⟨b,us,rfl,hq.symm,fun l hl=>?_⟩
        obtain ⟨s2,g2⟩:=st.pushL hl hp
        exact h _ _ _ s2 g2 (.r (by rw [st.len,List.getElem?_append_right (Nat.le_refl _),Nat.sub_self]; rfl))
  · exact h.elim
def Y5r:List Bv.X→Sto→R Bv.X
  | [x],S=>(match (items S x).bind ds? with
    | some ds => .ok (.d (.tup ds)) S
    | none => .bad)
  | _,_ => .bad
abbrev W89 (K:PySem.W.Frag):List V→Hp→VK→Prop:=fun xs H Q=>∃ p ys,xs=[.ref p]∧((SqL K H p ys∧∀ l,H l=none→Q (.ref l) (upd H l (.tup ys))) ∨ (SqT K H p ys∧Q (.ref p) H))
theorem Y86:X5v K (W89 K) Y5r:=fun Z ρ S H Wx σ xs vs Q st a h=>by
  unfold Y5r at h
  split at h
  · rename_i x
    cases a with
    | cons ha t =>
      cases t
      cases q:(items S x).bind ds? with
      | none=>rw [q] at h; exact h.elim
      | some ds =>
        rw [q] at h
        obtain ⟨ys,h1,h2⟩:=Option.bind_eq_some_iff.mp q
        have fin:∀ {b us},SqL K H b us→AXs K (Wn Z ρ) ρ H ys us→∀ l,H l=none→Q (.ref l) (upd H l (.tup us)):=fun hq hp l hl=>V7.ret h st (Z0m hl) (.d (Y4x (fun z hz=>st.thereW hz) hl (AXs.ds hp h2)))
        cases ha with
        | r e =>
          obtain ⟨b,us,e1,hq,hp⟩:=(AX.r e).items st h1
          cases e1
          rename_i m _
          have h1':(match S[m]? with
            | some (.lst xs)=>some xs
            | _=>none)=some ys:=h1
          cases z:S[m]? with
          | none=>rw [z] at h1'; cases h1'
          | some o =>
            rw [z] at h1'
            cases o with
            | lst xs =>
              cases h1'
              obtain ⟨vs,h3,h4⟩:=st.ob m _ _ z e
              exact ⟨_,vs,rfl, .inl ⟨.inl (.inl h3),fin (.inl (.inl h3)) h4⟩⟩
            | _=>cases h1'
        | d ha =>
          cases ha with
          | lst w r hs=>cases h1; exact ⟨_,_,rfl, .inl ⟨.inl (.inl r),fin (.inl (.inl r)) hs.axs⟩⟩
          | tup r hs =>
            cases h1
            rename_i ds2
            have e3:∀ (l:List D),ds? (l.map Bv.X.d)=some l:=fun l=>by
              induction l with
              | nil=>rfl
              | cons d r ih=>simp [ds?,ih]
            rw [e3] at h2
            cases h2
            exact ⟨_,_,rfl, .inr ⟨r.sq,V7.ret0 h st (.d (.tup r hs))⟩⟩
          | _=>cases h1
  · exact h.elim
def bls?:List Bv.X→Option (List Bool)
  | []=>some []
  | .d (.bl b) :: r=>(bls? r).map (b :: ·)
  | _ :: _=>none
theorem X6a {W:Wd} {ρ:List Addr} {H:Hp}:∀ {xs:List Bv.X} {vs:List V} {l:List Bool},AXs K W ρ H xs vs→bls? xs=some l→vs=l.map V.bl
  | _,_,_, .nil,e=>by cases e; rfl
  | x :: r,_,l, .cons h t,e=>by
    cases x with
    | r n=>simp [bls?] at e
    | d d =>
      cases d with
      | bl b =>
        obtain ⟨l2,h1,h2⟩:=Option.map_eq_some_iff.mp (show (bls? r).map (b :: ·)=some l from e)
        subst h2
        cases h with
        | d h=>cases h; rw [X6a t h1]; rfl
      | _=>simp [bls?] at e
def Q5 (S:Sto):Bv.X→Bool
  | .d (.lst _)=>true
  | .r n=>match S[n]? with
    | some (.lst _)=>true
    | _=>false
  | _=>false
theorem AX.itemsL {Z:Wd} {ρ:List Addr} {S:Sto} {H:Hp} {x:Bv.X} {v:V} {ys:List Bv.X} (st:Sta K Z ρ S H) (h:AX K (Wn Z ρ) ρ H x v) (e:Bv.items S x=some ys) (hl:Q5 S x=true):∃ q xs,v = .ref q∧H q=some (.lst xs)∧AXs K (Wn Z ρ) ρ H ys xs:=by
  cases h with
  | d h =>
    cases h with
    | lst w r hs=>cases e; exact ⟨_,_,rfl,r,hs.axs⟩
    | _=>cases hl
  | r h =>
    rename_i n q
    have e1:(match S[n]? with
      | some (.lst xs)=>some xs
      | _=>none)=some ys:=e
    cases z:S[n]? with
    | none=>rw [z] at e1; cases e1
    | some o =>
      rw [z] at e1
      cases o with
      | lst xs =>
        cases e1
        obtain ⟨vs,h1,h2⟩:=st.ob n _ q z h
        exact ⟨q,vs,rfl,h1,h2⟩
      | _=>cases e1
def Y3q (f:List Bool→Bool):List Bv.X→Sto→R Bv.X
  | [x],S=>if Q5 S x then (match (items S x).bind bls? with
    | some l => .ok (.d (.bl (f l))) S
    | none => .bad) else .bad
  | _,_ => .bad
theorem X21 {f:List Bool→Bool} {Z:Wd} {ρ:List Addr} {S:Sto} {H:Hp} {Wx:WX} {σ:St} {Q:VK} {xs:List Bv.X} {vs:List V} (st:Sta K Z ρ S H) (a:AXs K (Wn Z ρ) ρ H xs vs) (h:V7 (AX K) K Z ρ H Wx σ Q (Y3q f xs S)):∃ a bs,vs=[V.ref a]∧SqL K H a (bs.map V.bl)∧Q (.bl (f bs)) H:=by
  unfold Y3q at h
  split at h
  · rename_i x
    split at h
    · rename_i hl
      cases a with
      | cons ha t =>
        cases t
        cases q:(items S x).bind bls? with
        | none=>rw [q] at h; exact h.elim
        | some l =>
          rw [q] at h
          obtain ⟨ys,h1,h2⟩:=Option.bind_eq_some_iff.mp q
          obtain ⟨b,us,rfl,hq,hp⟩:=ha.itemsL st h1 hl
          rw [X6a hp h2] at hq
          exact ⟨b,l,rfl, .inl (.inl hq),V7.ret0 h st (.d (.bl _))⟩
    · exact h.elim
  · exact h.elim
theorem Y5z:X5v K (rAll K) (Y3q fun l=>l.all id):=fun Z ρ S H Wx σ xs vs Q st a h=>X21 st a h
theorem V0a:X5v K (rAny K) (Y3q fun l=>l.any id):=fun Z ρ S H Wx σ xs vs Q st a h=>X21 st a h
end
end Bv
namespace Bv
open PySem PySem.Spec L2
open PyProof.Rows hiding St
variable [HasW]
abbrev V1v:Wd→List Addr→Hp→Option Int→Option Int→Prop:=fun _ _ _ b c=>b=c
abbrev MO (X:Cx) (Wx:WX) (e:Option Expr) (m:MG (Option Int)):Prop:=PO X e (RG V1v X.K Wx m)
def Z5n:MG (Option Int):=fun _ S => .ok none S
def Q4 (m:M):MG (Option Int):=fun e S=>(m e S).bind fun x S1=>Z5r ((Z8c x).map some) S1
def Z6f {α:Type} (xs:List α) (lo hi:Option Int):List α:=(xs.drop (HT.sIx xs.length 0 lo)).take (HT.sIx xs.length xs.length hi - HT.sIx xs.length 0 lo)
def slX (S:Sto) (x:X) (lo hi:Option Int):Option X:=match x with
  | .d (.lst ds)=>some (.d (.lst (Z6f ds lo hi)))
  | .d (.tup ds)=>some (.d (.tup (Z6f ds lo hi)))
  | .d (.scr ns)=>some (.d (.lst ((Z6f ns lo hi).map .int)))
  | .d (.str z)=>if decide (z.length ≤ sizeLine) then some (.d (.str ⟨(Z6f z.cps.toList lo hi).toArray⟩)) else none
  | .r n=>(match S[n]? with
    | some (.lst xs)=>(ds? (Z6f xs lo hi)).map fun ds => .d (.lst ds)
    | _=>none)
  | _=>none
def V8 (m:M) (ml mh:MG (Option Int)):M:=fun e S=>(m e S).bind fun x S1=>(ml e S1).bind fun l S2=>(mh e S2).bind fun h S3=>Z5r (slX S3 x l h) S3
section
variable {X:Cx} {Wx:WX} {pos p p2 apos:Pos} {a b c o i e:Expr} {lo hi:Option Expr} {ma mb mc m mo mi:M} {ml mh:MG (Option Int)} {ms:MG (List Bv.X)}
theorem PO.of {e:Option Expr} {t t':TO} (h:PO X e t) (w:∀ σ H Q,t' σ H Q→t σ H Q):PO X e t':=⟨fun pins s σ H Q I q=>h.run pins s σ H Q I (w σ H Q q)⟩
theorem Z32:MO X Wx none Z5n:=PO.of po_none fun σ H Q ⟨Z,ρ,e,S,st,ev,p⟩=>V7.ret0 p st rfl
theorem Z3c (h:ME X Wx a m):MO X Wx (some a) (Q4 m):=PO.of (po_some h) fun σ H Q ⟨Z,ρ,e,S,st,ev,p⟩=>V2 st ev p fun ρ1 H1 v x S1 s1 g1 ev1 a1 p1=>by
  obtain ⟨o,ho,p2⟩:=p1.opt
  obtain ⟨j,h1,h2⟩:=Option.map_eq_some_iff.mp ho
  subst h2
  exact ⟨j,a1.int h1,V7.ret0 p2 s1 rfl⟩
theorem AVs.cutV {K:PySem.W.Frag} {W:Wd} {H:Hp} {ds:List D} {vs:List V} (h:AVs K W H ds vs) (lo hi:Option Int):AVs K W H (Z6f ds lo hi) (L2.cutV vs lo hi):=by
  unfold Z6f L2.cutV
  rw [h.length]
  exact (h.drop _).take _
theorem AXs.takeP {α β:Type} {F:α→β→Prop}:∀ {l:List α} {r:List β} (n:Nat),Paired F l r→Paired F (l.take n) (r.take n)
  | _,_,0,_ => .nil
  | _,_,_ + 1, .nil => .nil
  | _,_,n + 1, .cons x t => .cons x (AXs.takeP n t)
theorem AXs.dropP {α β:Type} {F:α→β→Prop}:∀ {l:List α} {r:List β} (n:Nat),Paired F l r→Paired F (l.drop n) (r.drop n)
  | _,_,0,t=>t
  | _,_,_ + 1, .nil => .nil
  | _,_,n + 1, .cons x t=>AXs.dropP n t
theorem W1q {F:Bv.X→V→Prop} {l:List Bv.X} {r:List V} (h:Paired F l r) (lo hi:Option Int):Paired F (Z6f l lo hi) (L2.cutV r lo hi):=by
  unfold Z6f L2.cutV
  rw [Paired.length h]
  exact AXs.takeP _ (AXs.dropP _ h)
theorem W36 {α β:Type} (f:α→β) (xs:List α) (lo hi:Option Int):Z6f (xs.map f) lo hi=(Z6f xs lo hi).map f:=by
  unfold Z6f
  rw [List.length_map,List.map_take,List.map_drop]
theorem X9y {α:Type} {xs:List α} {lo hi:Option Int} {a:α} (h:a ∈ Z6f xs lo hi):a ∈ xs:=List.mem_of_mem_drop (List.mem_of_mem_take h)
theorem Z16 (he:ME X Wx a m) (hl:MO X Wx lo ml) (hh:MO X Wx hi mh):ME X Wx (.Subscript a (.Slice lo hi none p2) pos) (V8 m ml mh):=PE.of (pe_slice (SlR.or (SlR.or sl_list sl_tupA) sl_str) he hl hh) fun σ H Q ⟨Z,ρ,e,S,st,ev,p⟩=>by
  refine V2 st ev p fun ρ1 H1 v x S1 s1 g1 ev1 a1 p1=>?_
  refine V2 (rel:=V1v) s1 ev1 p1 fun ρ2 H2 l l' S2 s2 g2 ev2 e2 p2=>?_
  refine V2 (rel:=V1v) s2 ev2 p2 fun ρ3 H3 h h' S3 s3 g3 ev3 e3 p3=>?_
  cases (show l'=l from e2)
  cases (show h'=h from e3)
  have a3:=(a1.mv (g2.mv s1) g2.pre).mv (g3.mv s2) g3.pre
  obtain ⟨y,hy,p4⟩:=p3.opt
  clear p3 p2 p1 p a1
  have lst:∀ {q:Addr} {xs:List V} {ds:List D},SqL X.K H3 q xs→AVs X.K (Wn Z ρ3) H3 ds xs→y = .d (.lst (Z6f ds l h))→∃ a xs,V.ref q = .ref a∧SqL X.K H3 a xs∧∀ p,H3 p=none→Q (.ref p) (upd H3 p (.lst (L2.cutV xs l h))):=fun {q xs ds} hq hs ey=>by
    subst ey
    exact ⟨q,xs,rfl,hq,fun p hp=>V7.ret p4 s3 (Z0m hp) (.d (Z9i (fun z hz=>s3.thereW hz) hp (hs.cutV l h)))⟩
  cases a3 with
  | d a =>
    cases a with
    | lst w r hs=>cases hy; exact .inl (.inl (lst (.inl (.inl r)) hs rfl))
    | scr r =>
      rename_i q ns
      cases hy
      exact .inl (.inl (lst r.sl (Y7s ns) (by rw [W36])))
    | tup t hs =>
      rename_i q xs ds
      cases hy
      refine .inl (.inr ⟨_,xs,rfl,t.sq,fun hw=>?_,fun _ p hp=>V7.ret p4 s3 (Z0m hp) (.d (Y4x (fun z hz=>s3.thereW hz) hp (hs.cutV l h)))⟩)
      have e0:Z6f ds l h=ds:=by
        unfold Z6f
        rw [hs.length,hw.1,hw.2,List.drop_zero,Nat.sub_zero,← hs.length,List.take_length]
      rw [e0] at p4
      exact V7.ret0 p4 s3 (.d (.tup t hs))
    | str hz =>
      rename_i z
      have hy:(if decide (z.length ≤ sizeLine) then some (Bv.X.d (.str ⟨(Z6f z.cps.toList l h).toArray⟩)) else none)=some y:=hy
      obtain ⟨h1,h2⟩:=Z6s hy
      cases h2
      refine .inr ⟨z,rfl,of_decide_eq_true h1,?_⟩
      have e0:cutS z l h=⟨(Z6f z.cps.toList l h).toArray⟩:=by
        unfold cutS Z6f
        rw [show z.cps.toList.length=z.length from by simp [Str.length]]
      rw [e0]
      exact V7.ret0 p4 s3 (.d (.str (Y3w fun c m=>Y5o hz (X9y (by simpa using m)))))
    | _=>cases hy
  | r hr =>
    rename_i n q
    have hy:(match S3[n]? with
      | some (.lst xs)=>(ds? (Z6f xs l h)).map fun ds=>Bv.X.d (.lst ds)
      | _=>none)=some y:=hy
    cases z:S3[n]? with
    | none=>rw [z] at hy; cases hy
    | some ob =>
      rw [z] at hy
      cases ob with
      | lst xs =>
        obtain ⟨ds,h1,h2⟩:=Option.map_eq_some_iff.mp (show (ds? (Z6f xs l h)).map (fun ds=>Bv.X.d (.lst ds))=some y from hy)
        subst h2
        obtain ⟨vs,h3,h4⟩:=s3.ob n _ q z hr
        exact .inl (.inl ⟨q,vs,rfl, .inl (.inl h3),fun p hp=>V7.ret p4 s3 (Z0m hp) (.d (Z9i (fun z hz=>s3.thereW hz) hp (AXs.ds (W1q h4 l h) h1)))⟩)
      | _=>cases hy
def Y1y (S:Sto) (o i v:Bv.X):Option Sto:=match o,Z8c i with
  | .r n,some k=>(match S[n]? with
    | some (.lst xs)=>(ixN xs.length k).map fun j=>S.set n (.lst (xs.set j v))
    | _=>none)
  | _,_=>none
def Z5f (mo mi m:M):MS:=fun e S=>(m e S).so e fun v S1=>(mo e S1).so e fun o S2=>(mi e S2).so e fun i S3=>match Y1y S3 o i v with
  | some S4 => .go (.nx e) S4
  | none => .bad
theorem Sta.putL {K:PySem.W.Frag} {Z:Wd} {ρ:List Addr} {S:Sto} {H:Hp} {n:Nat} {q:Addr} {xs:List Bv.X} {vs us:List V} (s:Sta K Z ρ S H) (hn:ρ[n]?=some q) (hq:H q=some (.lst us)) (a:AXs K (Wn Z ρ) ρ H xs vs):Sta K Z ρ (S.set n (.lst xs)) (upd H q (.lst vs))∧Go ρ H ρ (upd H q (.lst vs)) :=
  s.put hn (fun _ _ z=>by rw [hq] at z; cases z) ⟨vs,upd_same,AXs.mv (fun b o h z=>⟨h,by rw [upd_ne (fun y=>h (.inr (by rw [y]; exact List.mem_of_getElem? hn)))]; exact z⟩) (List.prefix_refl _) a⟩
def Z3b (ty:Sto→Bv.X→Bool) (g:Bv.X→List Bv.X→Sto→R Bv.X) (mo:M) (ms:MG (List Bv.X)):M:=fun e S=>(mo e S).bind fun x S1=>if ty S1 x then (ms e S1).bind fun xs S2=>g x xs S2 else .bad
def MtX (K:PySem.W.Frag) (r:V→List V→Hp→VK→Prop) (g:Bv.X→List Bv.X→Sto→R Bv.X):Prop:=∀ (Z:Wd) (ρ:List Addr) (S:Sto) (H:Hp) (Wx:WX) (σ:L2.St) (x:Bv.X) (v:V) (xs:List Bv.X) (vs:List V) (Q:VK),Sta K Z ρ S H→AX K (Wn Z ρ) ρ H x v→AXs K (Wn Z ρ) ρ H xs vs→V7 (AX K) K Z ρ H Wx σ Q (g x xs S)→r v vs H Q
theorem X3m {Z:Wd} {ρ:List Addr} {S:Sto} {H:Hp} {x:Bv.X} {v:V} (st:Sta X.K Z ρ S H) (a:AX X.K (Wn Z ρ) ρ H x v) (h:Q5 S x=true):tyV X.K "list" v H:=by
  cases a with
  | d a =>
    cases a with
    | lst w r hs=>exact .inl ⟨rfl,_, .inl (.inl r)⟩
    | _=>cases h
  | r e =>
    rename_i n q
    have h:(match S[n]? with
      | some (.lst _)=>true
      | _=>false)=true:=h
    cases z:S[n]? with
    | none=>rw [z] at h; cases h
    | some ob =>
      rw [z] at h
      cases ob with
      | lst xs =>
        obtain ⟨vs,h3,_⟩:=st.ob n _ q z e
        exact .inl ⟨rfl,vs, .inl (.inl h3)⟩
      | _=>cases h
variable {es:List Expr} {id:String} {name:Str} {r:V→List V→Hp→VK→Prop} {g:Bv.X→List Bv.X→Sto→R Bv.X} {cpos:Pos}
theorem Z7p (slot:Slot "list" name id) (hty:typeOf (.builtin id)=pure (.type "method_descriptor")) (hm:MtR X id r) (h:MtX X.K r g) (ho:ME X Wx o mo) (ha:MA X Wx (e :: es) ms) (hbase:attributeBase o name X.env (eval o X.env)=eval o X.env:=by rfl)
    (hfew:((backTo cpos (starEach (e :: es) X.env)).all (fun x => !x.1) && (backToKw cpos (keywordEach [] X.env)).all (fun x=>x.1.isSome)
      && decide ((e :: es).length + ([]:List Keyword).length + (if ([]:List Keyword).isEmpty then 0 else 1) < 30))=true:=by rfl)
    (hline:(apos.endLine == cpos.line)=true:=by rfl) (hs:starEach (e :: es) X.env=(false,eval e X.env) :: starEach es X.env:=by rfl) (hplain:(backTo cpos (starEach es X.env)).any (·.1)=false:=by rfl) :
    ME X Wx (.Call (.Attribute o name apos) (e :: es) [] cpos) (Z3b Q5 g mo ms):=PE.of (pe_bm PySem.F.plainAttrs_list slot hty hm ho ha hbase hfew hline hs hplain) fun σ H Q ⟨Z,ρ,e,S,st,ev,p⟩=>V2 st ev p fun ρ1 H1 v x S1 s1 g1 ev1 a1 p1=>by
  have p1:V7 (AX X.K) X.K Z ρ1 H1 Wx σ Q (if Q5 S1 x then (ms e S1).bind fun xs S2=>g x xs S2 else .bad):=p1
  split at p1
  · rename_i hl
    exact ⟨X3m s1 a1 hl,V2 s1 ev1 p1 fun ρ2 H2 vs xs S2 s2 g2 ev2 a2 p2=>h Z ρ2 S2 H2 Wx σ x v xs vs Q s2 (a1.mv (g2.mv s1) g2.pre) a2 p2⟩
  · exact p1.elim
theorem X7p (slot:Slot "list" name id) (hty:typeOf (.builtin id)=pure (.type "method_descriptor")) (hm:MtR X id r) (h:MtX X.K r g) (ho:ME X Wx o mo) (hbase:attributeBase o name X.env (eval o X.env)=eval o X.env:=by rfl) (hline:(apos.endLine == cpos.line)=true:=by rfl) :
    ME X Wx (.Call (.Attribute o name apos) [] [] cpos) (Z3b Q5 g mo Z7):=PE.of (pe_bm0 PySem.F.plainAttrs_list slot hty hm ho hbase hline) fun σ H Q ⟨Z,ρ,e,S,st,ev,p⟩=>V2 st ev p fun ρ1 H1 v x S1 s1 g1 ev1 a1 p1=>by
  have p1:V7 (AX X.K) X.K Z ρ1 H1 Wx σ Q (if Q5 S1 x then g x [] S1 else .bad):=p1
  split at p1
  · rename_i hl
    exact ⟨X3m s1 a1 hl,h Z ρ1 S1 H1 Wx σ x v [] [] Q s1 a1 .nil p1⟩
  · exact p1.elim
def Z25 (S:Sto):Bv.X→Option (Nat × List Bv.X)
  | .r n=>(match S[n]? with
    | some (.lst xs)=>some (n,xs)
    | _=>none)
  | _=>none
theorem Z9a {K:PySem.W.Frag} {Z:Wd} {ρ:List Addr} {S:Sto} {H:Hp} {x:Bv.X} {v:V} {n:Nat} {xs:List Bv.X} (st:Sta K Z ρ S H) (a:AX K (Wn Z ρ) ρ H x v) (h:Z25 S x=some (n,xs)):∃ q vs,v = .ref q∧ρ[n]?=some q∧H q=some (.lst vs)∧AXs K (Wn Z ρ) ρ H xs vs:=by
  cases a with
  | d a=>cases h
  | r e =>
    rename_i k q
    have h:(match S[k]? with
      | some (.lst xs)=>some (k,xs)
      | _=>none)=some (n,xs):=h
    cases z:S[k]? with
    | none=>rw [z] at h; cases h
    | some ob =>
      rw [z] at h
      cases ob with
      | lst ys =>
        cases h
        obtain ⟨vs,h3,h4⟩:=st.ob _ _ q z e
        exact ⟨q,vs,rfl,e,h3,h4⟩
      | _=>cases h
def Q0:Bv.X→List Bv.X→Sto→R Bv.X:=fun x ys S=>match Z25 S x,ys with
  | some (n,xs),[y]=>if decide (xs.length < sizeLine) then .ok (.d .non) (S.set n (.lst (xs++[y]))) else .bad
  | _,_ => .bad
theorem Z2k {K:PySem.W.Frag}:MtX K rAppend Q0:=fun Z ρ S H Wx σ x v ys ws Q st a as p=>by
  unfold Q0 at p
  split at p
  · rename_i n xs y hl
    split at p
    · rename_i hz
      obtain ⟨q,vs,rfl,e,h3,h4⟩:=Z9a st a hl
      cases as with
      | cons h t =>
        cases t
        have hz:=of_decide_eq_true hz
        obtain ⟨s5,g5⟩:=st.putL e h3 (Paired.append h4 (.cons h .nil))
        exact ⟨q,vs,_,rfl,rfl,h3,by rw [← Paired.length h4]; exact hz,p ρ _ .non s5 g5 (.d .non)⟩
    · exact p.elim
  · exact p.elim
def Z8n:Bv.X→List Bv.X→Sto→R Bv.X:=fun x ys S=>match Z25 S x,ys with
  | some (n,xs),[]=>(match xs[xs.length - 1]? with
    | some y => .ok y (S.set n (.lst xs.dropLast))
    | none => .bad)
  | _,_ => .bad
theorem Paired.dropL {α β:Type} {F:α→β→Prop} {l:List α} {r:List β} (h:Paired F l r):Paired F l.dropLast r.dropLast:=by
  rw [List.dropLast_eq_take,List.dropLast_eq_take,Paired.length h]
  exact AXs.takeP _ h
theorem Paired.get {α β:Type} {F:α→β→Prop} {l:List α} {r:List β} (p:Paired F l r) {j:Nat} {a:α} (e:l[j]?=some a):∃ b,r[j]?=some b∧F a b:=by
  induction p generalizing j with
  | nil=>simp at e
  | cons x _ ih =>
    cases j with
    | zero=>simp at e; subst e; exact ⟨_,rfl,x⟩
    | succ n=>simp at e; obtain ⟨b,h1,h2⟩:=ih e; exact ⟨b,by simpa using h1,h2⟩
theorem X58 {K:PySem.W.Frag}:MtX K rPop Z8n:=fun Z ρ S H Wx σ x v ys ws Q st a as p=>by
  unfold Z8n at p
  split at p
  · rename_i n xs hl
    obtain ⟨q,vs,rfl,e,h3,h4⟩:=Z9a st a hl
    cases as
    cases hx:xs[xs.length - 1]? with
    | none=>rw [hx] at p; exact p.elim
    | some y =>
      rw [hx] at p
      obtain ⟨w,h5,h6⟩:=Paired.get h4 hx
      obtain ⟨s5,g5⟩:=st.putL e h3 (Paired.dropL h4)
      exact ⟨q,vs,w,rfl,rfl,h3,by rw [← Paired.length h4]; exact h5,p ρ _ w s5 g5 (h6.mv (g5.mv st) g5.pre)⟩
  · exact p.elim
def Y2b:Bv.X→List Bv.X→Sto→R Bv.X:=fun x ys S=>match Z25 S x,ys with
  | some (n,xs),[y]=>(match Z8c y with
    | some i=>if decide (-(2 ^ 63) ≤ i∧i < 2 ^ 63) then (match seqIndex? i xs.length with
      | some k=>(match xs[k]? with
        | some z => .ok z (S.set n (.lst (xs.eraseIdx k)))
        | none => .bad)
      | none => .bad) else .bad
    | none => .bad)
  | _,_ => .bad
theorem Paired.eraseP {α β:Type} {F:α→β→Prop}:∀ {l:List α} {r:List β} (j:Nat),Paired F l r→Paired F (l.eraseIdx j) (r.eraseIdx j)
  | _,_,_, .nil => .nil
  | _,_,0, .cons _ t=>t
  | _,_,j + 1, .cons x t => .cons x (Paired.eraseP j t)
theorem W30 {K:PySem.W.Frag}:MtX K rPopAt Y2b:=fun Z ρ S H Wx σ x v ys ws Q st a as p=>by
  unfold Y2b at p
  split at p
  · rename_i n xs y hl
    cases as with
    | cons h t =>
      cases t
      cases hi:Z8c y with
      | none=>rw [hi] at p; exact p.elim
      | some i =>
        rw [hi] at p
        have p:V7 (AX K) K Z ρ H Wx σ Q (if decide (-(2 ^ 63) ≤ i∧i < 2 ^ 63) then (match seqIndex? i xs.length with
          | some k=>(match xs[k]? with
            | some z => .ok z (S.set n (.lst (xs.eraseIdx k)))
            | none => .bad)
          | none => .bad) else .bad):=p
        split at p
        · rename_i hz
          have hz:=of_decide_eq_true hz
          obtain ⟨q,vs,rfl,e,h3,h4⟩:=Z9a st a hl
          cases hk:seqIndex? i xs.length with
          | none=>rw [hk] at p; exact p.elim
          | some k =>
            rw [hk] at p
            have p:V7 (AX K) K Z ρ H Wx σ Q (match xs[k]? with
              | some z => .ok z (S.set n (.lst (xs.eraseIdx k)))
              | none => .bad):=p
            cases hx:xs[k]? with
            | none=>rw [hx] at p; exact p.elim
            | some z =>
              rw [hx] at p
              obtain ⟨w,h5,h6⟩:=Paired.get h4 hx
              obtain ⟨s5,g5⟩:=st.putL e h3 (Paired.eraseP k h4)
              exact ⟨q,vs,i,k,w,rfl,by rw [h.int hi],h3,hz.1,hz.2,by rw [← Paired.length h4]; exact hk,h5,p ρ _ w s5 g5 (h6.mv (g5.mv st) g5.pre)⟩
        · exact p.elim
  · exact p.elim
def strs?:List Bv.X→Option (List Str)
  | []=>some []
  | .d (.str z) :: r=>(strs? r).map (z :: ·)
  | _ :: _=>none
theorem Y81 {K:PySem.W.Frag} {W:Wd} {ρ:List Addr} {H:Hp}:∀ {xs:List Bv.X} {vs:List V} {l:List Str},AXs K W ρ H xs vs→strs? xs=some l→vs=l.map V.str∧∀ z ∈ l,PyData.strOk z=true
  | _,_,_, .nil,e=>by cases e; exact ⟨rfl,fun z h=>by simp at h⟩
  | x :: r,_,l, .cons h t,e=>by
    cases x with
    | r n=>simp [strs?] at e
    | d d =>
      cases d with
      | str b =>
        obtain ⟨l2,h1,h2⟩:=Option.map_eq_some_iff.mp (show (strs? r).map (b :: ·)=some l from e)
        subst h2
        cases h with
        | d h =>
          cases h with
          | str hz =>
            obtain ⟨h3,h4⟩:=Y81 t h1
            exact ⟨by rw [h3]; rfl,fun z m=>(List.mem_cons.mp m).elim (fun q=>by rw [q]; exact hz) (h4 z)⟩
      | _=>simp [strs?] at e
theorem Y2w {a:Str} (ha:PyData.strOk a=true):∀ {ys:List Str},(∀ z ∈ ys,PyData.strOk z=true)→PyData.strOk (Str.join a ys)=true
  | [],_=>Y3w fun c m=>by simp [Str.join,Str.empty] at m
  | [x],h=>h x (by simp)
  | x :: y :: r,h=>by
    show PyData.strOk (x++a++Str.join a (y :: r))=true
    exact Z9j (Z9j (h x (by simp)) ha) (Y2w ha fun z m=>h z (List.mem_cons_of_mem _ m))
def Y3b (a:Str) (y:Bv.X) (S:Sto):R Bv.X:=match (items S y).bind strs? with
  | some ys=>if decide ((ys.map (·.length)).sum + ys.length * a.length ≤ 16777216) then .ok (.d (.str (Str.join a ys))) S else .bad
  | none => .bad
def Z9y (g:Str→Bv.X→Sto→R Bv.X) (mo m:M):M:=fun e S=>(mo e S).bind fun x S1=>match x with
  | .d (.str a)=>(m e S1).bind fun y S2=>g a y S2
  | _ => .bad
theorem X7n (ho:ME X Wx o mo) (he:ME X Wx e m) (hs:starEach [e] X.env=[(false,eval e X.env)]:=by rfl) (hbase:attributeBase o "join" X.env (eval o X.env)=eval o X.env:=by rfl) (hline:(apos.endLine == pos.line)=true:=by rfl) :
    ME X Wx (.Call (.Attribute o "join" apos) [e] [] pos) (Z9y Y3b mo m):=PE.of (pe_join ho he hs hbase hline) fun σ H Q ⟨Z,ρ,e,S,st,ev,p⟩=>V2 st ev p fun ρ1 H1 v x S1 s1 g1 ev1 a1 p1=>by
  cases a1 with
  | r _=>exact p1.elim
  | d a =>
    cases a with
    | str hz =>
      rename_i z
      refine ⟨⟨z,rfl⟩,V2 s1 ev1 (show V7 (AX X.K) X.K Z ρ1 H1 Wx σ Q ((m e S1).bind fun y S2=>Y3b z y S2) from p1) fun ρ2 H2 u y S2 s2 g2 ev2 a2 p2=>?_⟩
      unfold Y3b at p2
      cases q:(items S2 y).bind strs? with
      | none=>rw [q] at p2; exact p2.elim
      | some ys =>
        rw [q] at p2
        obtain ⟨zs,h1,h2⟩:=Option.bind_eq_some_iff.mp q
        obtain ⟨b,us,rfl,hq,hp⟩:=a2.items s2 h1
        obtain ⟨rfl,hk⟩:=Y81 hp h2
        have p2:V7 (AX X.K) X.K Z ρ2 H2 Wx σ Q (if decide ((ys.map (·.length)).sum + ys.length * z.length ≤ 16777216) then .ok (.d (.str (Str.join z ys))) S2 else .bad):=p2
        split at p2
        · rename_i hl
          refine ⟨z,b,ys,rfl,rfl,hq.symm,of_decide_eq_true hl,?_⟩
          rw [show Txt.join z ys=Str.join z ys from StrLaws.glued_eq_join ..]
          exact V7.ret0 p2 s2 (.d (.str (Y2w hz hk)))
        · exact p2.elim
    | _=>exact p1.elim
def Z2j (i j:Nat) (ms:MG (List Bv.X)):MS:=fun e S=>(ms e S).so e fun xs S1=>match xs with
  | [x,y] => .go (.nx ((e.set i (some x)).set j (some y))) S1
  | _ => .bad
theorem Y4u {i j:Nat} {x y:Str} {px py pt:Pos} {kt k2 pt2} (hc:X.calm=true) (hN:X.N.Nodup) (hi:X.N[i]?=some x) (hj:X.N[j]?=some y) (hij:i ≠ j) (hx:X.env.scope.names.lookup x=some .local) (hy:X.env.scope.names.lookup y=some .local) (ha:MA X Wx [a,b] ms)
    (hw:swappedStores [.Tuple [.Name x px, .Name y py] kt pt] (.Tuple [a,b] k2 pt2) X.env=pure (some [x,y]):=by rfl) (hs:swapsWithSole [.Tuple [.Name x px, .Name y py] kt pt] (.Tuple [a,b] k2 pt2) pos.line X.env=pure false:=by rfl) :
    MP X Wx (.Assign [.Tuple [.Name x px, .Name y py] kt pt] (.Tuple [a,b] k2 pt2) pos) (Z2j i j ms):=PS.of (ps_par hc hN hi hj hij hx hy ha hw hs) fun D σ H ⟨Z,ρ,e,S,st,ev,p⟩=>Z15 (rel:=AXs X.K) st ev p fun ρ1 H1 vs xs S1 s1 g1 ev1 a1 p1=>by
  match xs,vs,a1,p1 with
  | [x,y],_, .cons h1 (.cons h2 .nil),p1=>exact ⟨_,_,rfl,p1.next s1 ((ev1.set h1).set h2)⟩
  | [],_,_,p1=>exact p1.elim
  | [_],_,_,p1=>exact p1.elim
  | _ :: _ :: _ :: _,_,_,p1=>exact p1.elim
end
end Bv
namespace Bv
open PySem PySem.Spec L2
open PyProof.Rows hiding St
variable [HasW]
structure OwnIs (K:PySem.W.Frag) (C:Str):Prop where
  cl:Cls K (He.ga K C)
  ha:PySem.W.findIn K (.ref (He.ga K C)) "__class__" = some (some (.builtin "object.__class__"))
  hn:PySem.W.specialIn K (.builtin "object.__class__") "__get__" = some (some (.builtin "getset_descriptor.__get__"))
  htk:PySem.W.takesIn K (.builtin "object.__class__")=some true
  hm:PySem.W.mroIn K (He.ga K C) (.type "object")=some true
structure IsT (K:PySem.W.Frag) (u:Value) (tab:List (String × Bool)) (own:List (Str × Bool)):Prop where
  bt:∀ k b,tab.lookup k=some b→PySem.W.kitOne K (.type k) u=some b
  ow:∀ C b,own.lookup C=some b→OwnIs K C∧PySem.W.kitOne K (.ref (He.ga K C)) u=some b
def V08:D→Option String
  | .non=>some "NoneType"
  | .bl _=>some "bool"
  | .int _=>some "int"
  | .str _=>some "str"
  | .tup _=>some "tuple"
  | .lst _=>some "list"
  | .scr _=>some "list"
  | .dic _=>some "dict"
  | _=>none
def isX (tab:List (String × Bool)) (own:List (Str × Bool)) (S:Sto):X→Option Bool
  | .d (.obj C _)=>own.lookup C
  | .d d=>(V08 d).bind fun k=>tab.lookup k
  | .r n=>match S[n]? with
    | some (.lst _)=>tab.lookup "list"
    | some (.dic _)=>tab.lookup "dict"
    | some (.fdc _)=>tab.lookup "dict"
    | some (.ins C _)=>own.lookup C
    | _=>none
def Z57 (tab:List (String × Bool)) (own:List (Str × Bool)) (m:M):M:=fun e S=>(m e S).bind fun x S1=>Z5r ((isX tab own S1 x).map fun b => .d (.bl b)) S1
section
variable {X:Cx} {Wx:WX} {pos p p2 apos:Pos} {a b c o i e:Expr} {ma mb mc m mo mi:M} {ms:MG (List Bv.X)}
theorem Tp.tyX {K:PySem.W.Frag} {W:Wd} {H:Hp} {a:Addr} {xs:List V} (t:Tp K W H a xs):TyX K H (.ref a) (.type "tuple"):=by
  rcases t with ⟨_,h⟩ | ⟨o,its,n,h1,h2,_⟩
  · exact .base (.tup h)
  · exact .kTuple h1 h2
theorem W74 {K:PySem.W.Frag} {u:Value} {tab:List (String × Bool)} {own:List (Str × Bool)} (T:IsT K u tab own) {Z:Wd} {ρ:List Addr} {S:Sto} {H:Hp} {x:Bv.X} {v:V} {k:Bool} (st:Sta K Z ρ S H) (a:AX K (Wn Z ρ) ρ H x v) (h:isX tab own S x=some k) :
    ∃ t,TyX K H v t∧PySem.W.kitOne K t u=some k:=by
  cases a with
  | d a =>
    cases a with
    | obj w r hs =>
      obtain ⟨O,q⟩:=T.ow _ _ h
      exact ⟨_, .base (.ins r O.cl O.ha O.hn O.htk O.hm),q⟩
    | non=>exact ⟨_, .base .non,T.bt _ _ h⟩
    | bl k=>exact ⟨_, .base (.bl k),T.bt _ _ h⟩
    | int k=>exact ⟨_, .base (.int k),T.bt _ _ h⟩
    | str k=>exact ⟨_, .base (.str _),T.bt _ _ h⟩
    | tup t hs=>exact ⟨_,t.tyX,T.bt _ _ h⟩
    | lst w r hs=>exact ⟨_, .base (.lst r),T.bt _ _ h⟩
    | scr r =>
      rcases r with ⟨_,r | ⟨ob,r⟩⟩ | ⟨o,its,n,r1,r2,_⟩
      · exact ⟨_, .base (.lst r),T.bt _ _ h⟩
      · exact ⟨_, .base (.frz r),T.bt _ _ h⟩
      · exact ⟨_, .kList r1 r2,T.bt _ _ h⟩
    | dic w r hs=>exact ⟨_, .fDict r,T.bt _ _ h⟩
    | gl x=>cases h
  | r e =>
    rename_i n q
    have h:(match S[n]? with
      | some (.lst _)=>tab.lookup "list"
      | some (.dic _)=>tab.lookup "dict"
      | some (.fdc _)=>tab.lookup "dict"
      | some (.ins C _)=>own.lookup C
      | _=>none)=some k:=h
    cases z:S[n]? with
    | none=>rw [z] at h; cases h
    | some ob =>
      rw [z] at h
      have y:=st.ob n _ q z e
      cases ob with
      | lst xs=>obtain ⟨vs,h1,_⟩:=y; exact ⟨_, .base (.lst h1),T.bt _ _ h⟩
      | dic xs=>obtain ⟨vs,h1,_⟩:=y; exact ⟨_, .base (.dK h1),T.bt _ _ h⟩
      | fdc xs=>obtain ⟨o,vs,h1,_⟩:=y; exact ⟨_, .fDict h1,T.bt _ _ h⟩
      | tdc xs=>cases h
      | tfc xs=>cases h
      | ins C fs =>
        obtain ⟨dx,vs,h1,_⟩:=y
        obtain ⟨O,q⟩:=T.ow _ _ h
        exact ⟨_, .base (.ins h1 O.cl O.ha O.hn O.htk O.hm),q⟩
theorem Z98 {tab:List (String × Bool)} {own:List (Str × Bool)} {u:Value} {cv:V} (hg:Gl X "isinstance") (hm:X.mg "isinstance" = none) (he:ME X Wx a m) (hc:PE X c (tC cv)) (T:IsT X.K u tab own) (k:ClsV cv u)
    (hs:starEach [a,c] X.env=(false,eval a X.env) :: starEach [c] X.env:=by rfl) (hs2:starEach [c] X.env=(false,eval c X.env) :: starEach [] X.env:=by rfl) (hpl:(backTo pos (starEach [c] X.env)).any (·.1)=false:=by rfl) :
    ME X Wx (.Call (.Name "isinstance" p) [a,c] [] pos) (Z57 tab own m):=PE.of (pe_callB call_isi hg hm (by rfl) (pa_cons he (pa_cons hc pa_nil hs2) hs) (by decide) (by decide) hs hpl) fun σ H Q ⟨Z,ρ,e,S,st,ev,q⟩=>V2 st ev q fun ρ1 H1 v x S1 s1 g1 ev1 a1 p1=>by
  obtain ⟨w,hw,p2⟩:=p1.opt
  obtain ⟨b,h1,h2⟩:=Option.map_eq_some_iff.mp hw
  subst h2
  obtain ⟨t,ty,kt⟩:=W74 T s1 a1 h1
  exact ⟨v,cv,t,u,b,rfl,k,ty,kt,V7.ret0 p2 s1 (.d (.bl b))⟩
omit [HasW] in
theorem X7h {β:Type} {k:String} {b:β}:∀ {l:List (String × β)},l.lookup k=some b→(k,b) ∈ l
  | [],h=>by cases h
  | (k',b') :: r,h=>by
    rw [List.lookup_cons] at h
    cases q:k == k' with
    | true =>
      rw [q] at h
      cases h
      rw [beq_iff_eq.mp q]
      exact List.mem_cons_self
    | false=>rw [q] at h; exact List.mem_cons_of_mem _ (X7h h)
def Z7f (T:String):List (String × Bool):=["NoneType", "bool", "int", "str", "tuple", "list", "dict"].filterMap fun k=>(kitB k T).map fun b=>(k,b)
def isB (a b:D):Option D:=match a,b with
  | .bl x, .bl y=>some (.bl (decide (x=y)))
  | _,_=>none
def isnB (a b:D):Option D:=match a,b with
  | .bl x, .bl y=>some (.bl (!decide (x=y)))
  | _,_=>none
theorem V1l {K:PySem.W.Frag}:Op2 K rIsB isB:=fun W H d1 d2 v1 v2 d Q hw a1 a2 e k=>by
  cases d1 <;> cases d2 <;> first | (cases e; exact ⟨_,_,a1.bl_inv,a2.bl_inv,k H _ (Same.refl H) (.bl _)⟩) | cases e
theorem W8t {K:PySem.W.Frag}:Op2 K rNotB isnB:=fun W H d1 d2 v1 v2 d Q hw a1 a2 e k=>by
  cases d1 <;> cases d2 <;> first | (cases e; exact ⟨_,_,a1.bl_inv,a2.bl_inv,k H _ (Same.refl H) (.bl _)⟩) | cases e
end
end Bv
namespace Bv
open PySem PySem.Spec L2
open PyProof.Rows hiding St
variable [HasW]
section
variable {X:Cx} {Wx:WX} {pos p p2 apos:Pos} {a b c o i e:Expr} {ma mb mc m mo mi:M} {ms:MG (List Bv.X)} {k n:Nat} {f:Addr} {fd:FuncData} {ps:List Str} {g:List D→PR} {C:Str}
structure OwnStr (K:PySem.W.Frag) (C:Str) (f:Addr):Prop where
  at_:PySem.W.findIn K (.ref (He.ga K C)) "__str__" = some (some (.ref f))
  fn:PySem.W.isFn K (.ref f)=true
structure OwnEq (K:PySem.W.Frag) (C:Str) (f:Addr):Prop where
  at_:PySem.W.findIn K (.ref (He.ga K C)) "__eq__" = some (some (.ref f))
  fn:PySem.W.isFn K (.ref f)=true
  ne:PySem.W.findIn K (.ref (He.ga K C)) "__ne__" = some (some (.builtin "object.__ne__"))
  mo:PySem.W.mroIn K (He.ga K C) (.type "object")=some true
def eqO (C:Str) (g:List D→PR) (neg:Bool) (a b:D):Option D:=match a,b with
  | .obj C1 f1, .obj C2 f2=>if decide (C1=C) && decide (C2=C) then (match g [.obj C1 f1, .obj C2 f2] with
    | .ok (.bl r)=>some (.bl (r ^^ neg))
    | _=>none) else none
  | _,_=>none
structure IsTs (K:PySem.W.Frag) (us:List Value) (tab:List (String × Bool)) (own:List (Str × Bool)):Prop where
  bt:∀ k b,tab.lookup k=some b→PySem.W.kitAny K (.type k) us=some b
  ow:∀ C b,own.lookup C=some b→OwnIs K C∧PySem.W.kitAny K (.ref (He.ga K C)) us=some b
theorem W4v {K:PySem.W.Frag} {us:List Value} {tab:List (String × Bool)} {own:List (Str × Bool)} (T:IsTs K us tab own) {Z:Wd} {ρ:List Addr} {S:Sto} {H:Hp} {x:Bv.X} {v:V} {k:Bool} (st:Sta K Z ρ S H) (a:AX K (Wn Z ρ) ρ H x v) (h:isX tab own S x=some k) :
    ∃ t,TyX K H v t∧PySem.W.kitAny K t us=some k:=by
  cases a with
  | d a =>
    cases a with
    | obj w r hs =>
      obtain ⟨O,q⟩:=T.ow _ _ h
      exact ⟨_, .base (.ins r O.cl O.ha O.hn O.htk O.hm),q⟩
    | non=>exact ⟨_, .base .non,T.bt _ _ h⟩
    | bl k=>exact ⟨_, .base (.bl k),T.bt _ _ h⟩
    | int k=>exact ⟨_, .base (.int k),T.bt _ _ h⟩
    | str k=>exact ⟨_, .base (.str _),T.bt _ _ h⟩
    | tup t hs=>exact ⟨_,t.tyX,T.bt _ _ h⟩
    | lst w r hs=>exact ⟨_, .base (.lst r),T.bt _ _ h⟩
    | scr r =>
      rcases r with ⟨_,r | ⟨ob,r⟩⟩ | ⟨o,its,n,r1,r2,_⟩
      · exact ⟨_, .base (.lst r),T.bt _ _ h⟩
      · exact ⟨_, .base (.frz r),T.bt _ _ h⟩
      · exact ⟨_, .kList r1 r2,T.bt _ _ h⟩
    | dic w r hs=>exact ⟨_, .fDict r,T.bt _ _ h⟩
    | gl x=>cases h
  | r e =>
    rename_i n q
    have h:(match S[n]? with
      | some (.lst _)=>tab.lookup "list"
      | some (.dic _)=>tab.lookup "dict"
      | some (.fdc _)=>tab.lookup "dict"
      | some (.ins C _)=>own.lookup C
      | _=>none)=some k:=h
    cases z:S[n]? with
    | none=>rw [z] at h; cases h
    | some ob =>
      rw [z] at h
      have y:=st.ob n _ q z e
      cases ob with
      | lst xs=>obtain ⟨vs,h1,_⟩:=y; exact ⟨_, .base (.lst h1),T.bt _ _ h⟩
      | dic xs=>obtain ⟨vs,h1,_⟩:=y; exact ⟨_, .base (.dK h1),T.bt _ _ h⟩
      | fdc xs=>obtain ⟨o,vs,h1,_⟩:=y; exact ⟨_, .fDict h1,T.bt _ _ h⟩
      | tdc xs=>cases h
      | tfc xs=>cases h
      | ins C fs =>
        obtain ⟨dx,vs,h1,_⟩:=y
        obtain ⟨O,q⟩:=T.ow _ _ h
        exact ⟨_, .base (.ins h1 O.cl O.ha O.hn O.htk O.hm),q⟩
end
end Bv
namespace Bv
open PySem PySem.Spec L2
open PyProof.Rows hiding St
structure DefB where
  ad:PySem.W.Frag→Addr
  name:Str
  qual:Str
  params:Arguments
  body:List Stmt
  scope:Scope
  dfl:List He.Dv:=[]
def X9x (C m:Str) (K:PySem.W.Frag):Addr:=match PySem.W.recIn K (He.ma K (He.ga K C) m) "classmethod" with
  | some (.ref g :: _)=>g
  | _=>0
def seen (K:PySem.W.Frag) (a:Addr):He.FnW:=match K.lookup a with
  | some ⟨_,_, .func fd,_⟩=>some (fd.name,fd.qualname,fd.params,fd.body,fd.scope,fd.globals,fd.closure,fd.builtins)
  | _=>none
def DefB.val (d:DefB):He.FnW:=some (d.name,d.qual,d.params, .stmts d.body,d.scope,mainGlobals,[],builtinsNs)
def DefB.dvs (K:PySem.W.Frag) (d:DefB):List V:=d.dfl.map (He.Dv.v K)
def DefB.ok (K:PySem.W.Frag) (d:DefB):Bool:=PySem.W.keepIn K (.ref (d.ad K)) && (match K.lookup (d.ad K) with
  | some ⟨_,_, .func fd,_⟩=>PySem.W.codeIn K fd.code d.qual && He.dflB K fd.defaults (d.dvs K)
  | _=>false)
theorem DefB.fun {K:PySem.W.Frag} {d:DefB} (e:seen K (d.ad K)=d.val) (c:d.ok K=true):∃ fd,FunD K d.name d.qual d.params d.body d.scope (d.dvs K) [] (d.ad K) fd:=by
  obtain ⟨kp,c2⟩:=He.ba c
  unfold seen at e
  cases q:K.lookup (d.ad K) with
  | none=>rw [q] at c2; cases c2
  | some o =>
    obtain ⟨oc,od,dt,osl⟩:=o
    rw [q] at c2 e
    cases dt with
    | func fd =>
      obtain ⟨m1,m2,m3,m4,m5,m6,m7,m8,m9,m10,m11,m12,m13,m14,m15⟩:=fd
      have e2:(some (m1,m2,m3,m4,m5,m6,m7,m15):He.FnW)=some (d.name,d.qual,d.params, .stmts d.body,d.scope,mainGlobals,[],builtinsNs):=e
      simp only [Option.some.injEq,Prod.mk.injEq] at e2
      obtain ⟨rfl,rfl,rfl,rfl,rfl,rfl,rfl,rfl⟩:=e2
      obtain ⟨k1,k2⟩:=He.ba (show (PySem.W.codeIn K m13 d.qual && He.dflB K m8 (d.dvs K))=true from c2)
      exact ⟨_,⟨oc,od,m8,m9,m10,m11,m12,m13,m14,osl,rfl,q,k1,He.dflB_ok k2, .inl rfl⟩,kp⟩
    | _=>cases c2
abbrev AlB:Type:=Bool × List He.FnW
def V2o (ts:List (PySem.W.Frag→Bool)) (ds:List DefB) (K:PySem.W.Frag):AlB:=((ts.all fun t=>t K) && ds.all fun d=>d.ok K,ds.map fun d=>seen K (d.ad K))
def V2r (ds:List DefB):AlB:=(true,ds.map DefB.val)
def Y7p (ts:List (PySem.W.Frag→Bool)) (ds:List DefB) (K:PySem.W.Frag):Prop:=V2o ts ds K=V2r ds
section
variable {ts:List (PySem.W.Frag→Bool)} {ds:List DefB} {K:PySem.W.Frag}
theorem Y7p.both (c:Y7p ts ds K):(ts.all fun t=>t K)=true∧(ds.all fun d=>d.ok K)=true:=He.ba (show ((ts.all fun t=>t K) && ds.all fun d=>d.ok K)=true from congrArg (fun z:AlB=>z.1) c)
theorem Y7p.test (c:Y7p ts ds K) (i:Nat) {t:PySem.W.Frag→Bool} (h:ts[i]?=some t:=by rfl):t K=true:=List.all_eq_true.mp c.both.1 t (List.mem_of_getElem? h)
theorem Y7p.fun (c:Y7p ts ds K) (i:Nat) {d:DefB} (h:ds[i]?=some d:=by rfl):∃ fd,FunD K d.name d.qual d.params d.body d.scope (d.dvs K) [] (d.ad K) fd:=by
  have e:ds.map (fun d=>seen K (d.ad K))=ds.map DefB.val:=congrArg (fun z:AlB=>z.2) c
  have e2:=congrArg (fun l=>l[i]?) e
  simp only [List.getElem?_map,h,Option.map_some,Option.some.injEq] at e2
  exact DefB.fun e2 (List.all_eq_true.mp c.both.2 d (List.mem_of_getElem? h))
end
def Z1o (x:Str) (K:PySem.W.Frag):Bool:=(He.Fa.glo x).ok K
def Z6n (x:Str) (K:PySem.W.Frag):Bool:=(He.Fa.free x).ok K
def W19 (C:Str) (K:PySem.W.Frag):Bool:=(He.Fa.cls C).ok K
def W9q (C f:Str) (K:PySem.W.Frag):Bool:=(He.Fa.noat C f).ok K
def X03 (C m:Str) (K:PySem.W.Frag):Bool:=(He.Fa.meth C m).ok K
def X87 (C:Str) (K:PySem.W.Frag):Bool:=(He.Fa.mkr C).ok K
def W6t (C:Str) (K:PySem.W.Frag):Bool:=(He.Fa.cls C).ok K && (He.eqO (PySem.W.findIn K (.ref (He.ga K C)) "__class__") (some (some (.builtin "object.__class__"))) && (He.eqO (PySem.W.specialIn K (.builtin "object.__class__") "__get__") (some (some (.builtin "getset_descriptor.__get__"))) &&
  (decide (PySem.W.takesIn K (.builtin "object.__class__")=some true) && decide (PySem.W.mroIn K (He.ga K C) (.type "object")=some true))))
theorem W27 {C:Str} {K:PySem.W.Frag} (h:W6t C K=true):OwnIs K C:=by
  obtain ⟨c1,h⟩:=He.ba h
  obtain ⟨c2,h⟩:=He.ba h
  obtain ⟨c3,h⟩:=He.ba h
  obtain ⟨c4,c5⟩:=He.ba h
  exact ⟨He.cls_ok c1,He.eqO_ok c2,He.eqO_ok c3,of_decide_eq_true c4,of_decide_eq_true c5⟩
def Z9z (x:Str) (vs:List Str) (K:PySem.W.Frag):Bool:=He.tupB K x (vs.map He.Dv.str)
theorem X2z {K:PySem.W.Frag} {W:Wd} {H:Hp}:∀ {vs:List Str},(vs.all fun z=>PyData.strOk z)=true→AVs K W H (vs.map D.str) ((vs.map He.Dv.str).map (He.Dv.v K))
  | [],_ => .nil
  | z :: r,h=>by
    rw [List.all_cons,Bool.and_eq_true] at h
    exact .cons (.str h.1) (X2z h.2)
theorem W4z {K:PySem.W.Frag} {x:Str} {vs:List He.Dv} (h:He.tupB K x vs=true):V2c K (He.ga K x) (vs.map (He.Dv.v K)):=by
  unfold He.tupB at h
  cases q:K.lookup (He.ga K x) with
  | none=>rw [q] at h; cases h
  | some o =>
    obtain ⟨oc,od,dt,osl⟩:=o
    rw [q] at h
    cases oc with
    | type c =>
      cases dt with
      | seq its n =>
        obtain ⟨h1,h2⟩:=He.ba (show (decide (c = "tuple") && (decide (its.size ≤ sizeLine) && He.relAll (vs.map (He.Dv.v K)) its.toList))=true from h)
        obtain ⟨h3,h4⟩:=He.ba h2
        exact ⟨_,its,n,q,congrArg Value.type (of_decide_eq_true h1),rfl,of_decide_eq_true h3,He.relAll_ok h4⟩
      | _=>cases h
    | _=>cases dt <;> cases h
theorem W7h {K:PySem.W.Frag} {x:Str} {vs:List Str} (h:Z9z x vs K=true) (hv:(vs.all fun z=>PyData.strOk z)=true:=by decide +kernel):∃ v,(∀ W H,AV K W H (.tup (vs.map D.str)) v)∧RelV v (.ref (He.ga K x)) :=
  ⟨.ref (He.ga K x),fun W H => .tup (.inr (W4z h)) (X2z hv),rfl⟩
def X5l (x z:Str) (K:PySem.W.Frag):Bool:=(He.Fa.str x z).ok K
def W6r (x:Str) (i:Int) (K:PySem.W.Frag):Bool:=(He.Fa.int x i).ok K
section
variable {K:PySem.W.Frag} {h:Heap} {mg:Str→Option Value}
def W9p (f:Str × Option Str) (i:Nat) (K:PySem.W.Frag):Bool:=match K.lookup (He.dflAt f i K) with
  | some ⟨.type c,_, .seq its _,_⟩=>decide (c = "tuple") && decide (its.size=0)
  | _=>false
end
structure Kept (P:Program) (w:World) (K:PySem.W.Frag) (mg:Str→Option Value) (base:Heap) (k:Nat) (f:Addr) (sp:Sp):Prop where
  ex:∃ fd ps,FnG P w K mg base k f fd ps sp∧Binds K fd ps []
  kp:PySem.W.keepIn K (.ref f)=true
structure KeptD (P:Program) (w:World) (K:PySem.W.Frag) (mg:Str→Option Value) (base:Heap) (k:Nat) (f:Addr) (sp:Sp) (dxs:List D):Prop where
  ex:∃ fd ps dvs ds,FnG P w K mg base k f fd ps sp∧Binds K fd ps ds∧Dft K dxs dvs ds
  kp:PySem.W.keepIn K (.ref f)=true
structure Here (X:Cx) (Wx:WX) (k:Nat):Prop where
  tk:Xq.Tk X Wx
  gu:X.A.guards=some []
  room:Room k X.A
section
variable [HasW] {X:Cx} {Wx:WX} {k j n:Nat} {f:Addr} {dxs:List D}
theorem Here.callE {g:List Bv.X→Sto→R Bv.X} (h:Here X Wx k) (c:Kept X.prog X.w X.K X.mg X.base j f (spE X.K n g)) (hj:j ≤ k:=by decide):X9i X Wx (.ref f) n (X5 [] g):=by
  obtain ⟨fd,ps,F,b⟩:=c.ex
  exact V0b h.tk h.gu F (h.room.mono hj) b X1n
theorem Here.callP {g:List D→PR} (h:Here X Wx k) (c:Kept X.prog X.w X.K X.mg X.base j f (spP X.K n g)) (hj:j ≤ k:=by decide):X9i X Wx (.ref f) n (X5 [] (Bv.callP g)):=by
  obtain ⟨fd,ps,F,b⟩:=c.ex
  exact V0c h.tk h.gu F (h.room.mono hj) b X1n
theorem Here.make {C:Str} {mk:Nat→R Bv.X→R Bv.X} {g:List Bv.X→Sto→R Bv.X} (hm:Mks mk) (h:Here X Wx k) (M:Mk X.K (He.ga X.K C) f) (c:Kept X.prog X.w X.K X.mg X.base j f (spE X.K (n + 1) g)) (hj:j + 1 ≤ k:=by decide):X9i X Wx (.ref (He.ga X.K C)) n (X5 [] (made C mk g)):=by
  obtain ⟨fd,ps,F,b⟩:=c.ex
  exact X9v hm h.tk h.gu M F (h.room.mono hj) b X1n
end
end Bv
namespace Bv
open PySem PySem.Spec L2
open PyProof.Rows hiding St
variable [HasW]
theorem U8 {P:Program} {w:World} {K:PySem.W.Frag} {mg:Str→Option Value} {base:Heap} {N:List Str} {qual:Str} {sc:Scope} {f:Addr} {cdv:Value} {A:Around} {outer:List Env} {s:Shared} {H:Hp} {E:XK} {k:Nat}
    (gu:A.guards=some []) (room:Room k (A.deeper (envOfC qual sc s.heap.objs.size f cdv))):Here (cxB P w K mg base N qual sc f cdv A outer s H E) (wxE E) k :=
  ⟨Xq.tk_of (E:=E) rfl rfl rfl rfl,gu,room⟩
theorem Z38 {P:Program} {w:World} {K:PySem.W.Frag} {mg:Str→Option Value} {base:Heap} {N:List Str} {qual:Str} {sc:Scope} {f:Addr} {cdv:Value} {A:Around} {outer:List Env} {s:Shared} {H:Hp} {E:XK} :
    PassesOwn (model (cxB P w K mg base N qual sc f cdv A outer s H E).prog (cxB P w K mg base N qual sc f cdv A outer s H E).w) (cxB P w K mg base N qual sc f cdv A outer s H E).A (cxB P w K mg base N qual sc f cdv A outer s H E).env (cxB P w K mg base N qual sc f cdv A outer s H E).xe :=
  passes_of (X:=cxB P w K mg base N qual sc f cdv A outer s H E) rfl
section
variable {X:Cx} {Wx:WX} {k:Nat} {pos:Pos} {a b c:Expr} {ma mb mc m:M}
theorem Here.blk (h:Here X Wx k) (s:Shared) (H:Hp) (sc:Scope) (ce:Env) (fp:List Addr):Here (X.blk s H sc ce fp) WX0 k:=⟨Xq.tk0,h.gu,h.room⟩
theorem Here.u1 (h:Here X Wx k):X.A.units + 1 < cLine:=by have:=h.room.un; omega
theorem Here.u64 (h:Here X Wx k):X.A.units + 64 < cLine:=by have:=h.room.un; omega
theorem Here.u65 (h:Here X Wx k):X.A.units + 65 < cLine:=by have:=h.room.un; omega
structure Opr (X:Cx) (s:Value→Value→Sem Value) (f:D→D→Option D):Prop where
  ex:∃ r:R2,OpR X s r∧Op2 X.K r f
theorem Here.eq (h:Here X Wx k):Opr X (compareOp .Eq) eqD:=⟨_,op_eqD h.u64,V3k⟩
theorem Here.ne (h:Here X Wx k):Opr X (compareOp .NotEq) neD:=⟨_,op_neD h.u64,V3n⟩
theorem Here.in_ (h:Here X Wx k):Opr X (compareOp .In) inD:=⟨_,W8y h.u65,V3l⟩
theorem Here.nin (h:Here X Wx k):Opr X (compareOp .NotIn) Y90:=⟨_,W5x h.u65,V1n⟩
theorem Here.lt (h:Here X Wx k):Opr X (compareOp .Lt) ltD:=⟨_,op_lt,X31⟩
theorem Here.le (h:Here X Wx k):Opr X (compareOp .LtE) leD:=⟨_,op_le,X31⟩
theorem Here.gt (h:Here X Wx k):Opr X (compareOp .Gt) gtD:=⟨_,op_gt,X31⟩
theorem Here.ge (h:Here X Wx k):Opr X (compareOp .GtE) geD:=⟨_,op_ge,X31⟩
theorem Here.is_ (h:Here X Wx k):Opr X (compareOp .Is) isD:=⟨_,op_isN,V3m⟩
theorem Here.isn (h:Here X Wx k):Opr X (compareOp .IsNot) W62:=⟨_,op_notN,V1m⟩
theorem Here.isB (h:Here X Wx k):Opr X (compareOp .Is) Bv.isB:=⟨_,op_isBl,V1l⟩
theorem Here.isnB (h:Here X Wx k):Opr X (compareOp .IsNot) Bv.isnB:=⟨_,op_notBl,W8t⟩
theorem Here.add (h:Here X Wx k):Opr X (binaryOp .Add) Z8j:=⟨_,W5w,V1k⟩
theorem Here.mul (h:Here X Wx k):Opr X (binaryOp .Mult) X7z:=⟨_,op_mul,X32⟩
theorem Here.fdiv (h:Here X Wx k):Opr X (binaryOp .FloorDiv) X1r:=⟨_,op_fdiv,X32⟩
theorem Here.mod (h:Here X Wx k):Opr X (binaryOp .Mod) X11:=⟨_,op_mod,X32⟩
theorem Here.pow (h:Here X Wx k):Opr X (binaryOp .Pow) W64:=⟨_,op_pow,X32⟩
theorem Z88 {op:Operator} {f:D→D→Option D} (o:Opr X (binaryOp op) f) (ha:ME X Wx a ma) (hb:ME X Wx b mb):ME X Wx (.BinOp a op b pos) (Y5 f ma mb):=by
  obtain ⟨r,h1,h2⟩:=o.ex
  exact V1e h1 h2 ha hb
theorem Z2r {op:CmpOp} {f:D→D→Option D} (o:Opr X (compareOp op) f) (ha:ME X Wx a ma) (hb:ME X Wx b mb) (hm:behindInMarks op b=false:=by first | exact nomark _ | (with_unfolding_all rfl)):ME X Wx (.Compare a [op] [b] pos) (Y5 f ma mb):=by
  obtain ⟨r,h1,h2⟩:=o.ex
  exact W8e h1 h2 ha hb hm
theorem Z0c {op:CmpOp} {f:D→D→Option D} (o:Opr X (compareOp op) f) (ha:ME X Wx a ma) (hb:ME X Wx b mb) (hm:behindInMarks op b=false:=by first | exact nomark _ | (with_unfolding_all rfl)):MT X Wx (.Compare a [op] [b] pos) (Z0d (Y5 f ma mb)):=by
  obtain ⟨r,h1,h2⟩:=o.ex
  exact W8l h1 h2 ha hb hm
theorem W6q {op op':CmpOp} {f g:D→D→Option D} (o:Opr X (compareOp op) f) (o':Opr X (compareOp op') g) (ha:ME X Wx a ma) (hb:ME X Wx b mb) (hc:ME X Wx c mc) (hm:lastMarks [op,op'] [b,c]=false:=by with_unfolding_all rfl) :
    MT X Wx (.Compare a [op,op'] [b,c] pos) (Z0d (Z0r f g ma mb mc)):=by
  obtain ⟨r,h1,h2⟩:=o.ex
  obtain ⟨r',h1',h2'⟩:=o'.ex
  exact W02 h1 h1' h2 h2' ha hb hc hm
theorem Z3e {x z:Str} (hg:Gl X x) (h:∃ t,X.mg x=some (.str z t)) (hz:PyData.strOk z=true:=by decide +kernel) (hd:(x == ("__debug__" : Str))=false:=by decide):ME X Wx (.Name x pos) (m_c (.str z)):=by
  obtain ⟨t,e⟩:=h
  exact Y78 hg e ⟨.str z,fun _ _ => .str hz,⟨t,rfl⟩⟩ hd
theorem W2g {x:Str} {i:Int} (hg:Gl X x) (h:∃ t,X.mg x=some (.int i t)) (hd:(x == ("__debug__" : Str))=false:=by decide):ME X Wx (.Name x pos) (m_c (.int i)):=by
  obtain ⟨t,e⟩:=h
  exact Y78 hg e ⟨.int i,fun _ _ => .int i,⟨t,rfl⟩⟩ hd
theorem Y1d {x:Str} {vs:List Str} (hg:Gl X x) (h:X.mg x=some (.ref (He.ga X.K x))) (hv:Z9z x vs X.K=true) (hz:(vs.all fun z=>PyData.strOk z)=true:=by decide +kernel) (hd:(x == ("__debug__" : Str))=false:=by decide):ME X Wx (.Name x pos) (m_c (.tup (vs.map D.str))) :=
  Y78 hg h (W7h hv hz) hd
theorem W2f {x:Str} (hg:Gl X x) (h:X.mg x=some (.ref (He.ga X.K x))) (hd:(x == ("__debug__" : Str))=false:=by decide):ME X Wx (.Name x pos) (m_c (.gl x)) :=
  Y78 hg h ⟨.ref (He.ga X.K x),fun _ _ => .gl x,rfl⟩ hd
theorem X78 {x:Str} {T:String} (hg:Gl X x) (hm:X.mg x=none) (hv:bootBuiltins x=some (.type T):=by rfl) (hn:x ≠ "__name__" := by decide) (hd:(x == ("__debug__" : Str))=false:=by decide):PE X (.Name x pos) (tC (.ty T)):=pe_bltn hg hm hv rfl hn hd
theorem V1p {x:Str} (hg:Gl X x) (h:X.mg x=some (.ref (He.ga X.K x))) (hd:(x == ("__debug__" : Str))=false:=by decide):PE X (.Name x pos) (tC (.ref (He.ga X.K x))):=pe_glob hg h rfl hd
end
end Bv
namespace Bv
open PySem PySem.Spec L2
open PyProof.Rows hiding St
variable [HasW]
def Y2z:List (String × Bool):=[("NoneType",false),("bool",false),("int",false),("str",false),("tuple",false),("list",false),("dict",false)]
section
variable {X:Cx} {Wx:WX} {k j n:Nat} {pos p:Pos} {e:Expr} {es:List Expr} {ms:MG (List Bv.X)} {C:Str} {g:List D→PR}
end
end Bv
namespace Bv
open PySem PySem.Spec L2
open PyProof.Rows hiding St
def X86 (u:PySem.W.Frag→Value) (tab:List (String × Bool)) (own:List (Str × Bool)) (K:PySem.W.Frag):Bool:=(tab.all fun p=>decide (PySem.W.kitOne K (.type p.1) (u K)=some p.2)) && own.all fun p=>W6t p.1 K && decide (PySem.W.kitOne K (.ref (He.ga K p.1)) (u K)=some p.2)
def W3k (us:List Value) (tab:List (String × Bool)) (own:List (Str × Bool)) (K:PySem.W.Frag):Bool:=(tab.all fun p=>decide (PySem.W.kitAny K (.type p.1) us=some p.2)) && own.all fun p=>W6t p.1 K && decide (PySem.W.kitAny K (.ref (He.ga K p.1)) us=some p.2)
def X4d (Ts:List String):List (String × Bool):=["NoneType", "bool", "int", "str", "tuple", "list", "dict"].map fun k=>(k,Ts.any fun T=>kitB k T == some true)
section
variable {K:PySem.W.Frag} {h:Heap} {mg:Str→Option Value}
theorem X3n {u:PySem.W.Frag→Value} {tab:List (String × Bool)} {own:List (Str × Bool)} (c:X86 u tab own K=true):IsT K (u K) tab own:=by
  obtain ⟨c1,c2⟩:=He.ba c
  refine ⟨fun k b q=>of_decide_eq_true (List.all_eq_true.mp c1 (k,b) (X7h q)),fun C b q=>?_⟩
  obtain ⟨c3,c4⟩:=He.ba (List.all_eq_true.mp c2 (C,b) (PySem.mem_of_lookup q))
  exact ⟨W27 c3,of_decide_eq_true c4⟩
theorem W4u {us:List Value} {tab:List (String × Bool)} {own:List (Str × Bool)} (c:W3k us tab own K=true):IsTs K us tab own:=by
  obtain ⟨c1,c2⟩:=He.ba c
  refine ⟨fun k b q=>of_decide_eq_true (List.all_eq_true.mp c1 (k,b) (X7h q)),fun C b q=>?_⟩
  obtain ⟨c3,c4⟩:=He.ba (List.all_eq_true.mp c2 (C,b) (PySem.mem_of_lookup q))
  exact ⟨W27 c3,of_decide_eq_true c4⟩
def Z4o (Cs:List Str) (f:Str) (K:PySem.W.Frag):Bool:=Cs.all fun C=>W19 C K && W9q C f K
theorem Z23 {Cs:List Str} {f:Str} (c:Z4o Cs f K=true):Z3y K Cs f:=fun C m=>by
  obtain ⟨c1,c2⟩:=He.ba (List.all_eq_true.mp c C m)
  exact ⟨He.cls_ok c1,He.noat_ok c2⟩
theorem U7 (X:K.In h) (G:h.Ns mainGlobals mg) {x:Str} (c:Z1o x K=true):mg x=some (.ref (He.ga K x)):=He.glo_ok X G c
theorem Z3f (X:K.In h) (G:h.Ns mainGlobals mg) {x:Str} (c:Z6n x K=true):mg x=none:=He.free_ok X G c
theorem Y5s (X:K.In h) (G:h.Ns mainGlobals mg) {x z:Str} (c:X5l x z K=true):∃ t,mg x=some (.str z t):=He.str_ok X G c
theorem X68 (X:K.In h) (G:h.Ns mainGlobals mg) {x:Str} {i:Int} (c:W6r x i K=true):∃ t,mg x=some (.int i t):=He.int_ok X G c
theorem Y8b {C:Str} (c:X87 C K=true):Mk K (He.ga K C) (He.ma K (He.ga K C) "__init__"):=He.mkr_ok c
end
section
variable {P:Program} {w:World} {K:PySem.W.Frag} {mg:Str→Option Value} {base:Heap} {k:Nat} {f:Addr} {fd:FuncData} {ps:List Str} {sp:Sp} {x qual:Str} {pa:Arguments} {bd:List Stmt} {sc:Scope} {dl:List V}
theorem Z12 (F:FunD K x qual pa bd sc [] [] f fd) (ok:FnG P w K mg base k f fd ps sp)
    (h:∀ (kV doc pm:Value) (an:Option Addr) (cdv ct:Value) (us:List Value),us.length=ps.length→bindArgs (PySem.W.fnOf x qual pa bd sc .none kV doc pm an cdv ct) ⟨us,[]⟩=pure (ps.zip us)):Kept P w K mg base k f sp:=⟨⟨fd,ps,ok,F.bindsN h⟩,F.kp⟩
theorem W76 (F:FunD K x qual pa bd sc dl [] f fd) (ok:FnG P w K mg base k f fd ps sp) (hd:dl ≠ [])
    (h:∀ (T:Addr) (kV doc pm:Value) (an:Option Addr) (cdv ct:Value) (us its:List Value),us.length=ps.length→its.length=dl.length →
      ∃ k,bindArgs (PySem.W.fnOf x qual pa bd sc (.ref T) kV doc pm an cdv ct) ⟨us,[]⟩=seqItems? (.ref T) >>= k∧k (some its.toArray)=pure (ps.zip (us++its.drop dl.length))):Kept P w K mg base k f sp:=by
  obtain ⟨ds,r,b⟩:=F.binds1 ps.length dl.length hd (by omega) h
  rw [List.drop_length] at r
  cases r
  exact ⟨⟨fd,ps,ok,b⟩,F.kp⟩
end
theorem law_sp {K:PySem.W.Frag} {g:List D→PR} (hg:∀ ns:List Int,ns.length ≤ 63→g [.scr ns] = .ok (.bl true)) (H:Hp) (a:Addr) (ns:List Int) (hl:ns.length ≤ 63) (only:Only H) (hS:SqL K H a (ns.map V.int)):spP K 1 g [.ref a] H (fun v _=>v = .bl true) fun _ _ _=>False:=by
  refine ⟨rfl,fun _=>False,[.scr ns],fun _ z=>z.elim, .cons (.scr ?_) .nil,?_⟩
  · rcases hS with h | h
    · exact .inl ⟨fun z=>z,h⟩
    · exact .inr h
  · rw [hg ns hl]
    intro H' v k a
    cases a
    rfl
end Bv
namespace Bv
open PySem PySem.Spec L2
open PyProof.Rows hiding St
variable [HasW]
def Z6m (acc:List Str) (x:Str):List Str:=if acc.contains x then acc else acc++[x]
def Z7s (xs:List Str):List Str:=xs.foldl Z6m []
theorem X0n {xs:List Str} {i:Nat} (h:i < xs.length):Z7s (xs.take (i + 1))=Z6m (Z7s (xs.take i)) (xs.getD i Str.empty):=by
  unfold Z7s
  rw [List.take_add_one,List.getElem?_eq_getElem h,Option.toList_some,List.foldl_append]
  simp [List.getD_eq_getElem?_getD,h]
theorem X0l (acc:List Str) (x k:Str):(Z6m acc x).contains k=(acc.contains k || decide (k=x)):=by
  unfold Z6m
  by_cases h:acc.contains x=true
  · rw [if_pos h]
    by_cases e:k=x
    · rw [e,h]; rfl
    · simp [e]
  · rw [if_neg h]
    simp [List.contains_append,Bool.or_comm,eq_comm]
theorem Y7b (acc:List Str) (x:Str):(Z6m acc x).length=if acc.contains x then acc.length else acc.length + 1:=by
  unfold Z6m
  split <;> simp
theorem X2h:∀ (xs acc:List Str),(xs.foldl Z6m acc).length ≤ acc.length + xs.length
  | [],acc=>by simp
  | x :: r,acc=>by
    have h:=X2h r (Z6m acc x)
    have h2:=Y7b acc x
    simp only [List.foldl_cons,List.length_cons]
    split at h2 <;> omega
section
variable {prog:Program} {w:World} {A:Around} {R:Result→Shared→Prop} {it:Addr} {fp wr:List Addr} {G:Array GenState→Array GenState→Prop} {n:Nat} {P:Nat→Value→Prop} {St:Nat→Shared→Prop}
theorem fill (W:WalksS prog w A.in1 it fp wr G n P St) (S:Addr) (apart:S ∉ fp) (xs:List Str) (many:xs.length=n) (few:xs.length + 1 < scanBound) (says:∀ i v,P i v→∃ t,v = .str (xs.getD i Str.empty) t) :
    ∀ (k i:Nat) (s:Shared),n - i=k→i ≤ n→St i s→s.heap.SetOf (PySem.strKind prog w) S (fun k=>(Z7s (xs.take i)).contains k) (Z7s (xs.take i)).length →
      (∀ s',Moved (S :: wr) G s s'→s'.heap.SetOf (PySem.strKind prog w) S (fun k=>(Z7s (xs.take n)).contains k) (Z7s (xs.take n)).length→R (.ok (.ret .none)) s') →
      codeAny (model prog w) A (.builtin "set.update.loop" ⟨[.ref S, .ref it],[]⟩) R s:=by
  have out:S ∉ wr:=fun z=>apart (W.sub _ z)
  have more:∀ b ∈ wr,b ∈ S :: wr:=fun b z=>List.mem_cons_of_mem _ z
  have stay:∀ {i:Nat} {s s':Shared},Moved wr G s s'→s.heap.SetOf (PySem.strKind prog w) S (fun k=>(Z7s (xs.take i)).contains k) (Z7s (xs.take i)).length→s'.heap.SetOf (PySem.strKind prog w) S (fun k=>(Z7s (xs.take i)).contains k) (Z7s (xs.take i)).length :=
    fun mv ⟨o,es,ep,t,q,rest⟩=>⟨o,es,ep,t,mv.heap S _ out q,rest⟩
  intro k
  induction k with
  | zero =>
    intro i s e1 e2 st set fin
    obtain rfl:i=n:=by omega
    refine (codeAny_builtin PyProof.Rows.F.entry_set_update_loop ?_)
    rw [(Around.under_plainId PyProof.Rows.F.plain_set_update_loop _)]
    show wpAny _ A.in1 (pyNext (.ref it) >>= _) _ _ s
    refine wpAny_bind (W.done s _ _ st fun s' mv=>?_)
    exact wpAny_pure (fin s' (mv.mono more) (stay mv set))
  | succ k ih =>
    intro i s e1 e2 st set fin
    have lt:i < n:=by omega
    refine (codeAny_builtin PyProof.Rows.F.entry_set_update_loop ?_)
    rw [(Around.under_plainId PyProof.Rows.F.plain_set_update_loop _)]
    show wpAny _ A.in1 (pyNext (.ref it) >>= _) _ _ s
    refine wpAny_bind (W.item i s _ _ lt st fun v s' p st' mv=>?_)
    obtain ⟨t,rfl⟩:=says i v p
    have set':=stay mv set
    have room:(Z7s (xs.take i)).length + 1 < scanBound:=by
      have h:=X2h (xs.take i) []
      have h2:=List.length_take_le i xs
      unfold Z7s at *
      simp only [List.length_nil,Nat.zero_add] at h
      omega
    show wpAny _ A.in1 (holding [Value.str (xs.getD i Str.empty) t] (setAdd S (.str (xs.getD i Str.empty) t)) >>= _) _ _ s'
    refine (wpAny_bind (wpAny_holding ?_))
    unfold setAdd
    refine (wpAny_holding (wpAny_bind ((PySem.strKind prog w).pyHash (k:=xs.getD i Str.empty) (strKind_is _ _ _ _) ?_)))
    refine wpAny_setAddHashed_of (knd:=PySem.strKind prog w) (s:={ s' with toks:=s'.toks + 1 }) (strKind_is _ _ _ _) rfl set' room fun h' but set2=>?_
    have set3:h'.SetOf (PySem.strKind prog w) S (fun k=>(Z7s (xs.take (i + 1))).contains k) (Z7s (xs.take (i + 1))).length:=SetOf_congr set2 (fun k=>by rw [X0n (by omega),X0l]) (by rw [X0n (by omega),Y7b])
    refine wpAny_pure ⟨plainId_quiet PyProof.Rows.F.plain_set_update_loop _,ih (i + 1) _ (by omega) lt (W.frame _ s' _ _ st' (Nat.le_succ _) fun b z o q=>?_) set3 fun s2 mv2 q2=>?_⟩
    · rw [but.2 b fun y=>apart (by rw [← y]; exact z)]; exact q
    · refine fin s2 (Moved.trans W.gtrans ((mv.mono more).then_heap (Nat.le_succ _) fun b o z q=>?_) mv2) q2
      rw [but.2 b fun y=>z (by rw [y]; exact List.mem_cons_self)]; exact q
end
section
variable {prog:Program} {w:World} {A:Around} {E:Value→Shared→Prop} {s:Shared}
set_option maxHeartbeats 3200000 in
theorem W13 {l:Addr} {items:Array Value} {xs:List Str} {Q:Value→Shared→Prop} (calm:A.handled=none) (at_:s.heap.IsList l items) (are:StrsAre items.toList xs) (few:xs.length + 1 < scanBound)
    (fin:∀ (h':Heap) (tk:Nat),h'.SetOf (PySem.strKind prog w) s.heap.objs.size (fun k=>(Z7s xs).contains k) (Z7s xs).length→(∀ b o,b < s.heap.objs.size→s.heap.get? b=some o→h'.get? b=some o)→Q (.ref s.heap.objs.size) { s with heap:=h',toks:=tk }) :
    wpAny (model prog w) A (call (.type "set") [.ref l]) Q E s:=by
  obtain ⟨c,tl,known⟩:=PySem.F.called_set.mro
  have mk:=PySem.F.called_set.made
  have below:=PySem.F.called_set.sub
  have no1:=PySem.F.called_set.notType
  have may:=PySem.F.called_set.canCreate
  have chk:=PySem.F.typeCall_set_1 (.ref l)
  have slen:xs.length=items.size:=by rw [← StrsAre.len_eq are,Array.length_toList]
  refine wpAny_call (codeAny_of_tree ?_)
  show wpAny _ _ (callAny (.type "set") _) _ E s
  refine (wpAny_pure ⟨Code.quiet_builtin _ (by decide +kernel),(codeAny_builtin PySem.F.entry_type_call ?_)⟩)
  rw [(Around.under_plain (weight_type_call_type "set" [.ref l] []) rfl)]
  (repeat (any_goals (first | assumption | wp_step)))
  let new (led:Bool):Heap:=s.heap.push { cls := .type "set",dict:=none,data := .set #[] 0 (.fresh 0 0 led) }
  refine codeAny_mono (code_set_new_1 (.ref l) (E:=E) (Q₁:=fun obj s1=>∃ led:Bool,obj = .ref s.heap.objs.size∧s1={ s with heap:=new led }) fun led=>⟨led,rfl,rfl⟩) fun y s1 z=>?_
  match y,z with
  | .error e,z=>exact z
  | .ok (.ret obj),z =>
    obtain ⟨led,rfl,rfl⟩:=z
    have there:(new led).get? s.heap.objs.size=some { cls := .type "set",dict:=none,data := .set #[] 0 (.fresh 0 0 led) }:=Heap.get?_push_size _ rfl
    have isSet:Shared.TypeIs { s with heap:=new led } (.ref s.heap.objs.size) "set" := ⟨_,there,rfl⟩
    have look:=PySem.F.called_set.init.lookup
    have bound:=PySem.F.called_set.init.bind (.ref s.heap.objs.size)
    (repeat (any_goals (first | assumption | wp_step)))
    refine codeAny_mono (codeAny_call_builtin (R:=wants (fun r s2=>r = .none∧∃ h' tk,s2={ s with heap:=h',toks:=tk }∧h'.SetOf (PySem.strKind prog w) s.heap.objs.size (fun k=>(Z7s xs).contains k) (Z7s xs).length∧(∀ b o,b < s.heap.objs.size→s.heap.get? b=some o→h'.get? b=some o)) E)
      PySem.F.called_set.init.plain PySem.F.entry_set_init (check_set_init_1 isSet ?_)) fun y2 s2 z2=>?_
    · obtain ⟨ob,hob,cl,n,dt⟩:=at_
      obtain ⟨obc,obd,obt,obs⟩:=ob
      simp only at cl dt
      subst cl dt
      have ob2:(new led).get? l=some { cls := .type "list",dict:=obd,data := .seq items n,slots:=obs }:=Heap.get?_push_of_some _ hob
      have no2:=PySem.F.sub_list_set
      have no3:=PySem.F.sub_list_frozenset
      have no4:(Value.type "list" == Value.type "dict")=false:=by decide
      have isL:(new led).IsList l items:=⟨_,ob2,rfl,n,rfl⟩
      unfold Builtin.«set.__init__» noKeywords Builtin.Frozenset.updateFrom
      generalize hp:pyIter=it
      wp_walk
      subst hp
      refine wpAny_pyIter_list isL ?_
      refine (wpAny_bind (wpAny_runValue ?_))
      have lt:l < s.heap.objs.size:=Heap.lt_size hob
      have sz:(new led).objs.size=s.heap.objs.size + 1:=Heap.size_push ..
      have off1:l ≠ (new led).objs.size:=by rw [sz]; exact Nat.ne_of_lt (Nat.lt_succ_of_lt lt)
      have off2:s.heap.objs.size ∉ [(new led).objs.size,l]:=by
        simp only [List.mem_cons,List.not_mem_nil,or_false,not_or]
        exact ⟨by rw [sz]; exact Nat.ne_of_lt (Nat.lt_succ_self _),Nat.ne_of_gt lt⟩
      refine fill ((Walks.list (show A.in1.in1.in1.handled=none by simp [calm]) _ l off1 items).toS) s.heap.objs.size off2 xs slen few (fun i v q=>SS.strs_at are i v (by rw [Array.getElem?_toList]; exact q)) (items.size - 0) 0 _ (by omega) (Nat.zero_le _) ⟨⟨_,Heap.get?_push_size _ rfl,rfl,rfl⟩,isL.push _⟩ ?_ ?_
      · have there2:((new led).push { cls := .type "list_iterator",data := .fields #[.ref l, .int 0 0] }).get? s.heap.objs.size=some { cls := .type "set",dict:=none,data := .set #[] 0 (.fresh 0 0 led) }:=Heap.get?_push_of_some _ there
        exact SetOf_congr ((setObjOf_fresh (knd:=PySem.strKind prog w) led).setOf there2 (by unfold scanBound; omega)) (fun _=>rfl) rfl
      · intro s3 mv set3
        obtain ⟨h3,g3,d3,t3,o3⟩:=s3
        obtain rfl:g3=s.gens:=mv.gens
        obtain rfl:d3=s.drawn:=mv.drawn
        obtain rfl:o3=s.os:=mv.os
        show (wpAny _ _ _ _ _ _)
        refine (wpAny_pure ?_)
        show (wpAny _ _ (ret Value.none) _ _ _)
        refine wpAny_pure ⟨rfl,h3,t3,rfl,by rw [← slen,List.take_length] at set3; exact set3,fun b o hb q=>?_⟩
        exact mv.heap b o (by simp only [List.mem_cons,List.not_mem_nil,or_false,not_or]; exact ⟨Nat.ne_of_lt hb,by rw [sz]; exact Nat.ne_of_lt (Nat.lt_succ_of_lt hb)⟩) (Heap.get?_push_of_some _ (Heap.get?_push_of_some _ q))
    · match y2,z2 with
      | .error e,z2=>exact z2
      | .ok (.ret r),z2 =>
        obtain ⟨rfl,h3,t3,rfl,set3,keep3⟩:=z2
        (repeat (any_goals (first | assumption | wp_step)))
        exact fin _ _ set3 keep3
      | .ok .next,z2=>exact z2.elim
      | .ok .brk,z2=>exact z2.elim
      | .ok .cont,z2=>exact z2.elim
  | .ok .next,z=>exact z.elim
  | .ok .brk,z=>exact z.elim
  | .ok .cont,z=>exact z.elim
end
end Bv
namespace Bv
open PySem PySem.Spec L2
open PyProof.Rows hiding St
variable [HasW]
section
variable {prog:Program} {w:World} {A:Around} {E:Value→Shared→Prop} {s:Shared}
set_option maxHeartbeats 3200000 in
theorem X8r {l:Addr} {items:Array Value} {xs:List Str} {Q:Value→Shared→Prop} (calm:A.handled=none) (at_:s.heap.IsTuple l items) (are:StrsAre items.toList xs) (few:xs.length + 1 < scanBound)
    (fin:∀ (h':Heap) (tk:Nat),h'.SetOf (PySem.strKind prog w) s.heap.objs.size (fun k=>(Z7s xs).contains k) (Z7s xs).length→(∀ b o,b < s.heap.objs.size→s.heap.get? b=some o→h'.get? b=some o)→Q (.ref s.heap.objs.size) { s with heap:=h',toks:=tk }) :
    wpAny (model prog w) A (call (.type "set") [.ref l]) Q E s:=by
  obtain ⟨c,tl,known⟩:=PySem.F.called_set.mro
  have mk:=PySem.F.called_set.made
  have below:=PySem.F.called_set.sub
  have no1:=PySem.F.called_set.notType
  have may:=PySem.F.called_set.canCreate
  have chk:=PySem.F.typeCall_set_1 (.ref l)
  have slen:xs.length=items.size:=by rw [← StrsAre.len_eq are,Array.length_toList]
  refine wpAny_call (codeAny_of_tree ?_)
  show wpAny _ _ (callAny (.type "set") _) _ E s
  refine (wpAny_pure ⟨Code.quiet_builtin _ (by decide +kernel),(codeAny_builtin PySem.F.entry_type_call ?_)⟩)
  rw [(Around.under_plain (weight_type_call_type "set" [.ref l] []) rfl)]
  (repeat (any_goals (first | assumption | wp_step)))
  let new (led:Bool):Heap:=s.heap.push { cls := .type "set",dict:=none,data := .set #[] 0 (.fresh 0 0 led) }
  refine codeAny_mono (code_set_new_1 (.ref l) (E:=E) (Q₁:=fun obj s1=>∃ led:Bool,obj = .ref s.heap.objs.size∧s1={ s with heap:=new led }) fun led=>⟨led,rfl,rfl⟩) fun y s1 z=>?_
  match y,z with
  | .error e,z=>exact z
  | .ok (.ret obj),z =>
    obtain ⟨led,rfl,rfl⟩:=z
    have there:(new led).get? s.heap.objs.size=some { cls := .type "set",dict:=none,data := .set #[] 0 (.fresh 0 0 led) }:=Heap.get?_push_size _ rfl
    have isSet:Shared.TypeIs { s with heap:=new led } (.ref s.heap.objs.size) "set" := ⟨_,there,rfl⟩
    have look:=PySem.F.called_set.init.lookup
    have bound:=PySem.F.called_set.init.bind (.ref s.heap.objs.size)
    (repeat (any_goals (first | assumption | wp_step)))
    refine codeAny_mono (codeAny_call_builtin (R:=wants (fun r s2=>r = .none∧∃ h' tk,s2={ s with heap:=h',toks:=tk }∧h'.SetOf (PySem.strKind prog w) s.heap.objs.size (fun k=>(Z7s xs).contains k) (Z7s xs).length∧(∀ b o,b < s.heap.objs.size→s.heap.get? b=some o→h'.get? b=some o)) E)
      PySem.F.called_set.init.plain PySem.F.entry_set_init (check_set_init_1 isSet ?_)) fun y2 s2 z2=>?_
    · obtain ⟨ob,hob,cl,n,dt⟩:=at_
      obtain ⟨obc,obd,obt,obs⟩:=ob
      simp only at cl dt
      subst cl dt
      have ob2:(new led).get? l=some { cls := .type "tuple",dict:=obd,data := .seq items n,slots:=obs }:=Heap.get?_push_of_some _ hob
      have no2:=PySem.F.sub_tuple_set
      have no3:=PySem.F.sub_tuple_frozenset
      have no4:(Value.type "tuple" == Value.type "dict")=false:=by decide
      have isL:(new led).IsTuple l items:=⟨_,ob2,rfl,n,rfl⟩
      unfold Builtin.«set.__init__» noKeywords Builtin.Frozenset.updateFrom
      generalize hp:pyIter=it
      wp_walk
      subst hp
      refine wpAny_pyIter_tuple isL ?_
      refine (wpAny_bind (wpAny_runValue ?_))
      have lt:l < s.heap.objs.size:=Heap.lt_size hob
      have sz:(new led).objs.size=s.heap.objs.size + 1:=Heap.size_push ..
      have off1:l ≠ (new led).objs.size:=by rw [sz]; exact Nat.ne_of_lt (Nat.lt_succ_of_lt lt)
      have off2:s.heap.objs.size ∉ [(new led).objs.size,l]:=by
        simp only [List.mem_cons,List.not_mem_nil,or_false,not_or]
        exact ⟨by rw [sz]; exact Nat.ne_of_lt (Nat.lt_succ_self _),Nat.ne_of_gt lt⟩
      refine fill ((Walks.tuple (show A.in1.in1.in1.handled=none by simp [calm]) _ l off1 items).toS) s.heap.objs.size off2 xs slen few (fun i v q=>SS.strs_at are i v (by rw [Array.getElem?_toList]; exact q)) (items.size - 0) 0 _ (by omega) (Nat.zero_le _) ⟨⟨_,Heap.get?_push_size _ rfl,rfl,rfl⟩,isL.push _⟩ ?_ ?_
      · have there2:((new led).push { cls := .type "tuple_iterator",data := .fields #[.ref l, .int 0 0] }).get? s.heap.objs.size=some { cls := .type "set",dict:=none,data := .set #[] 0 (.fresh 0 0 led) }:=Heap.get?_push_of_some _ there
        exact SetOf_congr ((setObjOf_fresh (knd:=PySem.strKind prog w) led).setOf there2 (by unfold scanBound; omega)) (fun _=>rfl) rfl
      · intro s3 mv set3
        obtain ⟨h3,g3,d3,t3,o3⟩:=s3
        obtain rfl:g3=s.gens:=mv.gens
        obtain rfl:d3=s.drawn:=mv.drawn
        obtain rfl:o3=s.os:=mv.os
        show (wpAny _ _ _ _ _ _)
        refine (wpAny_pure ?_)
        show (wpAny _ _ (ret Value.none) _ _ _)
        refine wpAny_pure ⟨rfl,h3,t3,rfl,by rw [← slen,List.take_length] at set3; exact set3,fun b o hb q=>?_⟩
        exact mv.heap b o (by simp only [List.mem_cons,List.not_mem_nil,or_false,not_or]; exact ⟨Nat.ne_of_lt hb,by rw [sz]; exact Nat.ne_of_lt (Nat.lt_succ_of_lt hb)⟩) (Heap.get?_push_of_some _ (Heap.get?_push_of_some _ q))
    · match y2,z2 with
      | .error e,z2=>exact z2
      | .ok (.ret r),z2 =>
        obtain ⟨rfl,h3,t3,rfl,set3,keep3⟩:=z2
        (repeat (any_goals (first | assumption | wp_step)))
        exact fin _ _ set3 keep3
      | .ok .next,z2=>exact z2.elim
      | .ok .brk,z2=>exact z2.elim
      | .ok .cont,z2=>exact z2.elim
  | .ok .next,z=>exact z.elim
  | .ok .brk,z=>exact z.elim
  | .ok .cont,z=>exact z.elim
end
def Y1h:List Bv.X→Sto→R Bv.X
  | [x],S=>(match (items S x).bind strs? with
    | some xs=>if decide (xs.length + 1 < scanBound) then .ok (.d (.int (Z7s xs).length)) S else .bad
    | none => .bad)
  | _,_ => .bad
def Y1m (m:M):M:=fun e S=>(m e S).bind fun x S1=>Y1h [x] S1
section
variable {X:Cx} {Wx:WX} {p p2 q pos:Pos} {a:Expr} {m:M}
theorem X7o (hc:X.calm=true) (hg:Gl X "len") (hm:X.mg "len" = none) (hg2:Gl X "set") (hm2:X.mg "set" = none) (ha:ME X Wx a m) (na:starEach [a] X.env=(false,eval a X.env) :: starEach [] X.env:=by rfl) :
    ME X Wx (.Call (.Name "len" p) [.Call (.Name "set" p2) [a] [] q] [] pos) (Y1m m):=⟨fun pins s σ H Q I ⟨Z,ρ,e,S,st,ev,w⟩=>by
  refine Call_ (ld_blt I hg hm boot_len (callWith_builtin1 (args_cons (Call_ (ld_blt I hg2 hm2 boot_set (callWith_type1 (args_cons (thn (ha.run pins s σ H _ I (V2 (R':=fun v H1=>∃ (b:Addr) (xs:List Str),v = .ref b∧(SqT X.K H1 b (xs.map V.str) ∨ SqL X.K H1 b (xs.map V.str))∧xs.length + 1 < scanBound∧Q (.int (Z7s xs).length) H1) st ev w
    fun ρ1 H1 v x S1 s1 g1 ev1 a1 p1=>?_)) fun v s1 ⟨x,H1,I1,r1,b,xs,ex,hq,few,q1⟩=>args_nil ?_) na) na rfl))) rfl) rfl rfl))
  · have p1:V7 (AX X.K) X.K Z ρ1 H1 Wx σ Q (match (items S1 x).bind strs? with
      | some xs=>if decide (xs.length + 1 < scanBound) then .ok (.d (.int (Z7s xs).length)) S1 else .bad
      | none => .bad):=p1
    cases y:(items S1 x).bind strs? with
    | none=>rw [y] at p1; exact p1.elim
    | some xs =>
      rw [y] at p1
      have p1:V7 (AX X.K) X.K Z ρ1 H1 Wx σ Q (if decide (xs.length + 1 < scanBound) then .ok (.d (.int (Z7s xs).length)) S1 else .bad):=p1
      split at p1
      · rename_i few
        obtain ⟨ys,h1,h2⟩:=Option.bind_eq_some_iff.mp y
        obtain ⟨b,us,rfl,hq,hp⟩:=a1.items s1 h1
        obtain ⟨rfl,_⟩:=Y81 hp h2
        exact ⟨b,xs,rfl,hq,of_decide_eq_true few,V7.ret0 p1 s1 (.d (.int _))⟩
      · exact p1.elim
  · subst ex
    cases r1
    have fin:∀ (h':Heap) (tk:Nat),h'.SetOf (PySem.strKind X.prog X.w) s1.heap.objs.size (fun k=>(Z7s xs).contains k) (Z7s xs).length→(∀ b o,b < s1.heap.objs.size→s1.heap.get? b=some o→h'.get? b=some o) →
        wpAny (model X.prog X.w) X.A (spliced (backTo pos (starEach [] X.env))) (fun vs s2=>wpAny (model X.prog X.w) X.A (call (.builtin "len") (Value.ref s1.heap.objs.size :: vs)) (EP X pins σ Q) X.xe s2) X.xe { s1 with heap:=h',toks:=tk }:=fun h' tk set keep=>by
      refine args_nil ?_
      obtain ⟨o,es,ep,t,ho,hex,hd,_,_,_,hf,hn⟩:=set
      have I2:Inv X pins σ H1 { s1 with heap:=h',toks:=tk }:=I1.kept fun b o e=>keep b o (Heap.lt_size e) e
      have le:=X2h xs []
      refine call_len_set ho hex hd hf (by rw [hn]; unfold Z7s scanBound at *; simp only [List.length_nil,Nat.zero_add] at le; omega) ⟨.int (Z7s xs).length,H1,I2.tok _,⟨_,by rw [hn]⟩,q1⟩
    rcases hq with hq | hq
    · obtain ⟨its,r,pl,_⟩:=I1.tuple hq
      exact X8r (I1.ok.hd hc) pl (by simpa using strsAre_of r) few fun h' tk set keep=>fin h' tk set keep
    · obtain ⟨its,r,pl,_⟩:=I1.list hq
      exact W13 (I1.ok.hd hc) pl.isList (by simpa using strsAre_of r) few fun h' tk set keep=>fin h' tk set keep⟩
end
end Bv
namespace Bv
open PySem PySem.Spec L2
open PyProof.Rows hiding St
structure ClsM (K:PySem.W.Frag) (C m:Str):Prop where
  rd:ClX.CRead K (He.ga K C) (.type "type")
  me:ClX.CMet K (He.ga K C) (.type "type") m (He.ma K (He.ga K C) m) (X9x C m K)
def V18 (C m:Str) (K:PySem.W.Frag):Bool:=PySem.W.readsIn K (He.ga K C) (.type "type") && (He.eqO (PySem.W.specialIn K (.ref (He.ga K C)) "__getattribute__") (some (some (.builtin "type.__getattribute__"))) &&
  ((match PySem.W.findCls K (.ref (He.ga K C)) (.type "type") m with
    | some (.get (.builtin id) (.ref p) .none (.ref c))=>decide (id = "classmethod.__get__") && (decide (p=He.ma K (He.ga K C) m) && decide (c=He.ga K C))
    | _=>false) && ((match PySem.W.recIn K (He.ma K (He.ga K C) m) "classmethod" with
    | some (.ref _ :: _)=>true
    | _=>false) && PySem.W.fnIn K (X9x C m K))))
theorem W7m {C m:Str} {K:PySem.W.Frag} (h:V18 C m K=true):ClsM K C m:=by
  obtain ⟨c1,h⟩:=He.ba h
  obtain ⟨c2,h⟩:=He.ba h
  obtain ⟨c3,h⟩:=He.ba h
  obtain ⟨c4,c5⟩:=He.ba h
  refine ⟨⟨c1,He.eqO_ok c2⟩,⟨?_,?_,c5⟩⟩
  · split at c3
    · rename_i id p c q
      obtain ⟨e1,e2⟩:=He.ba c3
      obtain ⟨e2,e3⟩:=He.ba e2
      obtain rfl:=of_decide_eq_true e1
      obtain rfl:=of_decide_eq_true e2
      obtain rfl:=of_decide_eq_true e3
      exact q
    · cases c3
  · split at c4
    · rename_i g rest q
      refine ⟨rest,?_⟩
      have e:X9x C m K=g:=by unfold X9x; rw [q]
      rw [e]; exact q
    · cases c4
def Z9c (C:Str) (g:List Bv.X→Sto→R Bv.X) (mo:M) (ms:MG (List Bv.X)):M:=fun e S=>(mo e S).bind fun x S1=>match x with
  | .d (.gl D)=>if decide (D=C) then (ms e S1).bind fun xs S2=>g (x :: xs) S2 else .bad
  | _ => .bad
section
variable [HasW] {X:Cx} {Wx:WX} {n:Nat} {x:Str} {p pos apos:Pos} {e o:Expr} {es:List Expr} {ms:MG (List Bv.X)} {mo m:M} {g:List Bv.X→Sto→R Bv.X} {C mth:Str} {pl:Sem Bool}
theorem W8d (cc:X9i X Wx (.ref (X9x C mth X.K)) n g) (k:ClsM X.K C mth) (ho:ME X Wx o mo) (ha:MA X Wx (e :: es) ms) (hst:starEach (e :: es) X.env=(false,eval e X.env) :: starEach es X.env:=by rfl) (hpl:(backTo pos (starEach es X.env)).any (·.1)=false:=by rfl)
    (ht:eval (.Call (.Attribute o mth apos) (e :: es) [] pos) X.env=(do
      let ov ← eval o X.env
      standAt apos.atName
      let (f,first) ← holding [ov] (getMethod ov mth pl)
      callWith pos f first (backTo pos (starEach (e :: es) X.env)) (backToKw pos (keywordEach [] X.env))):=by rfl):ME X Wx (.Call (.Attribute o mth apos) (e :: es) [] pos) (Z9c C (Y9 n g) mo ms):=⟨fun pins s σ H Q I ⟨Z,ρ,e,S,st,ev,q⟩=>by
  refine PySem.W.methodCall_KW (pl:=pl) (thn (ho.run pins s σ H _ I (V2 (R':=fun v H1=>v = .ref (He.ga X.K C)∧∃ (ρ1:List Addr) (S1:Sto),Sta X.K Z ρ1 S1 H1∧EvOk X.K (Wn Z ρ1) ρ1 H1 e σ∧V7 (AX X.K) X.K Z ρ1 H1 Wx σ Q ((ms e S1).bind fun xs S2=>Y9 n g (.d (.gl C) :: xs) S2)) st ev q
    fun ρ1 H1 v y S1 s1 g1 ev1 a1 p1=>by
      cases a1 with
      | r _=>exact p1.elim
      | d a =>
        cases a with
        | gl D =>
          have p2:V7 (AX X.K) X.K Z ρ1 H1 Wx σ Q (if decide (D=C) then (ms e S1).bind fun xs S2=>Y9 n g (.d (.gl D) :: xs) S2 else .bad):=p1
          clear p1
          by_cases hd:D=C
          · rw [if_pos (decide_eq_true hd)] at p2
            subst hd
            exact ⟨rfl,ρ1,S1,s1,ev1,p2⟩
          · rw [if_neg (by simpa using hd)] at p2; exact p2.elim
        | _=>exact p1.elim)) fun u s1 ⟨x,H1,I1,rx,ex,ρ1,S1,st1,ev1,p1⟩=>?_) ht
  subst ex
  obtain rfl:u=Value.ref (He.ga X.K C):=rx
  refine ClX.getmethcm_ok I1 k.rd k.me fun s2 I2=>?_
  refine ClX.callwith_cm I2 (ClX.base_none I1 (Nat.le_refl _)) k.me.fi (thn (ha.run pos _ s2 σ H1 _ I2 (V2 (R':=fun vs H2=>∃ (ρ2:List Addr) (xs:List Bv.X) (S2:Sto),Sta X.K Z ρ2 S2 H2∧AXs X.K (Wn Z ρ2) ρ2 H2 xs vs∧V7 (AX X.K) X.K Z ρ2 H2 Wx σ Q (Y9 n g (.d (.gl C) :: xs) S2)) st1 ev1 p1
    fun ρ2 H2 v xs S2 s2 g2 ev2 a2 p2=>⟨ρ2,xs,S2,s2,a2,p2⟩)) fun us s3 ⟨vs,H2,I3,rv,ρ2,xs,S2,st2,a2,p2⟩=>⟨⟨ClX.pin_at I3,I3.kIn⟩,?_⟩) hst hpl
  obtain ⟨hl,p3⟩:=ari (rel:=V7 (AX X.K) X.K Z ρ2 H2 Wx σ Q) (fun z=>z) p2
  have aa:AXs X.K (Wn Z ρ2) ρ2 H2 (.d (.gl C) :: xs) (V.ref (He.ga X.K C) :: vs) := .cons (.d (.gl C)) a2
  have z:=wpAny_call (PySem.W.method_call (ClX.pin_at I3) (cc _ s3 σ H2 Q (.ref (He.ga X.K C) :: us) (.ref (He.ga X.K C) :: vs) Z ρ2 _ S2 I3 (.cons rfl rv) st2 aa (by rw [← Paired.length aa]; exact hl) p3))
  exact thn z fun _ _ y=>ClX.unpinE y⟩
def Z9b (i:Nat) (C:Str) (g:List Bv.X→Sto→R Bv.X) (ms:MG (List Bv.X)):M:=fun e S=>(Z3 i e S).bind fun x S1=>match x with
  | .d (.gl D)=>if decide (D=C) then (ms e S1).bind g else .bad
  | _ => .bad
theorem X3v (i:Nat) (c:X9i X Wx (.ref (He.ga X.K C)) n g) (hk:PySem.W.keepIn X.K (.ref (He.ga X.K C))=true) (ha:MA X Wx (e :: es) ms) (hN:X.N[i]?=some x:=by rfl) (hv:Vis X.env.scope x:=by first | exact Or.inl rfl | exact Or.inr (Or.inl rfl) | exact Or.inr (Or.inr rfl))
    (hdb:(x == ("__debug__" : Str))=false:=by decide) (hcd:(x == ("__classdict__" : Str))=false:=by decide) (he:starEach (e :: es) X.env=(false,eval e X.env) :: starEach es X.env:=by rfl) (hpl:(backTo pos (starEach es X.env)).any (·.1)=false:=by rfl) :
    ME X Wx (.Call (.Name x p) (e :: es) [] pos) (Z9b i C (Y9 n g) ms):=⟨fun pins s σ H Q I ⟨Z,ρ,e,S,st,ev,q⟩=>by
  refine wpAny_Call_Name_kw (thn ((Z4 (Wx:=Wx) (pos:=p) i hN hv hdb hcd).run pins s σ H _ I (V2 (R':=fun v H1=>v = .ref (He.ga X.K C)∧∃ (ρ1:List Addr) (S1:Sto),Sta X.K Z ρ1 S1 H1∧EvOk X.K (Wn Z ρ1) ρ1 H1 e σ∧V7 (AX X.K) X.K Z ρ1 H1 Wx σ Q ((ms e S1).bind (Y9 n g))) st ev q
    fun ρ1 H1 v y S1 s1 g1 ev1 a1 p1=>by
      cases a1 with
      | r _=>exact p1.elim
      | d a =>
        cases a with
        | gl D =>
          have p2:V7 (AX X.K) X.K Z ρ1 H1 Wx σ Q (if decide (D=C) then (ms e S1).bind (Y9 n g) else .bad):=p1
          clear p1
          by_cases hd:D=C
          · rw [if_pos (decide_eq_true hd)] at p2
            subst hd
            exact ⟨rfl,ρ1,S1,s1,ev1,p2⟩
          · rw [if_neg (by simpa using hd)] at p2; exact p2.elim
        | _=>exact p1.elim)) fun u s1 ⟨x,H1,I1,rx,ex,ρ1,S1,st1,ev1,p1⟩=>?_)
  subst ex
  obtain rfl:u=Value.ref (He.ga X.K C):=rx
  refine PySem.W.callWith_K (h₀:=X.base) I1.ok.mod.kin hk (thn (ha.run pos pins s1 σ H1 _ I1 (V2 (R':=fun vs H2=>∃ (ρ2:List Addr) (xs:List Bv.X) (S2:Sto),Sta X.K Z ρ2 S2 H2∧AXs X.K (Wn Z ρ2) ρ2 H2 xs vs∧V7 (AX X.K) X.K Z ρ2 H2 Wx σ Q (Y9 n g xs S2)) st1 ev1 p1
    fun ρ2 H2 v xs S2 s2 g2 ev2 a2 p2=>⟨ρ2,xs,S2,s2,a2,p2⟩)) fun us s2 ⟨vs,H2,I2,r,ρ2,xs,S2,st2,a2,p2⟩=>⟨I2.kIn,?_⟩) he hpl
  obtain ⟨hl,p3⟩:=ari (rel:=V7 (AX X.K) X.K Z ρ2 H2 Wx σ Q) (fun z=>z) p2
  exact wpAny_call (c pins s2 σ H2 Q us vs Z ρ2 xs S2 I2 r st2 a2 (by rw [← Paired.length a2]; exact hl) p3)⟩
def X9j (m:MS):MS:=fun e S=>match m e S with
  | .err _ _ _ _ => .bad
  | r=>r
theorem W21 {body:List Stmt} {h0:ExceptHandler} {hs:List ExceptHandler} {mb:MS} (hb:MPs X.nox WX0 body mb):MP X Wx (.Try body (h0 :: hs) [] [] pos) (X9j mb):=PS.of (ps_try_thru0 hb) fun D σ H ⟨Z,ρ,e,S,st,ev,q⟩=>by
  refine ⟨Z,ρ,e,S,st,ev,?_⟩
  unfold X9j at q
  cases z:mb e S with
  | bad=>rw [z] at q; exact q
  | err _ _ _ _=>rw [z] at q; exact q.elim
  | go o S'=>rw [z] at q; cases o <;> exact q
theorem Here.nox {k:Nat} (h:Here X Wx k):Here X.nox WX0 k:=⟨Xq.tk0,h.gu,h.room⟩
def X2g (i:Nat) (f:D→D→Option D) (m:M):MS:=fun e S=>(Z3 i e S).so e fun x S1=>(m e S1).so e fun y S2=>(op2 f S2 x y).so e fun z S3 => .go (.nx (e.set i (some z))) S3
def W98:D→D→Option D:=ii fun i j=>some (.int (i + j))
theorem W8s {K:PySem.W.Frag}:Op2 K (ipI fun i j=>i + j) W98:=fun W H d1 d2 v1 v2 d Q hw a1 a2 e k=>by
  obtain ⟨i,j,rfl,rfl,e⟩:=X66 e
  cases e
  exact ⟨i,j,a1.int_inv,a2.int_inv,k H _ (Same.refl H) (.int _)⟩
theorem W8j {i:Nat} {f:D→D→Option D} {op:Operator} {ti:TIp} {pos':Pos} (hN:X.N.Nodup) (hi:X.N[i]?=some x) (hx:Loc X.env.scope x) (he:ME X Wx e m) (ho:PIp X op ti) (hf:Op2 X.K ti f)
    (hc:X.fn x=true ∨ X.env.scope.names.lookup x=some .local:=by first | exact .inl rfl | exact .inr rfl | assumption):MP X Wx (.AugAssign (.Name x pos') op e pos) (X2g i f m):=PS.of (ps_aug hN hi hx he ho hc) fun D σ H ⟨Z,ρ,e,S,st,ev,q⟩=>by
  unfold X2g Z3 at q
  cases z:e[i]? with
  | none=>rw [z] at q; exact q.elim
  | some o =>
    cases o with
    | none=>rw [z] at q; exact q.elim
    | some y =>
      rw [z] at q
      obtain ⟨v,h1,h2⟩:=ev.at_ i y z
      refine ⟨v,h1,Z15 st ev (show Z4t X.K Z ρ H Wx D ((m e S).so e fun w S2=>(op2 f S2 y w).so e fun z S3 => .go (.nx (e.set i (some z))) S3) from q) fun ρ1 H1 u w S1 s1 g1 ev1 a1 p1=>?_⟩
      have b1:=h2.mv (g1.mv st) g1.pre
      unfold op2 at p1
      cases e1:y.get S1 with
      | none=>rw [e1] at p1; exact p1.elim
      | some d1 =>
        cases e2:w.get S1 with
        | none=>rw [e1,e2] at p1; exact p1.elim
        | some d2 =>
          rw [e1,e2] at p1
          cases e3:f d1 d2 with
          | none=>simp only [e3] at p1; exact p1.elim
          | some d =>
            simp only [e3] at p1
            exact hf (Wn Z ρ1) H1 d1 d2 v u d _ (fun _ h=>s1.thereW h) (b1.get s1 e1) (a1.get s1 e2) e3 fun H' v' k a =>
              p1 ρ1 H' _ (s1.grow k) (Go.grow k) ((ev1.mv ((Go.grow k).mv s1) (List.prefix_refl _)).set (.d a))
end
end Bv
namespace Bv
open PySem PySem.Spec L2
open PyProof.Rows hiding St
variable [HasW]
theorem W5e {X:Cx} {Wx:WX} {pos p tpos:Pos} {kt:Nat} {a b c:Expr} {m:M} {tab:List (String × Bool)} {own:List (Str × Bool)} {u1 u2:Value} {c1 c2:V} (hg:Gl X "isinstance") (hm:X.mg "isinstance" = none) (he:ME X Wx a m) (hc1:PE X b (tC c1)) (hc2:PE X c (tC c2)) (T:IsTs X.K [u1,u2] tab own) (k1:ClsV c1 u1) (k2:ClsV c2 u2)
    (ht1:starEach [b,c] X.env=(false,eval b X.env) :: starEach [c] X.env:=by rfl) (ht2:starEach [c] X.env=(false,eval c X.env) :: starEach [] X.env:=by rfl)
    (hs:starEach [a, .Tuple [b,c] kt tpos] X.env=(false,eval a X.env) :: starEach [.Tuple [b,c] kt tpos] X.env:=by rfl) (hs2:starEach [.Tuple [b,c] kt tpos] X.env=(false,eval (.Tuple [b,c] kt tpos) X.env) :: starEach [] X.env:=by rfl)
    (hpl:(backTo pos (starEach [.Tuple [b,c] kt tpos] X.env)).any (·.1)=false:=by rfl):ME X Wx (.Call (.Name "isinstance" p) [a, .Tuple [b,c] kt tpos] [] pos) (Z57 tab own m):=PE.of (pe_callB call_isiT hg hm (by rfl) (pa_cons he (pa_cons (pe_tup (pa_cons hc1 (pa_cons hc2 pa_nil ht2) ht1)) pa_nil hs2) hs) (by decide) (by decide) hs hpl) fun σ H Q ⟨Z,ρ,e,S,st,ev,q⟩=>V2 st ev q fun ρ1 H1 v x S1 s1 g1 ev1 a1 p1=>by
  obtain ⟨w,hw,p2⟩:=p1.opt
  obtain ⟨b,h1,h2⟩:=Option.map_eq_some_iff.mp hw
  subst h2
  refine ⟨Nat.le_trans (show [c1,c2].length ≤ 2 from Nat.le_refl _) (by decide),fun r hr=>?_⟩
  have k:=Z0m (o:=HO.tup [c1,c2]) hr
  have s2:=s1.grow k
  obtain ⟨t,ty,kt⟩:=W4v T s2 (a1.mv ((Go.grow k).mv s1) (List.prefix_refl _)) h1
  exact ⟨v,r,[c1,c2],t,[u1,u2],b,rfl,upd_same, .cons k1 (.cons k2 .nil),ty,kt,V7.ret p2 s1 k (.d (.bl b))⟩
end Bv
namespace Bv
open PySem PySem.Spec L2
open PyProof.Rows hiding St
variable [HasW]
def Y1o (l:List Str):Bool:=l.all fun z=>PyData.strOk z
def Z4j (a:Str) (y:Bv.X) (S:Sto):R Bv.X:=match y with
  | .d (.str b)=>if !(b.length == 0) && decide (a.length + 2 ≤ sizeLine) && Y1o (Txt.split a b) then .ok (.d (.lst ((Txt.split a b).map .str))) S else .bad
  | _ => .bad
theorem Y84 {K:PySem.W.Frag} {W:Wd} {H:Hp}:∀ {l:List Str},Y1o l=true→AVs K W H (l.map D.str) (l.map V.str)
  | [],_ => .nil
  | z :: r,h=>by
    have h2:(PyData.strOk z && Y1o r)=true:=h
    rw [Bool.and_eq_true] at h2
    exact .cons (.str h2.1) (Y84 h2.2)
section
variable {X:Cx} {Wx:WX} {pos apos:Pos} {o e:Expr} {mo m:M}
theorem W08 {Z:Wd} {ρ:List Addr} {S:Sto} {H:Hp} {σ:L2.St} {Q:VK} {l:List Str} (st:Sta X.K Z ρ S H) (h:Y1o l=true) (p:V7 (AX X.K) X.K Z ρ H Wx σ Q (.ok (.d (.lst (l.map .str))) S)):∀ q,H q=none→Q (.ref q) (upd H q (.lst (l.map V.str))) :=
  fun q hq=>V7.ret p st (Z0m hq) (.d (Z9i (fun z hz=>st.thereW hz) hq (Y84 h)))
theorem Y79 (ho:ME X Wx o mo) (he:ME X Wx e m) (hs:starEach [e] X.env=[(false,eval e X.env)]:=by rfl) (hbase:attributeBase o "split" X.env (eval o X.env)=eval o X.env:=by rfl) (hline:(apos.endLine == pos.line)=true:=by rfl) :
    ME X Wx (.Call (.Attribute o "split" apos) [e] [] pos) (Z9y Z4j mo m):=PE.of (pe_split ho he hs hbase hline) fun σ H Q ⟨Z,ρ,e,S,st,ev,p⟩=>V2 st ev p fun ρ1 H1 v x S1 s1 g1 ev1 a1 p1=>by
  cases a1 with
  | r _=>exact p1.elim
  | d a =>
    cases a with
    | str hz =>
      rename_i z
      refine ⟨⟨z,rfl⟩,V2 s1 ev1 (show V7 (AX X.K) X.K Z ρ1 H1 Wx σ Q ((m e S1).bind fun y S2=>Z4j z y S2) from p1) fun ρ2 H2 u y S2 s2 g2 ev2 a2 p2=>?_⟩
      unfold Z4j at p2
      split at p2
      · rename_i b
        split at p2
        · rename_i hc
          rw [Bool.and_eq_true,Bool.and_eq_true] at hc
          obtain ⟨⟨c1,c2⟩,c3⟩:=hc
          cases a2 with
          | d a2 =>
            cases a2 with
            | str hb=>exact ⟨z,b,rfl,rfl,by simpa using c1,of_decide_eq_true c2,W08 s2 c3 p2⟩
        · exact p2.elim
      · exact p2.elim
    | _=>exact p1.elim
end
end Bv
namespace Bv
open PySem PySem.Spec L2
open PyProof.Rows hiding St
variable [HasW]
def ItE (K:PySem.W.Frag) (a:Addr):It :=
  ⟨fun i H=>∃ xs x,SqT K H a xs∧xs[i]?=some x,fun i H v H'=>∃ T x,v = .ref T∧H T=none∧H'=upd H T (.tup [.int (i:Nat),x])∧∀ xs,SqT K H a xs→xs[i]?=some x,fun i H=>∃ xs:List V,SqT K H a xs∧xs.length ≤ i⟩
theorem X6p {prog:Program} {w:World} {A:Around} {it a:Addr} {i:Nat} {items:Array Value} (hh:A.handled=none) (no:items[i]?=none):Draws prog w A it [it,a] i (fun _ _=>True) (fun j h=>j=i∧h.IsTupleIter it a i∧h.IsTuple a items) where
  live:=fun _ _ st=>let ⟨o,ho,_⟩:=st.2.1; ⟨o,ho⟩
  frame:=fun _ _ _ st hk=>⟨st.1,st.2.1.at fun o e=>hk it (by simp) o e,st.2.2.at fun o e=>hk a (by simp) o e⟩
  item:=fun j s Q E hj st _=>absurd st.1 (Nat.ne_of_lt hj)
  done:=fun s Q E st hE=>wpAny_nextOf_tuple_end hh st.2.1 st.2.2 no hE
theorem X5o {P:Program} {w:World} {K:PySem.W.Frag} {elts:List Expr} {kk:Nat} {tpos:Pos} (a e it:Addr) :
    Turn P w K (.Tuple elts kk tpos) (ItE K a) [e,it] e (fun i h=>(∃ old,IsEnum h e it ((i:Nat):Int) old)∧h.IsTupleIter it a i∧e ≠ it∧a ≠ it∧e ≠ a) where
  mem:=by simp
  obj:=fun i h st b hb=>by
    obtain ⟨⟨old,he⟩,⟨o,ho,hc,hd⟩,_⟩:=st
    rcases (show b=e ∨ b=it by simpa using hb) with z | z
    · rw [z]; exact ⟨_,he,fun v q=>nomatch q⟩
    · rw [z]; exact ⟨o,ho,fun v q=>by rw [hd] at q; cases q⟩
  keep:=fun i h h' st k=>let ⟨⟨old,he⟩,hi,hne⟩:=st; ⟨⟨old,k e (by simp) _ he⟩,hi.at fun o q=>k it (by simp) o q,hne⟩
  item:=by
    intro X hP hw hK hc i pins s σ H E I hf st hg
    subst hP hw hK
    obtain ⟨⟨old,he⟩,hit,hne,hai,hea⟩:=st
    obtain ⟨xs,x,hq,hx⟩:=hg
    obtain ⟨its,rv,p,hz⟩:=I.tuple hq
    obtain ⟨u,hu,ru⟩:=rv.get hx
    have el:e < s.heap.objs.size:=Heap.lt_size he
    have il:it < s.heap.objs.size:=by obtain ⟨_,q,_⟩:=hit; exact Heap.lt_size q
    have lt:i < its.toArray.size:=by
      have:=(List.getElem?_eq_some_iff.mp hu).1
      simpa using this
    refine wpAny_pyNext_enum_itemD (Draws.tuple (A:=X.A.in1) (show X.A.in1.handled=none from I.ok.hd hc) it a hai its.toArray) he ⟨hit,p⟩ lt hne (by simp; exact ⟨hne,hea⟩) fun y h' tk hy ho hit' hT hsz hk=>?_
    have ey:y=u:=by
      have hy:its.toArray[i]?=some y:=hy
      have hu':its.toArray[i]?=some u:=by simpa using hu
      rw [hy] at hu'
      exact Option.some.inj hu'
    subst ey
    refine ⟨_,rfl,wpAny_letOwnedTupleGo_enum (s:={ s with heap:=h',toks:=tk + 1 }) ho fun h'' he' sb=>?_⟩
    have hT2:h''.get? s.heap.objs.size=some { cls := .type "tuple",data := .seq #[.int i tk,y] }:=(sb.2 _ (Nat.ne_of_gt el)).trans hT
    have new:ObjOk X.prog X.w (upd H s.heap.objs.size (.tup [.int (i:Nat),x])) h'' s.heap.objs.size (.tup [.int (i:Nat),x]):=⟨(by decide:2 ≤ sizeLine),[.int i tk,y], .cons ⟨_,rfl⟩ (.cons ru .nil),⟨_,hT2,rfl,_,rfl⟩⟩
    have I1:Inv X pins σ (upd H s.heap.objs.size (.tup [.int (i:Nat),x])) { s with heap:=h'',toks:=tk + 1 } :=
      I.turnedNew (ch:=[e,it]) (fun b ob hb q=>(sb.2 b (fun z=>hb (by simp [z]))).trans (hk b ob (fun z=>hb (by simp [z])) (fun z=>hb (by simp [z])) q)) hf (Nat.le_refl _) new
    refine ⟨.ref s.heap.objs.size,_,I1,rfl,⟨_,x,rfl,I.hok.fresh (Nat.le_refl _),rfl,fun ys hy=>by rw [I.tuple_inj hy hq]; exact hx⟩,⟨⟨y,?_⟩,hit'.1.at fun o q=>(sb.2 it (Ne.symm hne)).trans q,hne,hai,hea⟩,fun b hb=>?_⟩
    · rw [show ((i + 1:Nat):Int)=(i:Int) + 1 by omega]; exact he'
    · have hb':b < s.heap.objs.size:=by
        rcases (show b=e ∨ b=it by simpa using hb) with z | z
        · rw [z]; exact el
        · rw [z]; exact il
      rw [upd_ne (Nat.ne_of_lt hb')]
      exact (hf b hb).1
  done:=by
    intro X hP hw hK hc i pins s σ H E I hf st hg
    subst hP hw hK
    obtain ⟨⟨old,he⟩,hit,hne,hai,hea⟩:=st
    obtain ⟨xs,hq,hx⟩:=hg
    obtain ⟨its,rv,p,hz⟩:=I.tuple hq
    obtain ⟨f0,f1,f2,f3,f4,f5⟩:=hf it (by simp)
    have no:its.toArray[i]?=none:=by
      have:=rv.length
      simp; omega
    exact wpAny_pyNext_enum_endD (X6p (A:=X.A.in1) (show X.A.in1.handled=none from I.ok.hd hc) no) he ⟨rfl,hit,p⟩ fun h' eb=>⟨rfl,I.turned (t':=s.toks) (fun b o hb q=>eb b o hb q) f0 f1 f3 f4 f5⟩
  self:=fun A i s Q E st h=>let ⟨⟨_,he⟩,_⟩:=st; wpAny_pyIter_enum he h
end Bv
namespace PySem
open Sem (wp)
open AutoSeq1 (wpAny_loadPart')
theorem enumT_new (t:Addr) (items:Array Value) (n:Nat) (dct:Option Addr) (sl:Array (Option Value)) :
    Meets (Builtin.«enumerate.__new__» ⟨[.type "enumerate", .ref t],[]⟩) (fun _ R s=>s.heap.get? t=some { cls := .type "tuple",dict:=dct,data := .seq items n,slots:=sl } ∧
      R (.ok (.ret (.ref (s.heap.push { cls := .type "tuple_iterator",data := .fields #[.ref t, .int 0 0] }).objs.size))) { s with heap:=(s.heap.push { cls := .type "tuple_iterator",data := .fields #[.ref t, .int 0 0] }).push { cls := .type "enumerate",data := .fields #[.none, .bool false, .ref s.heap.objs.size,rawInt 0, .none, .none] } }) :=
  .of_wp fun prog w A R s q=>by
    obtain ⟨hp,g,d,tk,os⟩:=s
    obtain ⟨ht,fin⟩:=q
    have below:=sub_enumerate
    have isT:Heap.IsTuple (Shared.heap ⟨hp,g,d,tk,os⟩) t items:=⟨_,ht,rfl,n,rfl⟩
    wp_walk using wpAny_loadPart' ht
    refine (wpAny_stack_any fun st=>wpAny_pure ?_)
    split
    · rename_i c _ _ _ _ _
      cases (c == Value.type "enumerate") <;> (wp_walk using wpAny_loadPart' ht,wpAny_pyIter_tuple isT; exact ⟨_,rfl,fin⟩)
    · wp_walk using wpAny_loadPart' ht,wpAny_pyIter_tuple isT
      exact ⟨_,rfl,fin⟩
theorem call_enumT {prog:Program} {w:World} {A:Around} {E:Value→Shared→Prop} {s:Shared} {t:Addr} {items:Array Value} {Q:Value→Shared→Prop} (hT:s.heap.IsTuple t items)
    (fin:∀ h',IsEnum h' (s.heap.objs.size + 1) s.heap.objs.size 0 .none→h'.IsTupleIter s.heap.objs.size t 0→h'.objs.size=s.heap.objs.size + 2→(∀ b o,s.heap.get? b=some o→h'.get? b=some o)→Q (.ref (s.heap.objs.size + 1)) { s with heap:=h' }) :
    wpAny (model prog w) A (call (.type "enumerate") [.ref t]) Q E s:=by
  obtain ⟨⟨c,dct,dt,sl⟩,ht,hc,n,hd⟩:=hT
  obtain rfl:c = .type "tuple" := hc
  obtain rfl:dt = .seq items n:=hd
  refine callType_new F.called_enumerate (by decide) (F.typeCall_enumerate_1 _) (F.newCall_enumerate_1 _) (fun obj=>F.args_object_init_2 obj _) F.entry_enumerate_new (enumT_new t items n dct sl) ⟨ht,?_⟩
  have z:(s.heap.push { cls := .type "tuple_iterator",data := .fields #[.ref t, .int 0 0] }).objs.size=s.heap.objs.size + 1:=Heap.size_push ..
  show _∧_
  rw [z]
  have en:IsEnum ((s.heap.push { cls := .type "tuple_iterator",data := .fields #[.ref t, .int 0 0] }).push { cls := .type "enumerate",data := .fields #[.none, .bool false, .ref s.heap.objs.size,rawInt 0, .none, .none] }) (s.heap.objs.size + 1) s.heap.objs.size 0 .none:=by
    have y:=Heap.get?_push_size (s.heap.push { cls := .type "tuple_iterator",data := .fields #[.ref t, .int 0 0] }) (o:={ cls := .type "enumerate",data := .fields #[.none, .bool false, .ref s.heap.objs.size,rawInt 0, .none, .none] }) rfl
    rw [z] at y
    exact y
  exact ⟨⟨_,en,rfl⟩,fin _ en ⟨_,Heap.get?_push_of_some _ (Heap.get?_push_size _ rfl),rfl,rfl⟩ (by rw [Heap.size_push,z]) fun b o x=>Heap.get?_push_of_some _ (Heap.get?_push_of_some _ x)⟩
end PySem
namespace Bv
open PySem PySem.Spec L2
open PyProof.Rows hiding St
variable [HasW]
def W71 (K:PySem.W.Frag) (ta:TA):TI:=fun σ H R=>ta σ H fun vs H1=>∃ a xs,vs=[.ref a]∧((SqL K H1 a xs∧R (Ite K a) H1) ∨ (SqT K H1 a xs∧R (ItE K a) H1))
theorem W1s {X:Cx} {e:Expr} {ta:TA} {p pos tpos:Pos} {elts:List Expr} {kk:Nat} (hg:Gl X "enumerate") (hm:X.mg "enumerate" = none) (ha:PA X [e] ta) (hs:starEach [e] X.env=[(false,eval e X.env)]:=by rfl) :
    PI X (.Tuple elts kk tpos) (.Call (.Name "enumerate" p) [e] [] pos) (W71 X.K ta):=⟨fun pins s σ H R I h=>by
  refine Call_ (ld_blt I hg hm boot_enumerate (callWith_type1 (thn (ha.run pos pins s σ H _ I h) fun us s1 ⟨vs,H1,I1,r1,a,xs,ex,q1⟩=>?_) hs rfl))
  subst ex
  cases r1 with
  | cons r rr =>
    cases rr
    cases r
    have two:∀ b ∈ [s1.heap.objs.size + 1,s1.heap.objs.size],FpOk X pins H1 b:=fun b hb=>by
      have le:s1.heap.objs.size ≤ b:=by
        rcases (show b=s1.heap.objs.size + 1 ∨ b=s1.heap.objs.size by simpa using hb) with z | z
        · rw [z]; exact Nat.le_add_right _ _
        · rw [z]; exact Nat.le_refl _
      exact I1.fpOk le (I1.hok.fresh le)
    rcases q1 with ⟨hq,q⟩ | ⟨hq,q⟩
    · obtain ⟨its,rv,pl,_⟩:=I1.list hq
      exact call_enumerate_list pl.isList fun h' he hit hsz hk=>wpAny_pyIter_enum he ⟨s1.heap.objs.size + 1,[s1.heap.objs.size + 1,s1.heap.objs.size],_,_,H1,rfl,I1.kept (t':=s1.toks) hk,turn_enum a (s1.heap.objs.size + 1) s1.heap.objs.size,⟨⟨.none,he⟩,hit,Nat.succ_ne_self _⟩,two,q⟩
    · obtain ⟨its,rv,pl,_⟩:=I1.tuple hq
      have lt:a < s1.heap.objs.size:=by obtain ⟨o,ho,_⟩:=id pl; exact Heap.lt_size ho
      exact call_enumT (show s1.heap.IsTuple a its.toArray from pl) fun h' he hit hsz hk=>wpAny_pyIter_enum he ⟨s1.heap.objs.size + 1,[s1.heap.objs.size + 1,s1.heap.objs.size],_,_,H1,rfl,I1.kept (t':=s1.toks) hk,X5o a (s1.heap.objs.size + 1) s1.heap.objs.size,⟨⟨.none,he⟩,hit,Nat.succ_ne_self _,Nat.ne_of_lt lt,Nat.ne_of_gt (Nat.lt_succ_of_lt lt)⟩,two,q⟩⟩
theorem X5s {K:PySem.W.Frag} {a:Addr} {xs:List V}:Walk (ItE K a) xs.length (fun H=>SqT K H a xs) (YPair (fun i=>some (.int (i:Nat))) (fun i=>xs[i]?)) :=
  ⟨fun i _ hi q=>⟨xs,xs[i],q,by simp [hi]⟩,fun _ q=>⟨xs,q,Nat.le_refl _⟩,fun i H v H' _ q ⟨T,x,h1,h2,h3,h4⟩=>⟨T, .int (i:Nat),x,h1,h2,h3,rfl,h4 xs q⟩⟩
def numbered (ds:List D):List Bv.X:=(List.range ds.length).zipWith (fun (i:Nat) d=>Bv.X.d (.tup [.int (i:Nat),d])) ds
def W4g:List Bv.X→Option (List Bv.X × Lk)
  | [.d (.lst ds)]=>some (numbered ds, .free)
  | [.d (.tup ds)]=>some (numbered ds, .free)
  | _=>none
def W2i (S:Sto):List Bv.X→Option (List Bv.X × Lk)
  | [.r n]=>(match S[n]? with
    | some (.lst xs)=>(match ds? xs with
      | some ds=>some (numbered ds, .lst n xs)
      | none=>none)
    | _=>none)
  | xs=>W4g xs
def Z8o (ms:MG (List Bv.X)):MIt:=fun e S=>(ms e S).bind fun xs S1=>Z5r (W2i S1 xs) S1
theorem Y0y {ds:List D} {i:Nat} {d:D} (h:ds[i]?=some d):(numbered ds)[i]?=some (.d (.tup [.int (i:Nat),d])):=by
  have lt:=(List.getElem?_eq_some_iff.mp h).1
  unfold numbered
  rw [List.getElem?_zipWith,h]
  simp [lt]
theorem Z6w (ds:List D):(numbered ds).length=ds.length:=by simp [numbered]
theorem X01 {K:PySem.W.Frag} {W:Wd} {ρ:List Addr} {H:Hp} {J:It} {G:Hp→Prop} {xs:List V} {ds:List D} (hs:AVs K W H ds xs) (w:Walk J xs.length G (YPair (fun i=>some (.int (i:Nat))) (fun i=>xs[i]?)))
    (hg:∀ (Z2:Wd) (ρ2:List Addr) (H2:Hp),Mv W H (Wn Z2 ρ2) H2→G H2):Srv K W ρ H (numbered ds, .free) J :=
  ⟨G,_,by rw [show (numbered ds,Lk.free).1.length=xs.length by rw [show (numbered ds,Lk.free).1=numbered ds from rfl,Z6w,hs.length]]; exact w,fun Z2 ρ2 S2 H2 st m p fz k=>⟨hg Z2 ρ2 H2 m,fun i x H3 y=>by
    obtain ⟨T,u,v,rfl,hT,rfl,h1,h2⟩:=y
    cases h1
    obtain ⟨d,h3,h4⟩:=(hs.mv m).at_ h2
    have kp:=Z0m (o:=HO.tup [.int (i:Nat),v]) hT
    exact ⟨kp,_,Y0y h3, .d (.tup (.inl ⟨st.fresh hT,upd_same⟩) (.cons (.int _) (.cons (h4.mv (Y2s kp)) .nil)))⟩⟩⟩
theorem X5r {K:PySem.W.Frag} {a:Addr} (n:Nat):Walk (Ite K a) n (fun H=>∃ xs,xs.length=n∧SqL K H a xs) (fun i H v H'=>∃ T x,v = .ref T∧H T=none∧H'=upd H T (.tup [.int (i:Nat),x])∧∀ xs,SqL K H a xs→xs[i]?=some x) :=
  ⟨fun i _ hi ⟨xs,e,q⟩=>⟨xs,xs[i]'(by omega),q,by simp [show i < xs.length by omega]⟩,fun _ ⟨xs,e,q⟩=>⟨xs,q,by omega⟩,fun _ _ _ _ _ _ y=>y⟩
theorem X5j {K:PySem.W.Frag} {W:Wd} {ρ:List Addr} {H:Hp} {a:Addr} {n:Nat} {ds:List D} (h:ρ[n]?=some a):Srv K W ρ H (numbered ds, .lst n (ds.map Bv.X.d)) (Ite K a) :=
  ⟨_,_,by rw [show (numbered ds,Lk.lst n (ds.map Bv.X.d)).1.length=ds.length from Z6w ds]; exact X5r ds.length,fun Z2 ρ2 S2 H2 st m p fz k=>by
    have k:(match S2[n]? with
      | some (.lst zs)=>decide (zs=ds.map Bv.X.d)
      | _=>false)=true:=k
    cases q2:S2[n]? with
    | none=>rw [q2] at k; cases k
    | some o2 =>
      rw [q2] at k
      cases o2 with
      | lst zs =>
        have k:zs=ds.map Bv.X.d:=of_decide_eq_true k
        subst k
        have h':ρ2[n]?=some a:=by
          obtain ⟨t,rfl⟩:=p
          rw [List.getElem?_append_left (List.getElem?_eq_some_iff.mp h).1]; exact h
        obtain ⟨us,h3,h4⟩:=st.ob n _ _ q2 h'
        have hl:us.length=ds.length:=by
          have:=Paired.length h4
          rw [List.length_map] at this
          exact this.symm
        refine ⟨⟨us,hl, .inl (.inl h3)⟩,fun i x H3 y=>?_⟩
        obtain ⟨T,u,rfl,hT,rfl,y⟩:=y
        obtain ⟨b,h5,h6⟩:=Y48 h4 (y us (.inl (.inl h3)))
        rw [List.getElem?_map] at h5
        cases hd:ds[i]? with
        | none=>rw [hd] at h5; cases h5
        | some d =>
          rw [hd] at h5
          cases h5
          cases h6 with
          | d h6 =>
            have kp:=Z0m (o:=HO.tup [.int (i:Nat),u]) hT
            exact ⟨kp,_,Y0y hd, .d (.tup (.inl ⟨st.fresh hT,upd_same⟩) (.cons (.int _) (.cons (h6.mv (Y2s kp)) .nil)))⟩
      | _=>cases k⟩
theorem V0l {xs:List Bv.X}:∀ {ds:List D},ds? xs=some ds→xs=ds.map Bv.X.d:=by
  induction xs with
  | nil=>intro ds h; cases h; rfl
  | cons x r ih =>
    intro ds h
    cases x with
    | r n=>cases h
    | d v =>
      have h:(match Bv.X.d v,ds? r with
        | .d v,some l=>some (v :: l)
        | _,_=>none)=some ds:=h
      cases q:ds? r with
      | none=>rw [q] at h; cases h
      | some l=>rw [q] at h; cases h; rw [ih q]; rfl
theorem X10 {X:Cx} {Wx:WX} {e:Expr} {ms:MG (List Bv.X)} {p pos tpos:Pos} {elts:List Expr} {kk:Nat} (hg:Gl X "enumerate") (hm:X.mg "enumerate" = none) (ha:MA X Wx [e] ms) (hs:starEach [e] X.env=[(false,eval e X.env)]:=by rfl) :
    MI X Wx (.Tuple elts kk tpos) (.Call (.Name "enumerate" p) [e] [] pos) (Z8o ms):=PI.of (W1s hg hm ha hs) fun σ H R ⟨Z,ρ,e,S,st,ev,p⟩=>V2 st ev p fun ρ1 H1 v xs S1 st1 g1 ev1 a1 p1=>by
  obtain ⟨w,hw,p2⟩:=p1.opt
  unfold W2i at hw
  split at hw
  · rename_i n
    cases a1 with
    | cons ha t =>
      cases t
      cases ha with
      | r h =>
        rename_i a
        cases q:S1[n]? with
        | none=>rw [q] at hw; cases hw
        | some o =>
          rw [q] at hw
          cases o with
          | lst xs =>
            have hw:(match ds? xs with
              | some ds=>some (numbered ds,Lk.lst n xs)
              | none=>none)=some w:=hw
            cases q3:ds? xs with
            | none=>rw [q3] at hw; cases hw
            | some ds =>
              rw [q3] at hw
              cases hw
              have exs:=V0l q3
              subst exs
              obtain ⟨vs,h1,h2⟩:=st1.ob n _ _ q h
              exact ⟨_,_,rfl, .inl ⟨.inl (.inl h1),V7.ret0 p2 st1 (X5j h)⟩⟩
          | _=>cases hw
  · unfold W4g at hw
    split at hw
    · cases hw
      obtain ⟨v,rfl,a⟩:=W1n a1
      cases a with
      | lst w r hs=>exact ⟨_,_,rfl, .inl ⟨.inl (.inl r),V7.ret0 p2 st1 (X01 hs walk_enum fun Z2 ρ2 H2 m => .inl (.inl (m _ _ w r).2))⟩⟩
    · cases hw
      obtain ⟨v,rfl,a⟩:=W1n a1
      cases a with
      | tup t hs=>exact ⟨_,_,rfl, .inr ⟨t.sq,V7.ret0 p2 st1 (X01 hs X5s fun Z2 ρ2 H2 m=>(m.tp t).sq)⟩⟩
    · cases hw
end Bv
namespace Bv
open PySem PySem.Spec L2
open PyProof.Rows hiding St
variable [HasW]
end Bv
namespace Bv
open PySem PySem.Spec L2
open PyProof.Rows hiding St
variable [HasW]
end Bv
namespace PySem
open Sem (wp)
open AutoSeq1 (wpAny_loadPart')
open MeetsSeq MeetsSeq2 MeetsSeq3 SeqRoads2
namespace BvIn
section
variable {prog:Program} {w:World} {A:Around} {E:Value→Shared→Prop} {s:Shared}
end
end BvIn
end PySem
namespace Bv
open PySem PySem.Spec L2
open PyProof.Rows hiding St
structure OwnSub (K:PySem.W.Frag) (C:Str):Prop where
  st:PySem.W.subIn K (.ref (He.ga K C)) (.type "str")=some false
  no:PySem.W.subIn K (.ref (He.ga K C)) (.type "NoneType")=some false
  tu:PySem.W.subIn K (.ref (He.ga K C)) (.type "tuple")=some false
variable [HasW]
section
variable {X:Cx} {k:Nat} {f:Addr} {fd:FuncData} {ps:List Str} {g:List D→PR} {C:Str}
end
section
variable {X:Cx} {Wx:WX} {k j:Nat} {C:Str} {g:List D→PR}
end
end Bv
namespace PySem
open Sem (wp)
open AutoSeq1 (wpAny_loadPart')
open MeetsSeq MeetsSeq2 MeetsSeq3 SeqRoads2
namespace BvTu
section
variable {prog:Program} {w:World} {A:Around} {R:Result→Shared→Prop}
variable {E:Value→Shared→Prop} {s:Shared}
end
end BvTu
end PySem
namespace Bv
open PySem PySem.Spec L2
open PyProof.Rows hiding St
variable [HasW]
section
variable {X:Cx} {k:Nat} {f:Addr} {fd:FuncData} {ps:List Str} {g:List D→PR} {C:Str}
end
def W5a (m:M):M:=fun e S=>(m e S).bind fun x S1=>Z5r ((Z8c x).map fun i => .d (.int (-i))) S1
section
variable {X:Cx} {Wx:WX} {k j:Nat} {C:Str} {g:List D→PR} {pos:Pos} {a:Expr} {m:M}
theorem W8f (h:ME X Wx a m):ME X Wx (.UnaryOp .USub a pos) (W5a m):=PE.of (pe_un un_neg h) fun σ H Q ⟨Z,ρ,e,S,st,ev,p⟩=>V2 st ev p fun ρ1 H1 v x S1 s1 g1 ev1 a1 p1=>by
  obtain ⟨w,hw,p2⟩:=p1.opt
  obtain ⟨i,h1,h2⟩:=Option.map_eq_some_iff.mp hw
  subst h2
  exact ⟨i,a1.int h1,V7.ret0 p2 s1 (.d (.int _))⟩
end
end Bv
namespace Bv
open PySem PySem.Spec L2
open PyProof.Rows hiding St
variable [HasW]
section
variable {X:Cx} {Wx:WX} {pos apos:Pos} {o e:Expr} {mo m:M}
end
end Bv
namespace Bv
open PySem PySem.Spec L2
open PyProof.Rows hiding St
variable [HasW]
def W90 (S:Sto):X→Option (List X)
  | .d (.lst ds)=>some (ds.map .d)
  | .d _=>none
  | .r n=>match S[n]? with
    | some (.lst xs)=>some xs
    | _=>none
theorem W0r {K:PySem.W.Frag} {Z:Wd} {ρ:List Addr} {S:Sto} {H:Hp} {x:Bv.X} {v:V} {xs:List Bv.X} (st:Sta K Z ρ S H) (a:AX K (Wn Z ρ) ρ H x v) (h:W90 S x=some xs):∃ q vs,v = .ref q∧H q=some (.lst vs)∧AXs K (Wn Z ρ) ρ H xs vs:=by
  cases x with
  | d d =>
    cases a with
    | d a =>
      cases a with
      | lst h1 h2 h3 =>
        cases h
        exact ⟨_,_,rfl,h2,h3.axs⟩
      | _=>cases h
  | r n =>
    have h2:Z25 S (.r n)=some (n,xs):=by
      unfold W90 at h
      unfold Z25
      cases z:S[n]? with
      | none=>simp only [z] at h; cases h
      | some o =>
        cases o with
        | lst ys =>
          simp only [z] at h ⊢
          cases h
          rfl
        | _=>simp only [z] at h; cases h
    obtain ⟨q,vs,e,_,h3,h4⟩:=Z9a st a h2
    exact ⟨q,vs,e,h3,h4⟩
def Z4w:Bv.X→List Bv.X→Sto→R Bv.X:=fun x ys S=>match Z25 S x,ys with
  | some (n,xs),[y]=>(match W90 S y with
    | some zs=>if decide (xs.length + zs.length ≤ sizeLine) then .ok (.d .non) (S.set n (.lst (xs++zs))) else .bad
    | none => .bad)
  | _,_ => .bad
theorem Y7t {K:PySem.W.Frag}:MtX K rExtend Z4w:=fun Z ρ S H Wx σ x v ys ws Q st a as p=>by
  unfold Z4w at p
  split at p
  · rename_i n xs y hl
    cases as with
    | cons h t =>
      cases t
      split at p
      · rename_i zs hy
        split at p
        · rename_i hz
          obtain ⟨q,vs,rfl,e,h3,h4⟩:=Z9a st a hl
          obtain ⟨b,us,rfl,h5,h6⟩:=W0r st h hy
          have hz:=of_decide_eq_true hz
          obtain ⟨s5,g5⟩:=st.putL e h3 (Paired.append h4 h6)
          exact ⟨q,b,vs,us,rfl,rfl,h3,h5,by rw [← Paired.length h4,← Paired.length h6]; exact hz,p ρ _ .non s5 g5 (.d .non)⟩
        · exact p.elim
      · exact p.elim
  · exact p.elim
end Bv
namespace Xe
open PySem PySem.W PySem.Calls PyProof.Rows PySem.HandSPX
structure TailF (newId:String) (bm:List Value):Prop where
  new:∃ (Bn inN:String) (bmN:List Value),ExcBaseFacts Bn newId inN bmN∧bm.contains (.type Bn)=true
  noA:bm.contains (.type "AttributeError")=false
  noN:bm.contains (.type "NameError")=false
structure InitF (B initId:String):Prop where
  init:Slot B "__init__" initId
  entry:entryFor table initId=some Builtin.«BaseException.__init__»
  kind:builtinKind initId=some .slot
  row:Manifest.signature? initId=some ⟨.positional, "*",B, .self,[⟨"args", .varPos,false⟩]⟩
  star:(B != "*")=true
section
variable {prog:Program} {w:World} {M:Model} {A:Around} {E:Value→Shared→Prop} {R:Result→Shared→Prop} {h:Heap} {g:Array GenState} {d:Drawn} {t:Nat} {os:OsState}
variable {nm q:Str} {C N:Addr} {bs bm:List Value} {hdct:Bool} {sn:List Str} {sub:List Value} {ab:Bool} {col:Option Bool} {dd:Option Addr} {k0 k1 k2 k3 k5:Option Value} {B newId initId:String}
end
end Xe
namespace Xe
open PySem PySem.W PySem.Calls PyProof.Rows PySem.HandSPX
def V0m (p:Str) (a1 a2:Pos):Arguments:={ posonlyargs:=[],args:=[{ arg := "self",annotation:=none,pos:=a1 },{ arg:=p,annotation:=none,pos:=a2 }],vararg:=none,kwonlyargs:=[],kw_defaults:=[],kwarg:=none,defaults:=[] }
def V0n (p:Str) (p0 p1 p2 p3 p4 p5 q1 q2 q3 q4:Pos):List Stmt :=
  [.Expr (.Call (.Attribute (.Call (.Name "super" p0) [] [] p1) "__init__" p2) [.Name p p3] [] p4) p5, .Assign [.Attribute (.Name "self" q1) p q2] (.Name p q3) q4]
def eSc (p:Str):Scope:={ kind := .function,names:=[("self", .local),(p, .local),("__class__", .free),("super", .globalImplicit)],isGenerator:=false,isCoroutine:=false,more:=[] }
def EHe (p:Str) (p0 p1 p2 p3 p4:Pos):Prop:=∀ env:Env,∃ pl:Sem Bool,eval (.Call (.Attribute (.Call (.Name "super" p0) [] [] p1) "__init__" p2) [.Name p p3] [] p4) env=(do
  let ov ← attributeBase (.Call (.Name "super" p0) [] [] p1) "__init__" env (eval (.Call (.Name "super" p0) [] [] p1) env)
  standAt p2.atName
  let (f,first) ← holding [ov] (getMethod ov "__init__" pl)
  callWith p4 f first (backTo p4 (starEach [.Name p p3] env)) [])
def V2u (p:Str):Prop:=p = "word" ∨ p = "at" ∨ p = "name"
structure EBase (B newId initId:String) (bmB:List Value):Prop where
  T:TailF newId bmB
  I:InitF B initId
  K:KxsFacts B initId
  S:StoreFacts B bmB "object.__setattr__" "object"
structure ErrT (prog:Program) (K:Frag) (C fI:Addr) (p:Str) (B newId initId:String) (bmB:List Value):Prop where
  ini:excInitIn K C bmB newId=true
  over:excOver K C bmB=true
  hdC:hasDictIn K C=true
  sa:findIn K (.ref C) "__setattr__" = some (some (.builtin "object.__setattr__"))
  noP:findIn K (.ref C) p=some none
  iC:findIn K (.ref C) "__init__" = some (some (.ref fI))
  tC:typeIn K (.ref fI)=some (.type "function")
  kC:keepIn K (.ref C)=true
  exC:subIn K (.ref C) (.type "BaseException")=some true
  exB:subIn K (.ref C) (.type B)=some true
  tyC:typeIn K (.ref C)=some (.type "type")
  opq:nsIn K cStatics "thirdparty.any" = some none
  sup:ks_superIn K C C "__init__" = some (some (.builtin initId))
  mro:mroIn K C (.ref C)=some true
  sg:nsIn K mainGlobals "super" = some none
  fn:∃ (oc:Value) (od:Option Addr) (doc pm:Value) (an:Option Addr) (cda cc:Addr) (ct:Value) (osl:Array (Option Value)) (qual:Str) (a1 a2 p0 p1 p2 p3 p4 p5 q1 q2 q3 q4:Pos),
    K.lookup fI=some ⟨oc,od, .func (ksFn "__init__" qual (V0m p a1 a2) (V0n p p0 p1 p2 p3 p4 p5 q1 q2 q3 q4) (eSc p) .none .none doc pm an (.ref cda) ct cc),osl⟩∧codeIn K (.ref cda) qual=true∧EHe p p0 p1 p2 p3 p4 ∧
    (∃ ccl cdd vs ccs file tf,K.lookup cda=some ⟨ccl,cdd, .fields vs,ccs⟩∧vs[2]?=some (.str file tf)∧((prog.main.file:Str) == file)=true) ∧
    (∃ cl cld csl,K.lookup cc=some ⟨cl,cld, .cell (some (.ref C)),csl⟩)
structure EMod (K:Frag) (base:Heap) (prog:Program):Prop where
  kin:K.In base
  ns:∃ mg,base.Ns mainGlobals mg
  blt:∃ mb,base.Ns builtinsNs mb∧∀ x:Str,x ≠ "__name__" → mb x=bootBuiltins x
  top:(prog.main.scope.names.lookup ("super" : Str)).isSome=false
structure EEnd (h h':Heap) (x C dx t1:Addr) (p:Str) (v:Value):Prop where
  keep:∀ b o,b ≠ x→h.get? b=some o→h'.get? b=some o
  obj:h'.get? x=some { cls := .ref C,dict:=some dx,data := .fields #[.ref t1, .none, .none, .none, .bool false, .none] }
  dbig:h.objs.size ≤ dx
  dne:dx ≠ x
  ns:h'.Ns1 dx (fun y=>if y=p then some v else none)
structure EMade (h h':Heap) (e C d:Addr) (p:Str) (v:Value):Prop where
  keep:∀ b o,h.get? b=some o→h'.get? b=some o
  new:h.objs.size ≤ e
  obj:∃ t1:Addr,h'.get? e=some ({ cls := .ref C,dict:=some d,data := .fields #[.ref t1, .none, .none, .none, .bool false, .none] }:Obj)
  dbig:h.objs.size ≤ d
  dne:d ≠ e
  ns:h'.Ns1 d (fun y=>if y=p then some v else none)
section
variable {prog:Program} {w:World} {A:Around} {E:Value→Shared→Prop} {R:Result→Shared→Prop} {K:Frag} {C fI:Addr} {p:Str} {B newId initId:String} {bmB:List Value} {base:Heap}
end
end Xe
namespace Xe
open PySem PySem.Spec PyProof.Rows L2
structure ErrOk (P:Program) (K:PySem.W.Frag) (C fI:Addr) (p:Str):Prop where
  ex:∃ B newId initId bmB,ErrT P K C fI p B newId initId bmB∧EBase B newId initId bmB
  par:V2u p
  top:(P.main.scope.names.lookup ("super" : Str)).isSome=false
section
variable {X:Cx} {C fI:Addr} {p:Str}
end
end Xe
namespace Xe
open PySem PySem.Spec PyProof.Rows L2
end Xe
namespace Bv
open PySem PySem.Spec L2
open PyProof.Rows hiding St
variable [HasW]
section
variable {X:Cx} {Wx:WX} {k:Nat} {pos pos2 np:Pos} {a:Expr} {ms:MG (List Bv.X)} {C p x:Str} {fI:Addr}
end
structure Err0 (K:PySem.W.Frag) (C:Addr):Prop where
  ini:PySem.W.excIn K C [.type "ValueError", .type "Exception", .type "BaseException", .type "object"] "ValueError.__new__" = true
  kC:PySem.W.keepIn K (.ref C)=true
  exC:PySem.W.subIn K (.ref C) (.type "BaseException")=some true
  tyC:PySem.W.typeIn K (.ref C)=some (.type "type")
section
variable {X:Cx} {Wx:WX} {k:Nat} {pos pos2 np:Pos} {C x:Str}
end
end Bv
namespace Bv
open PySem PySem.Spec L2
open PyProof.Rows hiding St
variable [HasW]
abbrev SX:=Str→List (Str × D)→Option D
abbrev SXs:=Str→List (Str × D)→Option (List D)
abbrev SXb:=Str→List (Str × D)→Option Bool
def W95 (K:PySem.W.Frag) (W:Wd) (H:Hp) (fs:List (Str × D)) (d:Option Addr):Prop:=(d=none∧fs=[]) ∨ ∃ (dd:Addr) (vs:List (Str × V)),d=some dd∧H dd=some (.xd vs)∧AVf K W H fs vs
structure SAt (lv:Ev) (K:PySem.W.Frag) (W:Wd) (i:Nat) (a:Addr) (fs:List (Str × D)) (d:Option Addr) (σ:L2.St) (H:Hp):Prop where
  there:∀ b,W b→∃ o,H b=some o
  slot:σ[i]?=some (some (.ref a))
  err:W95 K W H fs d
  loc:∀ (j:Nat) (v:D),lv[j]?=some (some (.d v))→∃ u,σ[j]?=some (some u)∧AV K W H v u
section
variable {lv:Ev} {X:Cx} {i:Nat} {n x:Str} {np p pos tpos:Pos} {e e1 e2 c t:Expr} {es rest:List Expr} {m m1 m2:SX} {ms:SXs} {mb mc:SXb}
end
end Bv
namespace Bv
open PySem PySem.Spec L2
open PyProof.Rows hiding St
variable [HasW]
section
variable {X:Cx} {Wx:WX} {k i j:Nat} {n y x:Str} {c:Value} {body:List Stmt} {np yp apos pos pos':Pos} {ex:Expr} {mb:MS} {m:SX} {tab:List (Str × Bool)}
end
end Bv
namespace Bv
open PySem PySem.Spec L2
open PyProof.Rows hiding St
structure ErrB where
  cls:Str
  qual:Str
  par:Str
  st:Stmt
abbrev V21 (C:Str) (K:PySem.W.Frag):Addr:=He.ma K (He.ga K C) "__init__"
def W9c (K:PySem.W.Frag) (d:ErrB):He.FnW:=match K.lookup (V21 d.cls K) with
  | some ⟨_,_, .func fd,_⟩=>some (fd.name,fd.qualname,fd.params,fd.body,fd.scope,fd.globals,[],fd.builtins)
  | _=>none
def ErrB.val (d:ErrB):He.FnW:=some ("__init__",d.qual,defArgs d.st, .stmts (defBody d.st),defScope d.st,mainGlobals,[],builtinsNs)
def W63 (ts:List (PySem.W.Frag→Bool)) (ds:List DefB) (xs:List ErrB) (K:PySem.W.Frag):AlB:=((ts.all fun t=>t K) && ds.all fun d=>d.ok K,(ds.map fun d=>seen K (d.ad K))++xs.map (W9c K))
def X9d (ds:List DefB) (xs:List ErrB):AlB:=(true,ds.map DefB.val++xs.map ErrB.val)
def X9n (ts:List (PySem.W.Frag→Bool)) (ds:List DefB) (xs:List ErrB) (K:PySem.W.Frag):Prop:=W63 ts ds xs K=X9d ds xs
section
variable {ts:List (PySem.W.Frag→Bool)} {ds:List DefB} {xs:List ErrB} {K:PySem.W.Frag}
theorem X9n.toB (c:X9n ts ds xs K):Y7p ts ds K:=by
  have e1:=congrArg (fun z:AlB=>z.1) c
  have e2:(ds.map fun d=>seen K (d.ad K))++xs.map (W9c K)=ds.map DefB.val++xs.map ErrB.val:=congrArg (fun z:AlB=>z.2) c
  have e3:=(List.append_inj e2 (by rw [List.length_map,List.length_map])).1
  unfold Y7p V2o V2r
  rw [e3]
  exact congrArg (fun b=>(b,ds.map DefB.val)) (show ((ts.all fun t=>t K) && ds.all fun d=>d.ok K)=true from e1)
end
inductive EB where
  | ve | ie | ke
end Bv
namespace Bv
open PySem PySem.Spec L2
open PyProof.Rows hiding St
section
open PySem.W PySem.Calls
theorem W1z {r:PySem.W.OpenRow} {q:Program} {H:PySem.W.Hook} {ob:PySem.W.SharedT→H.α} {M:Nat} {loose:List PySem.Str} {w:World}
    (h1:∀ os:OsState,(HandSHeadRun.endF (HandSHeadRun.stepQ (HandSHeadRun.denQ HandSHeadRun.tabQ) r.prog w) M r.prog w os).map (fun s=>HandSHeadRun.looksF r.prog (boot_heap w.params) s.abs)=some true)
    (h2:∀ os:OsState,(HandSHeadRun.endF (HandSHeadRun.stepQ (HandSHeadRun.denQ HandSHeadRun.tabQ) r.prog w) M r.prog w os).map (fun s=>HandSHeadRun.seenQ q loose (importedModules r.prog.main.body) (fun s=>xlAt q [] s && recOk r.toRowW.records s) s.abs)=some (openGood q loose))
    (h3:∀ os:OsState,(HandSHeadRun.endF (HandSHeadRun.stepQ (HandSHeadRun.denQ HandSHeadRun.tabQ) r.prog w) M r.prog w os).map ob=some (H.val w)):HandSHeadRun.RunEq r q H ob M loose w:=fun os=>by
  have g1:=h1 os
  have g2:=h2 os
  have g3:=h3 os
  cases e:HandSHeadRun.endF (HandSHeadRun.stepQ (HandSHeadRun.denQ HandSHeadRun.tabQ) r.prog w) M r.prog w os with
  | none=>rw [e] at g1; cases g1
  | some s =>
    rw [e,Option.map_some] at g1 g2 g3
    rw [Option.map_some]
    injection g1 with g1
    injection g2 with g2
    injection g3 with g3
    rw [g1,g2,g3]
end
theorem W5u {ts1 ts2:List (PySem.W.Frag→Bool)} {ds1 ds2:List DefB} {xs:List ErrB} {K:PySem.W.Frag} (h1:W63 ts1 ds1 [] K=X9d ds1 []) (h2:W63 ts2 ds2 xs K=X9d ds2 xs):W63 (ts1++ts2) (ds1++ds2) xs K=X9d (ds1++ds2) xs:=by
  unfold W63 X9d at *
  simp only [Prod.mk.injEq] at h1 h2 ⊢
  obtain ⟨a1,b1⟩:=h1
  obtain ⟨a2,b2⟩:=h2
  rw [Bool.and_eq_true] at a1 a2
  refine ⟨?_,?_⟩
  · rw [List.all_append,List.all_append,a1.1,a1.2,a2.1,a2.2]
    rfl
  · rw [List.map_nil,List.map_nil,List.append_nil,List.append_nil] at b1
    rw [List.map_append,List.map_append,List.append_assoc,List.append_assoc,b2,b1]
end Bv
namespace Bv
open PySem PySem.Spec L2
open PyProof.Rows hiding St
def V2p (n:Nat):List Addr:=mainGlobals :: (List.range n).reverse
def Y95 (n:Nat) (ts:List (PySem.W.Frag→Bool)) (ds:List DefB) (xs:List ErrB) (g:Addr→Option Obj):AlB:=W63 ts ds xs (He.frG g (V2p n))
def W70 (n:Nat) (ts:List (PySem.W.Frag→Bool)) (ds:List DefB) (xs:List ErrB):PySem.W.Hook where
  α:=AlB
  obs:=fun s=>Y95 n ts ds xs s.heap.get?
  val:=fun _=>X9d ds xs
  says:=fun _ h=>∃ K:PySem.W.Frag,K.In h∧X9n ts ds xs K
  of:=fun _ _ e=>⟨_,He.frG_in,e⟩
  keeps:=fun _ _ _ ⟨K,i,c⟩ k=>⟨K,PySem.W.Frag.In.keeps i k,c⟩
theorem W1f {n:Nat} {ts:List (PySem.W.Frag→Bool)} {ds:List DefB} {xs:List ErrB} {g:Addr→Option Obj} {s:Shared} (h:∀ a,g a=s.heap.get? a):Y95 n ts ds xs g=(W70 n ts ds xs).obs s:=by
  rw [show g=s.heap.get? from funext h]
  rfl
theorem X73 {o:Option PySem.W.SharedT} {n a p:Nat} {ts:List (PySem.W.Frag→Bool)} {ds:List DefB} {xs:List ErrB}
    (h1:o.map (fun s=>Y95 n (ts.take a) (ds.take p) [] (HandSHeadRun.getT s))=some (X9d (ds.take p) []))
    (h2:o.map (fun s=>Y95 n (ts.drop a) (ds.drop p) xs (HandSHeadRun.getT s))=some (X9d (ds.drop p) xs)):o.map (fun s=>Y95 n ts ds xs (HandSHeadRun.getT s))=some (X9d ds xs):=by
  cases o with
  | none=>cases h1
  | some s =>
    rw [Option.map_some] at h1 h2 ⊢
    injection h1 with h1
    injection h2 with h2
    have:=W5u (K:=He.frG (HandSHeadRun.getT s) (V2p n)) h1 h2
    rw [List.take_append_drop,List.take_append_drop] at this
    exact congrArg some this
end Bv
set_option maxHeartbeats 0
namespace Lw
open PySem PySem.Spec L2 Bv
open PyProof.Rows hiding St
def top (i:Nat):Stmt:=PySem.Challenge.pw_wordingkept_k45_papers_known_by_hand.main.body.getD i (.Pass ⟨0,0,0,0⟩)
abbrev Z0x:Stmt:=top 68
abbrev Z2v:Stmt:=top 69
abbrev Z02:Stmt:=top 70
abbrev Z3x:Stmt:=top 45
abbrev Z27:Stmt:=top 65
abbrev Z4n:Stmt:=top 48
abbrev Z3p:Stmt:=inClass (top 61) 0
abbrev Z3q:Stmt:=inClass (top 61) 1
abbrev Z1u:Stmt:=top 46
abbrev Z2b:Stmt:=top 47
abbrev Z2a:Stmt:=top 64
abbrev Z0h:Stmt:=inClass (top 66) 0
abbrev Z2u:Stmt:=inClass (top 66) 1
abbrev Z19:Stmt:=top 71
abbrev Z03:Stmt:=top 72
abbrev Z6x:Stmt:=top 8
abbrev Z1f:Stmt:=inClass (top 22) 2
abbrev Z3o:Stmt:=inClass (top 61) 2
abbrev Z1h:Stmt:=inClass (top 66) 3
abbrev Z1g:Stmt:=inClass (top 66) 4
abbrev Z2t:Stmt:=inClass (top 7) 0
abbrev Z2c:Stmt:=top 11
abbrev Z0u:Stmt:=top 13
abbrev Z1v:Stmt:=top 12
abbrev Z2d:Stmt:=top 14
abbrev Z5s:Stmt:=top 15
abbrev Z1j:Stmt:=top 9
abbrev Z2f:Stmt:=top 16
abbrev Z5u:Stmt:=top 17
abbrev Z09:Stmt:=top 20
abbrev Z0y:Stmt:=top 19
abbrev Z04:Stmt:=top 18
abbrev Z2w:Stmt:=top 21
abbrev Z0p:Stmt:=inClass (top 22) 1
abbrev Z1e:Stmt:=inClass (top 22) 0
abbrev Z1w:Stmt:=top 49
abbrev Z2z:Stmt:=top 58
abbrev Z2e:Stmt:=top 50
abbrev Z1a:Stmt:=top 54
abbrev Z2x:Stmt:=top 55
abbrev Z2y:Stmt:=top 10
abbrev Z3r:Stmt:=top 23
abbrev Z1x:Stmt:=top 24
abbrev Z0l:Stmt:=top 25
abbrev Z1i:Stmt:=top 26
abbrev Z5t:Stmt:=top 27
abbrev Z0z:Stmt:=top 56
abbrev Z6y:Stmt:=top 53
abbrev Y1r:Stmt:=top 73
def xsL:List ErrB:=[]
def Y34:DefB:=⟨fun K=>He.ma K (He.ga K "Step") "__init__", "__init__", "Step.__init__",defArgs Z2t,defBody Z2t,defScope Z2t,[]⟩
def X6j:DefB:=⟨fun K=>He.ga K "begun", "begun", "begun",defArgs Z6x,defBody Z6x,defScope Z6x,[]⟩
def Z97:DefB:=⟨fun K=>He.ga K "is_of_others", "is_of_others", "is_of_others",defArgs Z1j,defBody Z1j,defScope Z1j,[]⟩
def Y4b:DefB:=⟨fun K=>He.ga K "shows_own", "shows_own", "shows_own",defArgs Z2y,defBody Z2y,defScope Z2y,[]⟩
def X28:DefB:=⟨fun K=>He.ga K "is_let", "is_let", "is_let",defArgs Z5s,defBody Z5s,defScope Z5s,[]⟩
def X3a:DefB:=⟨fun K=>He.ga K "movers", "movers", "movers",defArgs Z5u,defBody Z5u,defScope Z5u,[]⟩
def Z93:DefB:=⟨fun K=>He.ma K (He.ga K "Closure") "note", "note", "Closure.note",defArgs Z1f,defBody Z1f,defScope Z1f,[]⟩
def Y89:DefB:=⟨fun K=>He.ga K "is_name", "is_name", "is_name",defArgs Z3x,defBody Z3x,defScope Z3x,[]⟩
def Y08:DefB:=⟨fun K=>He.ga K "is_sequence", "is_sequence", "is_sequence",defArgs Z1u,defBody Z1u,defScope Z1u,[]⟩
def Y22:DefB:=⟨fun K=>He.ga K "are_unlike", "are_unlike", "are_unlike",defArgs Z2b,defBody Z2b,defScope Z2b,[]⟩
def Y9a:DefB:=⟨fun K=>He.ga K "is_word", "is_word", "is_word",defArgs Z4n,defBody Z4n,defScope Z4n,[]⟩
def Y09:DefB:=⟨fun K=>He.ga K "is_standing", "is_standing", "is_standing",defArgs Z1a,defBody Z1a,defScope Z1a,[]⟩
def Y6q:DefB:=⟨fun K=>He.ma K (He.ga K "Row") "fits", "fits", "Row.fits",defArgs Z3o,defBody Z3o,defScope Z3o,[]⟩
def Y05:DefB:=⟨fun K=>He.ga K "_law_source", "_law_source", "_law_source",defArgs Z0x,defBody Z0x,defScope Z0x,[]⟩
def Y36:DefB:=⟨fun K=>He.ga K "_law_draw", "_law_draw", "_law_draw",defArgs Z2v,defBody Z2v,defScope Z2v,[]⟩
def Z85:DefB:=⟨fun K=>He.ga K "_law_thirteen", "_law_thirteen", "_law_thirteen",defArgs Z03,defBody Z03,defScope Z03,[]⟩
def Y26:DefB:=⟨fun K=>He.ga K "whose_then", "whose_then", "whose_then",defArgs Z2f,defBody Z2f,defScope Z2f,[]⟩
def Y4a:DefB:=⟨fun K=>He.ga K "need_lets", "need_lets", "need_lets",defArgs Z1w,defBody Z1w,defScope Z1w,[]⟩
def Y25:DefB:=⟨fun K=>He.ga K "need_fault", "need_fault", "need_fault",defArgs Z2e,defBody Z2e,defScope Z2e,[]⟩
def Y18:DefB:=⟨fun K=>He.ma K (He.ga K "Row") "__init__", "__init__", "Row.__init__",defArgs Z3p,defBody Z3p,defScope Z3p,[.bl true]⟩
def Y38:DefB:=⟨fun K=>He.ga K "are_names", "are_names", "are_names",defArgs Z2a,defBody Z2a,defScope Z2a,[]⟩
def Y6t:DefB:=⟨fun K=>He.ga K "names_in", "names_in", "names_in",defArgs Z27,defBody Z27,defScope Z27,[]⟩
def Z95:DefB:=⟨fun K=>He.ma K (He.ga K "Tool") "row_for", "row_for", "Tool.row_for",defArgs Z1h,defBody Z1h,defScope Z1h,[]⟩
def Z84:DefB:=⟨fun K=>He.ga K "_law_shuffled", "_law_shuffled", "_law_shuffled",defArgs Z02,defBody Z02,defScope Z02,[]⟩
def Y0t:DefB:=⟨fun K=>He.ma K (He.ga K "Tool") "__init__", "__init__", "Tool.__init__",defArgs Z0h,defBody Z0h,defScope Z0h,[.adr (He.dflAt ("Tool",some "__init__") 0)]⟩
def Z94:DefB:=⟨fun K=>He.ma K (He.ga K "Tool") "becomes", "becomes", "Tool.becomes",defArgs Z1g,defBody Z1g,defScope Z1g,[]⟩
def Y23:DefB:=⟨fun K=>He.ga K "given_step", "given_step", "given_step",defArgs Z2c,defBody Z2c,defScope Z2c,[]⟩
def Y1a:DefB:=⟨fun K=>He.ga K "looked_step", "looked_step", "looked_step",defArgs Z1v,defBody Z1v,defScope Z1v,[]⟩
def Y06:DefB:=⟨fun K=>He.ga K "carry_steps", "carry_steps", "carry_steps",defArgs Z09,defBody Z09,defScope Z09,[]⟩
def Z96:DefB:=⟨fun K=>He.ga K "is_lost_from", "is_lost_from", "is_lost_from",defArgs Z1i,defBody Z1i,defScope Z1i,[]⟩
def Y6r:DefB:=⟨fun K=>X9x "Row" "read" K, "read", "Row.read",defArgs Z3q,defBody Z3q,defScope Z3q,[]⟩
def Z8k:DefB:=⟨fun K=>He.ga K "delivery_steps", "delivery_steps", "delivery_steps",defArgs Z0u,defBody Z0u,defScope Z0u,[]⟩
def Y24:DefB:=⟨fun K=>He.ga K "look_steps", "look_steps", "look_steps",defArgs Z2d,defBody Z2d,defScope Z2d,[]⟩
def Y07:DefB:=⟨fun K=>He.ga K "editions_to", "editions_to", "editions_to",defArgs Z0y,defBody Z0y,defScope Z0y,[]⟩
def Y6s:DefB:=⟨fun K=>He.ga K "is_stuck", "is_stuck", "is_stuck",defArgs Z3r,defBody Z3r,defScope Z3r,[]⟩
def Y35:DefB:=⟨fun K=>X9x "Tool" "read" K, "read", "Tool.read",defArgs Z2u,defBody Z2u,defScope Z2u,[]⟩
def Z86:DefB:=⟨fun K=>He.ga K "edition_steps", "edition_steps", "edition_steps",defArgs Z04,defBody Z04,defScope Z04,[]⟩
def Y1c:DefB:=⟨fun K=>He.ga K "shows_fault", "shows_fault", "shows_fault",defArgs Z1x,defBody Z1x,defScope Z1x,[]⟩
def Z8l:DefB:=⟨fun K=>He.ga K "steps_to_fault", "steps_to_fault", "steps_to_fault",defArgs Z0l,defBody Z0l,defScope Z0l,[]⟩
def Y21:DefB:=⟨fun K=>He.ga K "_law_plain", "_law_plain", "_law_plain",defArgs Z19,defBody Z19,defScope Z19,[]⟩
def Y37:DefB:=⟨fun K=>He.ga K "all_steps", "all_steps", "all_steps",defArgs Z2w,defBody Z2w,defScope Z2w,[]⟩
def X29:DefB:=⟨fun K=>He.ga K "is_met", "is_met", "is_met",defArgs Z5t,defBody Z5t,defScope Z5t,[]⟩
def Z7j:DefB:=⟨fun K=>He.ma K (He.ga K "Closure") "go_from", "go_from", "Closure.go_from",defArgs Z0p,defBody Z0p,defScope Z0p,[]⟩
def Y39:DefB:=⟨fun K=>He.ga K "is_closed", "is_closed", "is_closed",defArgs Z2x,defBody Z2x,defScope Z2x,[]⟩
def Z92:DefB:=⟨fun K=>He.ma K (He.ga K "Closure") "__init__", "__init__", "Closure.__init__",defArgs Z1e,defBody Z1e,defScope Z1e,[]⟩
def Y1b:DefB:=⟨fun K=>He.ga K "paper_holds", "paper_holds", "paper_holds",defArgs Z0z,defBody Z0z,defScope Z0z,[]⟩
def X6k:DefB:=⟨fun K=>He.ga K "paper", "paper", "paper",defArgs Z6y,defBody Z6y,defScope Z6y,[]⟩
def Y4c:DefB:=⟨fun K=>He.ga K "standings", "standings", "standings",defArgs Z2z,defBody Z2z,defScope Z2z,[]⟩
def W7o:DefB:=⟨fun K=>He.ga K "law", "law", "law",defArgs Y1r,defBody Y1r,defScope Y1r,[]⟩
def dsL:List DefB:=[Y34,X6j,Z97,Y4b,X28,X3a,Z93,Y89,Y08,Y22,Y9a,Y09,Y6q,Y05,Y36,Z85,Y26,Y4a,Y25,Y18,Y38,Y6t,Z95,Z84,Y0t,Z94,Y23,Y1a,Y06,Z96,Y6r,Z8k,Y24,Y07,Y6s,Y35,Z86,Y1c,Z8l,Y21,Y37,X29,Z7j,Y39,Z92,Y1b,X6k,Y4c,W7o]
def tsL:List (PySem.W.Frag→Bool):=[Z6n "int",
  Z6n "abs",
  Z1o "_law_source",
  Z6n "list",
  Z6n "len",
  Z6n "range",
  Z1o "_law_draw",
  Z1o "_law_shuffled",
  Z9z "HEADS" ["marks", "shown", "asked"],
  Z1o "HEADS",
  Z6n "enumerate",
  Z6n "isinstance",
  X86 (fun K=>(.type "str")) (Z7f "str") [("Row",false),("Tool",false)],
  Z6n "str",
  Z9z "BARRED" ["any", "same", "take", "keep", "to"],
  Z1o "BARRED",
  W6r "MOST_LETTERS" 5,
  X5l "LETTERS" "abcdefghijklmnopqrstuvwxyz",
  Z6n "all",
  Z1o "is_name",
  Z1o "names_in",
  Z9z "TAKINGS" ["keep", "take"],
  Z1o "TAKINGS",
  Z9z "HAPPENINGS" ["give", "carry", "drop", "back", "right", "wrong"],
  Z1o "HAPPENINGS",
  Z1o "is_word",
  X86 (fun K=>(.type "bool")) (Z7f "bool") [("Row",false),("Tool",false)],
  Z6n "bool",
  Z4o ["Row"] "word",
  Z4o ["Row"] "old",
  Z4o ["Row"] "then",
  Z4o ["Row"] "take",
  X87 "Row",
  Z1o "Row",
  V18 "Row" "read",
  W3k [.type "list", .type "tuple"] (X4d ["list", "tuple"]) [("Row",false),("Tool",false)],
  Z6n "tuple",
  Z1o "is_sequence",
  Z6n "set",
  Z1o "are_unlike",
  Z1o "are_names",
  X86 (fun K=>(.ref (He.ga K "Row"))) Y2z [("Row",true),("Tool",false)],
  Z6n "any",
  Z4o ["Tool"] "marks",
  Z4o ["Tool"] "shown",
  Z4o ["Tool"] "asked",
  Z4o ["Tool"] "rows",
  Z4o ["Tool"] "blank",
  X87 "Tool",
  Z1o "Tool",
  V18 "Tool" "read",
  Z1o "_law_plain",
  Z1o "_law_thirteen",
  Z4o ["Closure"] "maker",
  Z4o ["Closure"] "lets",
  X5l "NOBODY" "none",
  Z1o "begun",
  Z4o ["Closure"] "order",
  Z4o ["Closure"] "ahead",
  Z4o ["Closure"] "rows_done",
  Z4o ["Closure"] "resting",
  Z4o ["Step"] "row",
  Z4o ["Step"] "later",
  W19 "Closure",
  X03 "Closure" "note",
  W19 "Row",
  X03 "Row" "fits",
  W19 "Tool",
  X03 "Tool" "row_for",
  X03 "Tool" "becomes",
  Z4o ["Step"] "how",
  Z4o ["Step"] "source",
  X87 "Step",
  Z1o "Step",
  X5l "MINE" "mine",
  Z1o "given_step",
  X5l "THEIRS" "theirs",
  X5l "OTHER" "other",
  Z1o "delivery_steps",
  Z1o "looked_step",
  Z1o "look_steps",
  Z1o "is_let",
  Z1o "is_of_others",
  Z1o "whose_then",
  Z1o "movers",
  Z1o "carry_steps",
  Z1o "editions_to",
  Z1o "edition_steps",
  Z1o "all_steps",
  X03 "Closure" "go_from",
  Z9z "LETS" ["alike", "back", "late", "near"],
  Z1o "LETS",
  Z1o "need_lets",
  X87 "Closure",
  Z1o "Closure",
  Z6n "sorted",
  Z1o "standings",
  Z9z "FAULTS" ["again", "fallen", "lost", "strange", "stuck", "vain"],
  Z1o "FAULTS",
  Z1o "need_fault",
  X86 (fun K=>(.type "tuple")) (Z7f "tuple") [("Row",false),("Tool",false)],
  W6r "PARTS" 6,
  Z9z "WHOSE" ["none", "mine", "theirs", "other"],
  Z1o "WHOSE",
  Z1o "is_standing",
  Z1o "is_closed",
  Z1o "shows_own",
  Z1o "is_stuck",
  Z1o "shows_fault",
  Z1o "steps_to_fault",
  Z1o "is_lost_from",
  Z1o "is_met",
  Z1o "paper_holds",
  Z1o "paper",
  Z1o "law",
  W9p ("Tool",some "__init__") 0]
def W8a:List PySem.Str:=["_wall", "NOBODY", "MINE", "THEIRS", "OTHER", "WHOSE", "Step", "begun", "is_of_others", "shows_own", "given_step", "looked_step", "delivery_steps", "look_steps", "is_let", "whose_then", "movers", "edition_steps", "editions_to", "carry_steps", "all_steps", "Closure", "is_stuck", "shows_fault", "steps_to_fault", "is_lost_from", "is_met", "WordError", "InvalidRow", "InvalidTool"]
def W8b:List PySem.Str:=["InvalidText", "InvalidLets", "InvalidFault", "NoRow", "NoMark", "HAPPENINGS", "FAULTS", "LETS", "BARRED", "LETTERS", "MOST_LETTERS", "is_integer", "is_name", "is_sequence", "are_unlike", "is_word", "need_lets", "need_fault", "PARTS", "paper", "is_standing", "is_closed", "paper_holds", "standings", "TAKINGS", "Row", "HEADS", "are_names", "names_in", "Tool"]
def W8c:List PySem.Str:=["_law_source", "_law_draw", "_law_shuffled", "_law_plain", "_law_thirteen"]
def looseL:List PySem.Str:=W8a++W8b++W8c
abbrev Rw:PySem.W.OpenRow:=PySem.W.OpenLaw.row PySem.Challenge.rw_wordingkept_k45_papers_known_by_hand
abbrev Vw:Program:=PySem.W.view Rw.prog [73]
abbrev hkL:PySem.W.Hook:=W70 1500 tsL dsL xsL
def obL (s:PySem.W.SharedT):AlB:=Y95 1500 tsL dsL xsL (HandSHeadRun.getT s)
theorem obL_eq (s:PySem.W.SharedT):obL s=hkL.obs s.abs:=W1f (HandSHeadRun.getT_eq s)
section
open PySem.W PySem.Calls
theorem V1x (w:World) (os:OsState):(HandSHeadRun.endF (HandSHeadRun.stepQ (HandSHeadRun.denQ HandSHeadRun.tabQ) Rw.prog w) 60000 Rw.prog w os).map (fun s=>HandSHeadRun.looksF Rw.prog (boot_heap w.params) s.abs)=some true:=by kernel_rfl
theorem V1y (w:World) (os:OsState):(HandSHeadRun.endF (HandSHeadRun.stepQ (HandSHeadRun.denQ HandSHeadRun.tabQ) Rw.prog w) 60000 Rw.prog w os).map (fun s=>HandSHeadRun.seenQ Vw looseL (importedModules Rw.prog.main.body) (fun s=>xlAt Vw [] s && recOk Rw.toRowW.records s) s.abs)=some (openGood Vw looseL):=by kernel_rfl
theorem V1z (w:World) (os:OsState):(HandSHeadRun.endF (HandSHeadRun.stepQ (HandSHeadRun.denQ HandSHeadRun.tabQ) Rw.prog w) 60000 Rw.prog w os).map (fun s=>Y95 1500 (tsL.take 58) (dsL.take 25) [] (HandSHeadRun.getT s))=some (X9d (dsL.take 25) []):=by kernel_rfl
theorem V10 (w:World) (os:OsState):(HandSHeadRun.endF (HandSHeadRun.stepQ (HandSHeadRun.denQ HandSHeadRun.tabQ) Rw.prog w) 60000 Rw.prog w os).map (fun s=>Y95 1500 (tsL.drop 58) (dsL.drop 25) xsL (HandSHeadRun.getT s))=some (X9d (dsL.drop 25) xsL):=by kernel_rfl
theorem runL (w:World):HandSHeadRun.RunEq Rw Vw hkL obL 60000 looseL w:=W1z (V1x w) (V1y w) fun os=>X73 (V1z w os) (V10 w os)
end
end Lw
set_option maxHeartbeats 4000000
namespace Bv
open PySem PySem.Spec L2
open PyProof.Rows hiding St
structure OwnSp (K:PySem.W.Frag) (C:Str) (m:Str) (f:Addr):Prop where
  at_:PySem.W.findIn K (.ref (He.ga K C)) m=some (some (.ref f))
  fn:PySem.W.isFn K (.ref f)=true
  fi:PySem.W.fnIn K f=true
variable [HasW]
section
variable {X:Cx} {Wx:WX} {pos p:Pos} {a b e:Expr} {es:List Expr} {ma mb:M} {ms:MG (List Bv.X)} {k j:Nat} {f:Addr} {fd:FuncData} {ps:List Str} {g:List D→PR} {C:Str}
end
end Bv
namespace Bv
open PySem PySem.Spec L2
open PyProof.Rows hiding St
variable [HasW]
section
variable {X:Cx} {Wx:WX} {k j:Nat} {f:Addr} {fd:FuncData} {ps:List Str} {g:List D→PR} {C:Str}
end
section
variable {X:Cx}
end
def V2v (a:D) (y:Bool):Bool:=match a with
  | .bl x=>decide (x=y)
  | _=>false
def isA (neg:Bool) (a b:D):Option D:=match b with
  | .bl y=>some (.bl (V2v a y ^^ neg))
  | _=>none
section
variable {X:Cx} {Wx:WX} {k:Nat}
end
end Bv
namespace PySem
open Sem (wp)
open AutoSeq1 (wpAny_loadPart')
open MeetsSeq MeetsSeq2 MeetsSeq3 SeqRoads2
namespace BvLs
section
variable {prog:Program} {w:World} {A:Around} {R:Result→Shared→Prop}
variable {E:Value→Shared→Prop} {s:Shared}
end
end BvLs
end PySem
namespace Bv
open PySem PySem.Spec L2
open PyProof.Rows hiding St
variable [HasW]
section
variable {X:Cx} {k:Nat} {f:Addr} {fd:FuncData} {ps:List Str} {g:List D→PR} {C:Str}
end
section
variable {X:Cx} {Wx:WX} {k j:Nat} {C:Str} {g:List D→PR}
end
end Bv
namespace Bv
open PySem PySem.Spec L2
open PyProof.Rows hiding St
variable [HasW]
section
variable {lv:Ev} {X:Cx} {i j:Nat} {n x:Str} {np p pos:Pos} {e:Expr} {m:SX}
end
section
variable {X:Cx} {Wx:WX} {k i:Nat} {n x y:Str} {c:Value} {body:List Stmt} {np np2 yp rpos pos pos2 pos3:Pos} {ex:Expr} {mb:MS} {m:Ev→SX} {tab:List (Str × Bool)} {C2 p:Str} {fI:Addr}
end
end Bv
namespace Bv
open PySem PySem.Spec L2
open PyProof.Rows hiding St
variable [HasW]
section
variable {α:Type}
def Y3i (kvs:List (D × α)) (k:D):Option α:=(kvs.find? fun p=>decide (p.1=k)).map (·.2)
def Y69 (kvs:List (D × α)) (k:D) (v:α):List (D × α):=if (kvs.any fun p=>decide (p.1=k))=true then kvs.map (fun p=>if p.1=k then (p.1,v) else p) else kvs++[(k,v)]
abbrev KVR (R:α→V→Prop):List (D × α)→List (Key × V)→Prop:=Paired fun p q=>p.1.key?=some q.1∧R p.2 q.2
theorem key_inj {k k2:D} {q:Key} (h:k.key?=some q) (h2:k2.key?=some q):k=k2:=by
  cases k with
  | int i=>cases h; cases k2 with
    | int j=>cases h2; rfl
    | _=>cases h2
  | str x=>cases h; cases k2 with
    | str y=>cases h2; rfl
    | _=>cases h2
  | _=>cases h
theorem X1v {k k2:D} {q q2:Key} (h:k.key?=some q) (h2:k2.key?=some q2):decide (k=k2)=decide (q=q2):=by
  by_cases e:k=k2
  · subst e
    rw [h] at h2; cases h2
    rw [decide_eq_true rfl,decide_eq_true rfl]
  · have ne:¬ q=q2:=fun z=>e (key_inj (z ▸ h) h2)
    rw [decide_eq_false e,decide_eq_false ne]
theorem KVR.look {R:α→V→Prop} {k:D} {q:Key} (hk:k.key?=some q):∀ {kvs:List (D × α)} {ks:List (Key × V)},KVR R kvs ks→(∃ d v,Y3i kvs k=some d∧valV ks q=some v∧R d v) ∨ (Y3i kvs k=none∧valV ks q=none)
  | _,_, .nil => .inr ⟨rfl,rfl⟩
  | (k1,d1) :: r,(q1,v1) :: s, .cons h t=>by
    have e:=X1v h.1 hk
    unfold Y3i valV
    rw [List.find?_cons,List.find?_cons]
    have e:decide (k1=k)=decide (q1=q):=e
    cases c:decide (q1=q) with
    | true=>rw [c] at e; rw [e]; exact .inl ⟨d1,v1,rfl,rfl,h.2⟩
    | false=>rw [c] at e; rw [e]; exact KVR.look hk t
theorem KVR.any {R:α→V→Prop} {k:D} {q:Key} (hk:k.key?=some q):∀ {kvs:List (D × α)} {ks:List (Key × V)},KVR R kvs ks→(kvs.any fun p=>decide (p.1=k))=(ks.any fun p=>decide (p.1=q))
  | _,_, .nil=>rfl
  | (k1,d1) :: r,(q1,v1) :: s, .cons h t=>by
    rw [List.any_cons,List.any_cons,KVR.any hk t]
    show (decide (k1=k) || _)=(decide (q1=q) || _)
    rw [X1v h.1 hk]
theorem KVR.setAll {R:α→V→Prop} {k:D} {q:Key} {d:α} {v:V} (hk:k.key?=some q) (hv:R d v):∀ {kvs:List (D × α)} {ks:List (Key × V)},KVR R kvs ks→KVR R (kvs.map fun p=>if p.1=k then (p.1,d) else p) (ks.map fun p=>if p.1=q then (p.1,v) else p)
  | _,_, .nil => .nil
  | (k1,d1) :: r,(q1,v1) :: s, .cons h t=>by
    have e:=X1v h.1 hk
    refine .cons ?_ (KVR.setAll hk hv t)
    show (if k1=k then (k1,d) else (k1,d1)).1.key?=some (if q1=q then (q1,v) else (q1,v1)).1∧R (if k1=k then (k1,d) else (k1,d1)).2 (if q1=q then (q1,v) else (q1,v1)).2
    by_cases c:q1=q
    · have c2:k1=k:=of_decide_eq_true (by rw [show decide (k1=k)=decide (q1=q) from e]; exact decide_eq_true c)
      rw [if_pos c,if_pos c2]; exact ⟨h.1,hv⟩
    · have c2:¬ k1=k:=of_decide_eq_false (by rw [show decide (k1=k)=decide (q1=q) from e]; exact decide_eq_false c)
      rw [if_neg c,if_neg c2]; exact h
theorem KVR.put {R:α→V→Prop} {k:D} {q:Key} {d:α} {v:V} (hk:k.key?=some q) (hv:R d v) {kvs:List (D × α)} {ks:List (Key × V)} (r:KVR R kvs ks):KVR R (Y69 kvs k d) (putK ks q v):=by
  unfold Y69 putK
  rw [KVR.any hk r]
  split
  · exact KVR.setAll hk hv r
  · exact Paired.append r (.cons ⟨hk,hv⟩ .nil)
end
theorem W2v {K:PySem.W.Frag} {W:Wd} {H:Hp} {k:D} {v:V} {q:Key} (h:k.key?=some q) (a:AV K W H k v):v=kV q:=by
  cases k with
  | int i=>cases h; cases a; rfl
  | str x=>cases h; cases a; rfl
  | _=>cases h
def X6l (S:Sto):X→Option (List (D × X))
  | .d (.dic kvs)=>some (kvs.map fun p=>(p.1, .d p.2))
  | .d _=>none
  | .r n=>match S[n]? with
    | some (.dic kvs)=>some kvs
    | some (.fdc kvs)=>some kvs
    | _=>none
theorem KVR.ofData {K:PySem.W.Frag} {W:Wd} {ρ:List Addr} {H:Hp}:∀ {kvs:List (D × D)} {ks:List (Key × V)},AVk K W H kvs ks→KVR (AX K W ρ H) (kvs.map fun p=>(p.1,X.d p.2)) ks
  | _,_, .nil => .nil
  | _,_, .cons k a t => .cons ⟨k, .d a⟩ (KVR.ofData t)
theorem X6m {K:PySem.W.Frag} {Z:Wd} {ρ:List Addr} {S:Sto} {H:Hp} {x:Bv.X} {v:V} {kvs:List (D × Bv.X)} (st:Sta K Z ρ S H) (a:AX K (Wn Z ρ) ρ H x v) (h:X6l S x=some kvs):∃ p ks,v = .ref p∧Rd H p (.dK ks)∧KVR (AX K (Wn Z ρ) ρ H) kvs ks:=by
  cases a with
  | d a =>
    cases a with
    | dic w e hs=>cases h; exact ⟨_,_,rfl, .inr ⟨_,e⟩,KVR.ofData hs⟩
    | _=>cases h
  | r e =>
    rename_i n a
    unfold X6l at h
    cases q:S[n]? with
    | none=>simp only [q] at h; cases h
    | some o =>
      simp only [q] at h
      cases o with
      | dic kvs=>cases h; obtain ⟨ks,e2,r⟩:=st.ob n _ _ q e; exact ⟨_,ks,rfl, .inl e2,r⟩
      | fdc kvs=>cases h; obtain ⟨ob,ks,e2,r⟩:=st.ob n _ _ q e; exact ⟨_,ks,rfl, .inr ⟨ob,e2⟩,r⟩
      | _=>cases h
def dkX (S:Sto) (x y:Bv.X):Option (List (D × Bv.X) × D):=(X6l S x).bind fun kvs=>match y with
  | .d k=>if k.key?.isSome then some (kvs,k) else none
  | .r _=>none
theorem W4d {S:Sto} {x y:Bv.X} {p:List (D × Bv.X) × D} (h:dkX S x y=some p):X6l S x=some p.1∧y = .d p.2∧∃ q,p.2.key?=some q:=by
  obtain ⟨kvs,h1,h2⟩:=Option.bind_eq_some_iff.mp h
  cases y with
  | d k =>
    have h2:(if k.key?.isSome then some (kvs,k) else none)=some p:=h2
    split at h2
    · rename_i c
      cases h2
      exact ⟨h1,rfl,Option.isSome_iff_exists.mp c⟩
    · cases h2
  | r _=>cases h2
def X1o (S:Sto) (x y:Bv.X):R Bv.X:=Z5r ((dkX S x y).bind fun p=>Y3i p.1 p.2) S
def Y1l (mo mi:M):M:=fun e S=>(mo e S).bind fun x S1=>(mi e S1).bind fun y S2=>X1o S2 x y
section
variable {X:Cx} {Wx:WX} {pos apos cpos:Pos} {o i e f:Expr} {mo mi mx:M}
theorem W4b {K:PySem.W.Frag} {Z:Wd} {ρ:List Addr} {S:Sto} {H:Hp} {x y:Bv.X} {v u:V} {p:List (D × Bv.X) × D} (st:Sta K Z ρ S H) (a:AX K (Wn Z ρ) ρ H x v) (b:AX K (Wn Z ρ) ρ H y u) (h:dkX S x y=some p) :
    ∃ c ks q,v = .ref c∧Rd H c (.dK ks)∧DGet H c u (valV ks q)∧((∃ d w,Y3i p.1 p.2=some d∧valV ks q=some w∧AX K (Wn Z ρ) ρ H d w) ∨ (Y3i p.1 p.2=none∧valV ks q=none)):=by
  obtain ⟨h1,h2,q,hk⟩:=W4d h
  subst h2
  obtain ⟨c,ks,rfl,r,kv⟩:=X6m st a h1
  cases b with
  | d b=>exact ⟨c,ks,q,rfl,r, .inl ⟨ks,q,r,W2v hk b,rfl⟩,kv.look hk⟩
theorem X1y (hu:X.A.units + 1 < cLine) (ho:ME X Wx o mo) (hi:ME X Wx i mi) (hs:NoSl i:=by intro _ _; rfl):ME X Wx (.Subscript o i pos) (Y1l mo mi) :=
  PE.of (pe_dget hu ho hi hs) fun σ H Q ⟨Z,ρ,e,S,st,ev,p⟩=>V2 (rel:=AX X.K) st ev p fun ρ1 H1 v x S1 st1 g1 ev1 a1 p1=>V2 (rel:=AX X.K) st1 ev1 p1 fun ρ2 H2 u y S2 st2 g2 ev2 a2 p2=>by
    have ax:=a1.mv (g2.mv st1) g2.pre
    obtain ⟨d,hl,p3⟩:=(show Z91 X.K Z ρ2 H2 Wx σ Q (X1o S2 x y) from p2).opt
    obtain ⟨p,h1,h2⟩:=Option.bind_eq_some_iff.mp hl
    obtain ⟨c,ks,q,rfl,r,g,lk⟩:=W4b st2 ax a2 h1
    rcases lk with ⟨d2,w,e1,e2,aw⟩ | ⟨e1,_⟩
    · rw [h2] at e1; cases e1
      rw [e2] at g
      exact ⟨c,w,rfl,g,V7.ret0 p3 st2 aw⟩
    · rw [h2] at e1; cases e1
theorem V1f {op:CmpOp} {m:M} (h:PC X op i o (RE X.K Wx m)) (hb:behindInMarks op o=false):MT X Wx (.Compare i [op] [o] pos) (Z0d m):=⟨fun pins s σ H Q I hq=>(pt_cmp h hb).run pins s σ H Q I (by
  obtain ⟨Z,ρ,e,S,st,ev,p⟩:=hq
  refine V2 (rel:=AX X.K) st ev p fun ρ1 H1 v x S1 st1 g1 ev1 a1 p1=>?_
  match x,a1,p1 with
  | .d (.bl b), .d (.bl _),p1=>exact ⟨b,rfl,V7.ret0 p1 st1 rfl⟩
  | .d (.non),_,p1=>exact p1.elim
  | .d (.int _),_,p1=>exact p1.elim
  | .d (.str _),_,p1=>exact p1.elim
  | .d (.tup _),_,p1=>exact p1.elim
  | .d (.lst _),_,p1=>exact p1.elim
  | .d (.dic _),_,p1=>exact p1.elim
  | .d (.obj _ _),_,p1=>exact p1.elim
  | .d (.gl _),_,p1=>exact p1.elim
  | .d (.scr _),_,p1=>exact p1.elim
  | .r _,_,p1=>exact p1.elim)⟩
end
end Bv
namespace Bv
open PySem PySem.Spec L2
open PyProof.Rows hiding St
variable [HasW]
def tFz (t:TE):TE:=fun σ H Q=>t σ H fun v H1=>Q v H1 ∨ ∃ a u,H1 a=some u∧Mut (some u)∧∀ od,Q v (upd H1 a (.frz od u))
theorem V1r {X:Cx} {e:Expr} {t:TE} (h:PE X e t):PE X e (tFz t):=⟨fun pins s σ H Q I q=>thn (h.run pins s σ H _ I q) fun u s1 ⟨v,H1,I1,r,w⟩=>by
  rcases w with w | ⟨a,o,ha,mu,w⟩
  · exact ⟨v,H1,I1,r,w⟩
  · obtain ⟨od,I2⟩:=I1.lock ha mu
    exact ⟨v,_,I2,r,w od⟩⟩
def Y8q (S:Sto) (x y:Bv.X):Option (Nat × List (D × Bv.X) × D):=match x with
  | .r n=>(match S[n]? with
    | some (.dic kvs)=>(match y with
      | .d k=>if k.key?.isSome && decide (kvs.length < sizeLine) then some (n,kvs,k) else none
      | .r _=>none)
    | _=>none)
  | .d _=>none
theorem X8f {S:Sto} {x y:Bv.X} {p:Nat × List (D × Bv.X) × D} (h:Y8q S x y=some p):x = .r p.1∧S[p.1]?=some (.dic p.2.1)∧y = .d p.2.2∧(∃ q,p.2.2.key?=some q)∧p.2.1.length < sizeLine:=by
  unfold Y8q at h
  cases x with
  | d _=>cases h
  | r n =>
    cases q:S[n]? with
    | none=>simp only [q] at h; cases h
    | some o =>
      simp only [q] at h
      cases o with
      | dic kvs =>
        cases y with
        | r _=>cases h
        | d k =>
          have h:(if k.key?.isSome && decide (kvs.length < sizeLine) then some (n,kvs,k) else none)=some p:=h
          split at h
          · rename_i c
            cases h
            obtain ⟨c1,c2⟩:=Bool.and_eq_true_iff.mp c
            exact ⟨rfl,q,rfl,Option.isSome_iff_exists.mp c1,of_decide_eq_true c2⟩
          · cases h
      | _=>cases h
def Y3e (mo mi mv:M):MS:=fun e S=>(mv e S).so e fun z S1=>(mo e S1).so e fun x S2=>(mi e S2).so e fun y S3=>match Y8q S3 x y with
  | some p => .go (.nx e) (S3.set p.1 (.dic (Y69 p.2.1 p.2.2 z)))
  | none => .bad
theorem KVR.mv {K:PySem.W.Frag} {W W':Wd} {ρ ρ':List Addr} {H H':Hp} (m:Mv W H W' H') (p:ρ <+: ρ') {kvs:List (D × X)} {ks:List (Key × V)} (h:KVR (AX K W ρ H) kvs ks):KVR (AX K W' ρ' H') kvs ks:=Paired.mapP h fun _ _ q=>⟨q.1,q.2.mv m p⟩
section
variable {X:Cx} {Wx:WX} {pos pos' apos cpos:Pos} {o i e f value tg:Expr} {mo mi mv m:M}
theorem X7w (hu:X.A.units + 1 < cLine) (ho:ME X Wx o mo) (hi:ME X Wx i mi) (hv:ME X Wx value mv) (hs:swapsWith value (some (.Subscript o i pos')) pos.line X.env=pure false:=by rfl):MP X Wx (.Assign [.Subscript o i pos'] value pos) (Y3e mo mi mv) :=
  PS.of (ps_dput hu ho hi hv hs) fun D σ H ⟨Z,ρ,e,S,st,ev,q⟩=>by
    refine Z15 (rel:=AX X.K) st ev q fun ρ1 H1 w z S1 s1 g1 ev1 a1 q1=>Z15 (rel:=AX X.K) s1 ev1 q1 fun ρ2 H2 v x S2 s2 g2 ev2 a2 q2=>Z15 (rel:=AX X.K) s2 ev2 q2 fun ρ3 H3 u y S3 s3 g3 ev3 a3 q3=>?_
    have az:=(a1.mv (g2.mv s1) g2.pre).mv (g3.mv s2) g3.pre
    have ax:=a2.mv (g3.mv s2) g3.pre
    have q3:Z4t X.K Z ρ3 H3 Wx D (match Y8q S3 x y with
      | some p => .go (.nx e) (S3.set p.1 (.dic (Y69 p.2.1 p.2.2 z)))
      | none => .bad):=q3
    cases h:Y8q S3 x y with
    | none=>rw [h] at q3; exact q3.elim
    | some p =>
      rw [h] at q3
      have q9:Z4t X.K Z ρ3 H3 Wx D (.go (.nx e) (S3.set p.1 (.dic (Y69 p.2.1 p.2.2 z)))):=q3
      obtain ⟨e5,hS,e6,⟨k,hk⟩,hl⟩:=X8f h
      subst e5 e6
      cases ax with
      | r ha =>
        rename_i a
        obtain ⟨ks,e1,kv⟩:=s3.ob _ _ _ hS ha
        cases a3 with
        | d a3 =>
          have hu:=W2v hk a3
          subst hu
          have kv2:KVR (AX X.K (Wn Z ρ3) ρ3 H3) (Y69 p.2.1 p.2.2 z) (putK ks k w):=KVR.put hk az kv
          have inρ:a ∈ ρ3:=List.mem_of_getElem? ha
          have m:Mv (Wn Z ρ3) H3 (Wn Z ρ3) (upd H3 a (.dK (putK ks k w))):=fun b o hb z=>⟨hb,by rw [upd_ne (fun y=>hb (.inr (by rw [y]; exact inρ)))]; exact z⟩
          obtain ⟨s4,g4⟩:=s3.put (o' := .dic (Y69 p.2.1 p.2.2 z)) (u := .dK (putK ks k w)) ha (fun _ _ z=>by rw [e1] at z; cases z) ⟨_,upd_same,KVR.mv m (List.prefix_refl _) kv2⟩
          exact ⟨a,_,rfl, .k e1 (by rw [← Paired.length kv]; exact hl),q9 ρ3 _ _ s4 g4 (ev3.mv (g4.mv s3) (List.prefix_refl _))⟩
def X1x:M:=fun _ S => .ok (.r S.length) (S++[.dic []])
theorem W0x:ME X Wx (.Dict [] [] pos) X1x:=PE.of pe_dnewK fun σ H Q ⟨Z,ρ,e,S,st,ev,p⟩=>fun a ha=>by
  have k:=Z0m (o := .dK []) ha
  obtain ⟨s1,g1⟩:=st.push (o' := .dic []) ha k ⟨[],upd_same, .nil⟩
  exact p _ _ _ s1 g1 (.r (by rw [st.len]; simp))
end
section
variable {X:Cx} {Wx:WX} {apos cpos tpos:Pos} {e tg:Expr} {m:M} {elts:List Expr} {kk:Nat}
end
end Bv
namespace Bv
open PySem PySem.Spec L2
open PyProof.Rows hiding St
variable [HasW]
section
variable {X:Cx} {Wx:WX} {pos:Pos} {tg iter kx vx c:Expr} {ifs:List Expr} {mi:MIt} {mt:MG Bool} {mk mv:M} {t:Tg} {vs:List Nat}
end
end Bv
namespace Bv
open PySem PySem.Spec L2
open PyProof.Rows hiding St
section
variable {X:Cx}
theorem W6p {kx vx:Expr} {gs:List Comprehension} {scope:Scope} {pos py:Pos} {y:Str} {l:Nat} {env:Env} (hk:env.scope.kind = .function) (hy:env.scope.names.lookup y=some .local) (hl:(py.line == pos.line)=true)
    (ha:(scope.names.any fun (n,k)=>n == y && (k == .local || k == .cell))=false):swapsWith (.DictComp kx vx gs scope pos) (some (.Name y py)) l env=pure true:=by
  have ky:env.kindOf y=some .local:=hy
  have hb:env.blockKind = .function:=by unfold Env.blockKind; rw [hk]; rfl
  unfold swapsWith
  simp only [hb,ky,ha,Expr.pos,hl]
  rfl
end
variable [HasW]
section
variable {X:Cx} {Wx:WX} {pos:Pos} {tg iter kx vx c:Expr} {ifs:List Expr} {mi:MIt} {mt:MG Bool} {mk mv:M} {t:Tg} {vs:List Nat}
end
end Bv
namespace Bv
open PySem PySem.Spec L2
open PyProof.Rows hiding St
variable [HasW]
end Bv
namespace Bv
open PySem PySem.Spec L2
open PyProof.Rows hiding St
variable [HasW]
section
variable {t t1:Tg} {l:Lk} {mt mt1:MG Bool} {mi1:MIt} {me:M} {e:Ev} {vs1:List Nat}
end
section
variable {X:Cx} {Wx:WX} {pos:Pos} {tg iter tg1 iter1 elt c:Expr} {ifs ifs1:List Expr} {mi mi1:MIt} {mt mt1:MG Bool} {me:M} {t t1:Tg} {vs vs1:List Nat}
end
end Bv
namespace Bv
open PySem PySem.Spec L2
open PyProof.Rows hiding St
variable [HasW]
section
variable {K:PySem.W.Frag}
end
section
variable {X:Cx} {Wx:WX} {pos apos:Pos} {o e:Expr} {mo m:M}
end
end Bv
namespace Bv
open PySem PySem.Spec L2
open PyProof.Rows hiding St
variable [HasW]
section
variable {K:PySem.W.Frag}
end
section
variable {X:Cx} {Wx:WX} {pos p:Pos} {x:Str} {e:Expr} {es:List Expr} {ms:MG (List Bv.X)}
end
end Bv
namespace Bv
open PySem PySem.Spec L2
open PyProof.Rows hiding St
variable [HasW]
section
variable {X:Cx} {Wx:WX} {pos p1 p2 p3:Pos} {o e:Expr} {mo m:M} {n:Nat}
end
section
variable {X:Cx} {Wx:WX} {k j:Nat} {C f:Str} {fa:Addr} {fd:FuncData} {ps:List Str} {sp:Sp} {e:Expr} {pos:Pos} {g:List D→PR} {mo:M}
end
end Bv
namespace Bv
open PySem PySem.Spec L2
open PyProof.Rows hiding St
variable [HasW]
section
variable {X:Cx} {Wx:WX} {k:Nat}
end
section
variable {X:Cx} {Wx:WX} {pos p:Pos} {x:Str} {C:Str} {g:List Bv.X→Sto→R Bv.X}
end
end Bv
namespace Bv
open PySem PySem.Spec L2
open PyProof.Rows hiding St
variable [HasW]
section
variable {X:Cx} {Wx:WX} {pos:Pos} {a b c:Expr} {ms:MG (List Bv.X)}
end
end Bv
namespace Bv
open PySem PySem.Spec L2
open PyProof.Rows hiding St
variable [HasW]
end Bv
namespace Bv
open PySem PySem.Spec L2
open PyProof.Rows hiding St
variable [HasW]
def lfV:Leaf→V→Prop
  | .none,v=>v = .non
  | .num i,v=>v = .int i ∨ ∃ b,v = .bl b∧(if b=true then (1:Int) else 0)=i
  | .text x,v=>v = .str x
theorem V1b {k:Leaf} {v:V} {u:Value} (h:lfV k v) (r:RelV v u):Leaf.isOf k u=true:=by
  cases k with
  | none =>
    have h:v = .non:=h
    subst h
    cases (show u=Value.none from r)
    rfl
  | num i =>
    rcases (show v = .int i ∨ ∃ b,v = .bl b∧(if b=true then (1:Int) else 0)=i from h) with h | ⟨b,h,e⟩
    · subst h
      obtain ⟨t,rfl⟩:=(show ∃ t,u=Value.int i t from r)
      exact decide_eq_true rfl
    · subst h
      cases (show u=Value.bool b from r)
      exact decide_eq_true e
  | text x =>
    have h:v = .str x:=h
    subst h
    obtain ⟨t,rfl⟩:=(show ∃ t,u=Value.str x t from r)
    show (x == x)=true
    simp
abbrev LVs:List Leaf→List V→Prop:=Paired lfV
theorem X3o {P:Program} {w:World}:∀ {ks:List Leaf} {vs:List V} {us:List Value},LVs ks vs→Vals vs us→ItemsAre (leafKind P w) ks us
  | _,_,_, .nil,r=>by cases r; exact .nil
  | _,_,_, .cons h t,r=>by
    cases r with
    | cons a b=>exact .cons (V1b h a) (X3o t b)
def X09 (K:PySem.W.Frag) (H:Hp) (b:Addr) (ks:List Leaf):Prop:=∃ vs,SqT K H b vs∧LVs ks vs
abbrev TX:=List Leaf × Addr × V
structure DTat (K:PySem.W.Frag) (H:Hp) (a:Addr) (xs:List TX):Prop where
  at_:Rd H a (TDo a xs)
  keys:∀ q ∈ xs,X09 K H q.2.1 q.1
abbrev KTx:List TX→List (List Leaf × Addr × Value)→Prop:=Paired fun p q=>p.1=q.1∧p.2.1=q.2.1∧RelV p.2.2 q.2.2
def atT (xs:List TX) (k:List Leaf):Option V:=(xs.find? fun x=>decide (x.1=k)).map (·.2.2)
def Y2r (xs:List TX) (k:List Leaf) (b:Addr) (v:V):List TX:=if (xs.any fun x=>decide (x.1=k))=true then xs.map (fun x=>if x.1=k then (x.1,x.2.1,v) else x) else xs++[(k,b,v)]
theorem KTx.val {xs:List TX} {ys:List (List Leaf × Addr × Value)} (r:KTx xs ys) (k:List Leaf):RelO (atT xs k) ((atKey ys k).map (·.2)):=by
  induction r with
  | nil=>exact True.intro
  | @cons p q ps qs h t ih =>
    obtain ⟨h1,_,h2⟩:=h
    by_cases e:p.1=k
    · have e':q.1=k:=h1.symm.trans e
      have b:atKey (q :: qs) k=some q.2:=by simp [atKey,List.find?_cons,e']
      have a:atT (p :: ps) k=some p.2.2:=by simp [atT,List.find?_cons,e]
      rw [a,b]; exact h2
    · have e':¬ q.1=k:=fun z=>e (h1.trans z)
      have b:atKey (q :: qs) k=atKey qs k:=by simp [atKey,List.find?_cons,e']
      have a:atT (p :: ps) k=atT ps k:=by simp [atT,List.find?_cons,e]
      rw [a,b]; exact ih
theorem KTx.any {xs:List TX} {ys:List (List Leaf × Addr × Value)} (r:KTx xs ys) (k:List Leaf):(xs.any fun x=>decide (x.1=k))=(atKey ys k).isSome:=by
  induction r with
  | nil=>rfl
  | @cons p q ps qs h t ih =>
    obtain ⟨h1,_,h2⟩:=h
    rw [List.any_cons,ih]
    by_cases e:p.1=k
    · have e':q.1=k:=h1.symm.trans e
      have b:atKey (q :: qs) k=some q.2:=by simp [atKey,List.find?_cons,e']
      rw [b,decide_eq_true e]; rfl
    · have e':¬ q.1=k:=fun z=>e (h1.trans z)
      have b:atKey (q :: qs) k=atKey qs k:=by simp [atKey,List.find?_cons,e']
      rw [b,decide_eq_false e]; rfl
theorem KTx.put {xs:List TX} {ys:List (List Leaf × Addr × Value)} (r:KTx xs ys) (k:List Leaf) (b:Addr) {v:V} {u:Value} (ru:RelV v u):KTx (Y2r xs k b v) (storedH ys k b u):=by
  unfold Y2r storedH
  rw [r.any k]
  split
  · have g:∀ {xs:List TX} {ys:List (List Leaf × Addr × Value)},KTx xs ys→KTx (xs.map fun x=>if x.1=k then (x.1,x.2.1,v) else x) (ys.map (putAt k u)):=by
      intro xs ys r
      induction r with
      | nil=>exact .nil
      | @cons p q ps qs h t ih =>
        obtain ⟨h1,h2,h3⟩:=h
        rw [List.map_cons,List.map_cons]
        refine .cons ?_ ih
        unfold putAt
        by_cases e:p.1=k
        · rw [if_pos e,if_pos (h1.symm.trans e)]; exact ⟨h1,h2,ru⟩
        · rw [if_neg e,if_neg (fun z=>e (h1.trans z))]; exact ⟨h1,h2,h3⟩
    exact g r
  · exact Paired.append r (.cons ⟨rfl,rfl,ru⟩ .nil)
theorem X3d {P:Program} {w:World} (hw:w=HasW.w) (x:List Leaf × Addr × Value):entryOfKey (tupleKind (leafKind P w)) x=(⟨W0i x.1, .ref x.2.1,x.2.2⟩:DictEntry):=by
  subst hw
  rfl
section
variable {X:Cx} {pins:List (Addr × Obj)} {σ:L2.St} {H:Hp} {s:Shared} {a b:Addr} {y v:V} {u r:Value} {A:Around} {E:Value→Shared→Prop} {xs:List TX} {k:List Leaf}
theorem Y5q (I:Inv X pins σ H s) (t:X09 X.K H b k):(tupleKind (leafKind X.prog X.w)).is s.heap k b:=by
  obtain ⟨vs,q,l⟩:=t
  obtain ⟨its,rv,⟨o,ho,hc,n,hd⟩,_⟩:=I.tuple q
  exact ⟨o,its.toArray,n,ho,hc,hd,by simpa using X3o l rv⟩
theorem Y9d (hw:X.w=HasW.w) (I:Inv X pins σ H s) (d:DTat X.K H a xs):(a == sysModules)=false∧∃ ys,KTx xs ys∧s.heap.DictOfH (tupleKind (leafKind X.prog X.w)) a ys:=by
  have ok:ObjOk X.prog X.w H s.heap a (TDo a xs):=d.at_.ok I.hok
  obtain ⟨⟨hd,ys,rel,o,es,ep,h1,h2,h3,h4,h5⟩,_⟩:=ok
  refine ⟨hd,ys,rel,o,es,ep,h1,h2,h3,?_,fun x hx=>?_,h5⟩
  · rw [h4]
    exact List.map_congr_left fun x _=>(X3d hw x).symm
  · have all:∀ {l:List TX} {m:List (List Leaf × Addr × Value)},KTx l m→(∀ q ∈ l,X09 X.K H q.2.1 q.1)→∀ x ∈ m,(tupleKind (leafKind X.prog X.w)).is s.heap x.1 x.2.1:=by
      intro l m q
      induction q with
      | nil=>intro _ x hx; exact nomatch hx
      | @cons p q ps qs hq t ih =>
        intro hk x hx
        rcases List.mem_cons.mp hx with e | hx
        · subst e
          rw [← hq.1,← hq.2.1]
          exact Y5q I (hk p (List.mem_cons_self ..))
        · exact ih (fun z hz=>hk z (List.mem_cons_of_mem _ hz)) x hx
    exact all rel d.keys x hx
theorem W6s {Q:Value→Shared→Prop} (hw:X.w=HasW.w) (hu:A.units + 1 < cLine) (I:Inv X pins σ H s) (d:DTat X.K H a xs) (t:X09 X.K H b k) (h:∀ s',Inv X pins σ H s'→Q (.bool (!(atT xs k).isSome)) s') :
    wpAny (model X.prog X.w) A (compareOp .NotIn (.ref b) (.ref a)) Q E s:=by
  obtain ⟨hd,ys,rel,dd⟩:=Y9d hw I d
  refine wpAny_notIn_heap (tupleKind_room_in1 hu) (Y5q I t) hd dd ?_
  have q:=(rel.val k).isSome_eq
  rw [Option.isSome_map] at q
  rw [← q]
  exact h _ (I.tok _)
theorem X2q {H':Hp} {h':Heap} {ys:List (List Leaf × Addr × Value)} (hw:X.w=HasW.w) (hd:(a == sysModules)=false) (rel:KTx xs ys) (dd:h'.DictOfH (tupleKind (leafKind X.prog X.w)) a ys):ObjOk X.prog X.w H' h' a (TDo a xs):=by
  obtain ⟨o,es,ep,h1,h2,h3,h4,_,h5⟩:=dd
  have e4:es.toList=ys.map (fun x=>(⟨W0i x.1, .ref x.2.1,x.2.2⟩:DictEntry)):=by
    rw [h4]
    exact List.map_congr_left fun x _=>X3d hw x
  exact ⟨⟨hd,ys,rel,o,es,ep,h1,h2,h3,e4,h5⟩,⟨o,h1⟩,fun g1 g2 ⟨hd,ys,rel,o,es,ep,h1,h2,h3,h4,h5⟩ st=>⟨hd,ys,rel,o,es,ep,st o h1,h2,h3,h4,h5⟩⟩
theorem X88 {Q:Unit→Shared→Prop} (hw:X.w=HasW.w) (hu:A.units + 1 < cLine) (I:Inv X pins σ H s) (e:H a=some (TDo a xs)) (hk:∀ q ∈ xs,X09 X.K H q.2.1 q.1) (t:X09 X.K H b k) (hl:xs.length < sizeLine) (rv:RelV v r)
    (h:∀ s',Inv X pins σ (upd H a (TDo a (Y2r xs k b v))) s'→Q () s'):wpAny (model X.prog X.w) A (setItem (.ref a) (.ref b) r) Q E s:=by
  obtain ⟨hd,ys,rel,dd⟩:=Y9d hw I ⟨.inl e,hk⟩
  have hz:ys.length ≤ sizeLine:=by rw [← Paired.length rel]; omega
  refine wpAny_setItem_heap (hsz:=hz) (tupleKind_room_in1 hu) (Y5q I t) dd fun h' dd' hs=>h _ ?_
  have he:∃ q,h'.get? a=some q:=let ⟨q,_,_,hq,_⟩:=dd'; ⟨q,hq⟩
  exact d_write I (by rw [e]; exact True.intro) hs he (X2q hw hd (rel.put k b rv) dd')
end
def V2q (K:PySem.W.Frag) (neg:Bool) (ty td:TE):TE:=fun σ H Q=>ty σ H fun y H1=>td σ H1 fun x H2=>∃ a b xs k,x = .ref a∧y = .ref b∧DTat K H2 a xs∧X09 K H2 b k∧Q (.bl ((atT xs k).isSome ^^ neg)) H2
def V11 (K:PySem.W.Frag) (td ty tv:TE):TS:=fun D σ H=>tv σ H fun v H1=>td σ H1 fun x H2=>ty σ H2 fun y H3=>∃ a b xs k,x = .ref a∧y = .ref b∧H3 a=some (TDo a xs)∧(∀ q ∈ xs,X09 K H3 q.2.1 q.1)∧X09 K H3 b k∧xs.length < sizeLine∧D.nx σ (upd H3 a (TDo a (Y2r xs k b v)))
def V17 (K:PySem.W.Frag) (tk tv:TE):TE:=fun σ H Q=>∀ p,H p=none→tk σ (upd H p (TDo p [])) fun y H1=>tv σ H1 fun v H2=>∃ b k,y = .ref b∧H2 p=some (TDo p [])∧X09 K H2 b k∧Q (.ref p) (upd H2 p (TDo p [(k,b,v)]))
section
variable {X:Cx} {o i e f value:Expr} {pos pos' tpos apos cpos:Pos} {td ty tv tx:TE}
theorem X8b (hw:X.w=HasW.w) (hu:X.A.units + 1 < cLine) (hi:PE X i ty) (ho:PE X o td):PC X .NotIn i o (V2q X.K true ty td):=by
  refine ⟨fun pins s σ H Q I h=>?_⟩
  refine thn (hi.run pins s σ H _ I h) fun iv s1 ⟨y,H1,I1,ry,q1⟩=>thn (ho.run pins s1 σ H1 _ I1 q1) fun u s2 ⟨x,H2,I2,rx,a,b,xs,k,ex,ey,d,t,q2⟩=>?_
  subst ex ey
  obtain rfl:u=Value.ref a:=rx
  obtain rfl:iv=Value.ref b:=ry
  rw [Bool.xor_true] at q2
  exact W6s hw hu I2 d t fun s3 I3=>⟨.bl _,H2,I3,rfl,q2⟩
theorem W5z (hw:X.w=HasW.w) (hu:X.A.units + 1 < cLine) (ho:PE X o td) (hi:PE X i ty) (hv:PE X value tv) (hs:swapsWith value (some (.Subscript o i pos')) pos.line X.env=pure false) :
    PS X (.Assign [.Subscript o i pos'] value pos) (V11 X.K td ty tv):=by
  refine ⟨fun pins s σ H D I h=>?_⟩
  refine wpAny_Assign_Subscript (thn (hv.run pins s σ H _ I h) fun r s1 ⟨v,H1,I1,rv,q1⟩=>thn (ho.run pins s1 σ H1 _ I1 q1) fun u s2 ⟨x,H2,I2,rx,q2⟩=>thn (hi.run pins s2 σ H2 _ I2 q2) fun iv s3 ⟨y,H3,I3,ry,a,b,xs,k,ex,ey,ea,hk,t,hl,q3⟩=>?_) hs
  subst ex ey
  obtain rfl:u=Value.ref a:=rx
  obtain rfl:iv=Value.ref b:=ry
  exact X88 hw hu I3 ea hk t hl rv fun s4 I4=>⟨σ,_,I4,q3⟩
theorem X04 {H:Hp} {P:Program} {w:World} (h:Heap) (hb:sysModules < h.objs.size):ObjOk P w H (h.push { cls := .type "dict",data := .dict #[] }) h.objs.size (TDo h.objs.size []) :=
  ⟨⟨beq_eq_false_iff_ne.mpr (Ne.symm (Nat.ne_of_lt hb)),[], .nil,_,#[],0,Heap.get?_push_size _ rfl,⟨rfl,rfl,rfl⟩,rfl,rfl,List.nodup_nil⟩,⟨_,Heap.get?_push_size _ rfl⟩,fun g1 g2 ⟨hd,ys,rel,o,es,ep,h1,h2,h3,h4,h5⟩ st=>⟨hd,ys,rel,o,es,ep,st o h1,h2,h3,h4,h5⟩⟩
theorem W5y {kx:Expr} {tk:TE} (hw:X.w=HasW.w) (hu:X.A.units + 1 < cLine) (hk:PE X kx tk) (hv:PE X value tv):PE X (.Dict [some kx] [value] pos) (V17 X.K tk tv):=by
  refine ⟨fun pins s σ H Q I q=>?_⟩
  have hn:=I.hok.fresh (Nat.le_refl s.heap.objs.size)
  have I1:=I.laid (a:=s.heap.objs.size) (o:=TDo s.heap.objs.size []) (h':=s.heap.push { cls := .type "dict",data := .dict #[] }) (t':=s.toks) (fun _ _ q=>Heap.get?_push_of_some _ q) (Nat.le_refl _) (X04 s.heap I.big)
  refine wpAny_Dict_any rfl rfl (by simp) (by simp) (pairTrees_cons_walk (thn (hk.run pins _ σ _ _ I1 (q _ hn)) fun u s1 ⟨y,H1,J1,ry,q1⟩=>thn (hv.run pins s1 σ H1 _ J1 q1) fun w2 s2 ⟨v,H2,I2,rv,b,k,ey,e,t,q2⟩=>pairTrees_nil_walk ?_))
  subst ey
  obtain rfl:u=Value.ref b:=ry
  obtain ⟨hd,ys,rel,dd⟩:=Y9d hw I2 ⟨.inl e,fun _ h=>nomatch h⟩
  cases rel
  unfold storeAll
  rw [List.forIn_cons]
  refine wpAny_bind (wpAny_bind (wpAny_dictSet_heap (hsz:=Nat.zero_le _) (knd:=tupleKind (leafKind X.prog X.w)) (show X.A.units < cLine by omega) (Y5q I2 t) dd fun h' dd' hs=>wpAny_pure ?_))
  dsimp only
  rw [List.forIn_nil]
  refine wpAny_pure ⟨.ref s.heap.objs.size,_,?_,rfl,q2⟩
  have he:∃ q,h'.get? s.heap.objs.size=some q:=let ⟨q,_,_,hq,_⟩:=dd'; ⟨q,hq⟩
  exact d_write I2 (by rw [e]; exact True.intro) hs he (X2q hw hd (.cons ⟨rfl,rfl,rv⟩ .nil) dd')
end
end Bv
namespace Bv
open PySem PySem.Spec L2
open PyProof.Rows hiding St
variable [HasW]
section
variable {α:Type}
def Z7c (kvs:List (D × α)) (q:List Leaf):Option α:=(kvs.find? fun p=>decide (p.1.tkey?=some q)).map (·.2)
def Y6c (kvs:List (D × α)) (k:D) (q:List Leaf) (v:α):List (D × α):=if (kvs.any fun p=>decide (p.1.tkey?=some q))=true then kvs.map (fun p=>if p.1.tkey?=some q then (p.1,v) else p) else kvs++[(k,v)]
end
def tdX (S:Sto):X→Option (List (D × X))
  | .d _=>none
  | .r n=>match S[n]? with
    | some (.tdc kvs)=>some kvs
    | some (.tfc kvs)=>some kvs
    | _=>none
def tkX (S:Sto) (x y:X):Option (List (D × X) × D × List Leaf):=(tdX S x).bind fun kvs=>match y with
  | .d k=>(k.tkey?).map fun q=>(kvs,k,q)
  | .r _=>none
def tdW (S:Sto):X→Option (List (D × X))
  | .d _=>none
  | .r n=>match S[n]? with
    | some (.tdc kvs)=>some kvs
    | _=>none
def tkW (S:Sto) (x y:X):Option (List (D × X) × D × List Leaf):=(tdW S x).bind fun kvs=>match y with
  | .d k=>(k.tkey?).map fun q=>(kvs,k,q)
  | .r _=>none
abbrev KVT (K:PySem.W.Frag) (W:Wd) (ρ:List Addr) (H:Hp):List (D × X)→List TX→Prop:=Paired fun (p:D × X) (q:TX)=>p.1.tkey?=some q.1∧AV K W H p.1 (.ref q.2.1)∧AX K W ρ H p.2 q.2.2
theorem W2y {K:PySem.W.Frag} {W:Wd} {H:Hp}:∀ {ds:List D} {vs:List V} {ks:List Leaf},AVs K W H ds vs→leafs? ds=some ks→LVs ks vs
  | _,_,_, .nil,e=>by cases e; exact .nil
  | d :: ds,v :: vs,ks, .cons h t,e=>by
    have e:(match d.leaf?,leafs? ds with
      | some k,some l=>some (k :: l)
      | _,_=>none)=some ks:=e
    cases q:d.leaf? with
    | none=>rw [q] at e; cases e
    | some k =>
      cases q2:leafs? ds with
      | none=>rw [q,q2] at e; cases e
      | some l =>
        rw [q,q2] at e
        cases e
        refine .cons ?_ (W2y t q2)
        cases h with
        | non=>cases q; rfl
        | bl b=>cases q; exact .inr ⟨b,rfl,rfl⟩
        | int i=>cases q; exact .inl rfl
        | str _=>cases q; rfl
        | _=>cases q
theorem Y5p {K:PySem.W.Frag} {W:Wd} {H:Hp} {k:D} {q:List Leaf} {v:V} (h:k.tkey?=some q) (a:AV K W H k v):∃ b,v = .ref b∧X09 K H b q:=by
  cases k with
  | tup ds =>
    cases a with
    | tup t hs=>exact ⟨_,rfl,_,t.sq,W2y hs h⟩
  | _=>cases h
section
variable {K:PySem.W.Frag} {W W':Wd} {ρ ρ':List Addr} {H H':Hp} {kvs:List (D × X)} {xs:List TX} {q:List Leaf}
theorem KVT.mv (m:Mv W H W' H') (p:ρ <+: ρ') (h:KVT K W ρ H kvs xs):KVT K W' ρ' H' kvs xs:=Paired.mapP h fun _ _ z=>⟨z.1,z.2.1.mv m,z.2.2.mv m p⟩
theorem KVT.keys (h:KVT K W ρ H kvs xs):∀ t ∈ xs,X09 K H t.2.1 t.1:=by
  induction h with
  | nil=>intro t ht; exact nomatch ht
  | @cons p x ps ys h1 _ ih =>
    intro t ht
    rcases List.mem_cons.mp ht with e | ht
    · subst e
      obtain ⟨b,e,tk⟩:=Y5p h1.1 h1.2.1
      cases e
      exact tk
    · exact ih t ht
theorem X89 {p:D × X} {x:TX} (h:p.1.tkey?=some x.1):decide (p.1.tkey?=some q)=decide (x.1=q):=by
  rw [h]
  by_cases e:x.1=q
  · rw [decide_eq_true e,decide_eq_true (by rw [e])]
  · rw [decide_eq_false e,decide_eq_false fun z=>e (Option.some.inj z)]
theorem KVT.look (h:KVT K W ρ H kvs xs) (q:List Leaf):(∃ d v,Z7c kvs q=some d∧atT xs q=some v∧AX K W ρ H d v) ∨ (Z7c kvs q=none∧atT xs q=none):=by
  induction h with
  | nil=>exact .inr ⟨rfl,rfl⟩
  | @cons p x ps ys h1 _ ih =>
    have e:=X89 (q:=q) h1.1
    unfold Z7c atT at *
    rw [List.find?_cons,List.find?_cons,e]
    cases c:decide (x.1=q) with
    | true=>exact .inl ⟨_,_,rfl,rfl,h1.2.2⟩
    | false=>exact ih
theorem KVT.put {k:D} {b:Addr} {d:X} {v:V} (h:KVT K W ρ H kvs xs) (hk:k.tkey?=some q) (ak:AV K W H k (.ref b)) (av:AX K W ρ H d v):KVT K W ρ H (Y6c kvs k q d) (Y2r xs q b v):=by
  have ha:(kvs.any fun p=>decide (p.1.tkey?=some q))=(xs.any fun x=>decide (x.1=q)):=by
    induction h with
    | nil=>rfl
    | @cons p x ps ys h1 _ ih=>rw [List.any_cons,List.any_cons,ih,X89 h1.1]
  unfold Y6c Y2r
  rw [ha]
  split
  · have g:∀ {kvs:List (D × X)} {xs:List TX},KVT K W ρ H kvs xs→KVT K W ρ H (kvs.map fun p=>if p.1.tkey?=some q then (p.1,d) else p) (xs.map fun x=>if x.1=q then (x.1,x.2.1,v) else x):=by
      intro kvs xs h
      induction h with
      | nil=>exact .nil
      | @cons p x ps ys h1 _ ih =>
        rw [List.map_cons,List.map_cons]
        refine .cons ?_ ih
        have e:=X89 (q:=q) h1.1
        by_cases c:x.1=q
        · rw [if_pos c,if_pos (of_decide_eq_true (e.trans (decide_eq_true c)))]; exact ⟨h1.1,h1.2.1,av⟩
        · rw [if_neg c,if_neg (of_decide_eq_false (e.trans (decide_eq_false c)))]; exact h1
    exact g h
  · exact Paired.append h (.cons ⟨hk,ak,av⟩ .nil)
end
theorem W6x {S:Sto} {x y:X} {p:List (D × X) × D × List Leaf} (h:tkX S x y=some p):∃ n,x = .r n∧(S[n]?=some (.tdc p.1) ∨ S[n]?=some (.tfc p.1))∧y = .d p.2.1∧p.2.1.tkey?=some p.2.2:=by
  obtain ⟨kvs,h1,h2⟩:=Option.bind_eq_some_iff.mp h
  cases y with
  | r _=>cases h2
  | d k =>
    obtain ⟨q,hq,e⟩:=Option.map_eq_some_iff.mp (show (k.tkey?).map (fun q=>(kvs,k,q))=some p from h2)
    subst e
    cases x with
    | d _=>cases h1
    | r n =>
      refine ⟨n,rfl,?_,rfl,hq⟩
      unfold tdX at h1
      cases q2:S[n]? with
      | none=>simp only [q2] at h1; cases h1
      | some o =>
        simp only [q2] at h1
        cases o with
        | tdc kvs'=>cases h1; exact .inl rfl
        | tfc kvs'=>cases h1; exact .inr rfl
        | _=>cases h1
theorem V19 {K:PySem.W.Frag} {Z:Wd} {ρ:List Addr} {S:Sto} {H:Hp} {x y:Bv.X} {v u:V} {p:List (D × Bv.X) × D × List Leaf} (st:Sta K Z ρ S H) (a:AX K (Wn Z ρ) ρ H x v) (b:AX K (Wn Z ρ) ρ H y u) (h:tkX S x y=some p) :
    ∃ n c d xs,x = .r n∧ρ[n]?=some c∧(S[n]?=some (.tdc p.1) ∨ S[n]?=some (.tfc p.1))∧v = .ref c∧u = .ref d∧Rd H c (TDo c xs)∧KVT K (Wn Z ρ) ρ H p.1 xs∧X09 K H d p.2.2∧AV K (Wn Z ρ) H p.2.1 (.ref d)∧p.2.1.tkey?=some p.2.2:=by
  obtain ⟨n,rfl,hS,rfl,hq⟩:=W6x h
  cases a with
  | r e =>
    rename_i c
    cases b with
    | d b =>
      obtain ⟨d,rfl,tk⟩:=Y5p hq b
      rcases hS with hS | hS
      · obtain ⟨xs,h1,kv⟩:=st.ob n _ _ hS e
        exact ⟨n,c,d,xs,rfl,e, .inl hS,rfl,rfl, .inl h1,kv,tk,b,hq⟩
      · obtain ⟨ob,xs,h1,kv⟩:=st.ob n _ _ hS e
        exact ⟨n,c,d,xs,rfl,e, .inr hS,rfl,rfl, .inr ⟨ob,h1⟩,kv,tk,b,hq⟩
theorem W6w {S:Sto} {x y:X} {p:List (D × X) × D × List Leaf} (h:tkW S x y=some p):∃ n,x = .r n∧S[n]?=some (.tdc p.1)∧y = .d p.2.1∧p.2.1.tkey?=some p.2.2:=by
  obtain ⟨kvs,h1,h2⟩:=Option.bind_eq_some_iff.mp h
  cases y with
  | r _=>cases h2
  | d k =>
    obtain ⟨q,hq,e⟩:=Option.map_eq_some_iff.mp (show (k.tkey?).map (fun q=>(kvs,k,q))=some p from h2)
    subst e
    cases x with
    | d _=>cases h1
    | r n =>
      refine ⟨n,rfl,?_,rfl,hq⟩
      unfold tdW at h1
      cases q2:S[n]? with
      | none=>simp only [q2] at h1; cases h1
      | some o =>
        simp only [q2] at h1
        cases o with
        | tdc kvs'=>cases h1; rfl
        | _=>cases h1
theorem W9u {K:PySem.W.Frag} {Z:Wd} {ρ:List Addr} {S:Sto} {H:Hp} {x y:Bv.X} {v u:V} {p:List (D × Bv.X) × D × List Leaf} (st:Sta K Z ρ S H) (a:AX K (Wn Z ρ) ρ H x v) (b:AX K (Wn Z ρ) ρ H y u) (h:tkW S x y=some p) :
    ∃ n c d xs,x = .r n∧ρ[n]?=some c∧S[n]?=some (.tdc p.1)∧v = .ref c∧u = .ref d∧H c=some (TDo c xs)∧KVT K (Wn Z ρ) ρ H p.1 xs∧X09 K H d p.2.2∧AV K (Wn Z ρ) H p.2.1 (.ref d)∧p.2.1.tkey?=some p.2.2:=by
  obtain ⟨n,rfl,hS,rfl,hq⟩:=W6w h
  cases a with
  | r e =>
    rename_i c
    obtain ⟨xs,h1,kv⟩:=st.ob n _ _ hS e
    cases b with
    | d b =>
      obtain ⟨d,rfl,tk⟩:=Y5p hq b
      exact ⟨n,c,d,xs,rfl,e,hS,rfl,rfl,h1,kv,tk,b,hq⟩
def Y2i (neg:Bool) (mi mo:M):M:=fun e S=>(mi e S).bind fun y S1=>(mo e S1).bind fun x S2=>Z5r ((tkX S2 x y).map fun p => .d (.bl ((Z7c p.1 p.2.2).isSome ^^ neg))) S2
def W93 (y v:X) (S:Sto):R X:=match y with
  | .d k=>if k.tkey?.isSome then .ok (.r S.length) (S++[.tdc [(k,v)]]) else .bad
  | .r _ => .bad
def Y4q (mk mv:M):M:=fun e S=>(mk e S).ne.bind fun y S1=>(mv e S1).ne.bind fun v S2=>W93 y v S2
def X2s (S:Sto) (x y:X):Option (Nat × List (D × X) × D × List Leaf):=match x with
  | .r n=>(tkW S x y).bind fun p=>if decide (p.1.length < sizeLine) then some (n,p) else none
  | .d _=>none
def Y5c (mo mi mv:M):MS:=fun e S=>(mv e S).so e fun z S1=>(mo e S1).so e fun x S2=>(mi e S2).so e fun y S3=>match X2s S3 x y with
  | some p => .go (.nx e) (S3.set p.1 (.tdc (Y6c p.2.1 p.2.2.1 p.2.2.2 z)))
  | none => .bad
section
variable {X:Cx} {Wx:WX} {pos pos' apos cpos:Pos} {o i e f value kx:Expr} {mo mi mx mv mk:M}
theorem W6v {neg:Bool} {σ:L2.St} {H:Hp} {Q:VK} (h:RE X.K Wx (Y2i neg mi mo) σ H Q):V2q X.K neg (RE X.K Wx mi) (RE X.K Wx mo) σ H Q:=by
  obtain ⟨Z,ρ,e,S,st,ev,p⟩:=h
  refine V2 (rel:=AX X.K) st ev p fun ρ1 H1 u y S1 st1 g1 ev1 a1 p1=>V2 (rel:=AX X.K) st1 ev1 p1 fun ρ2 H2 v x S2 st2 g2 ev2 a2 p2=>?_
  have ay:=a1.mv (g2.mv st1) g2.pre
  obtain ⟨d,hl,p3⟩:=(show Z91 X.K Z ρ2 H2 Wx σ Q (Z5r ((tkX S2 x y).map fun p => .d (.bl ((Z7c p.1 p.2.2).isSome ^^ neg))) S2) from p2).opt
  obtain ⟨p,h1,rfl⟩:=Option.map_eq_some_iff.mp hl
  obtain ⟨n,c,b,xs,rfl,_,_,rfl,rfl,hc,kv,tk,_,_⟩:=V19 st2 a2 ay h1
  have e:(Z7c p.1 p.2.2).isSome=(atT xs p.2.2).isSome:=by rcases kv.look p.2.2 with ⟨d2,w,e1,e2,_⟩ | ⟨e1,e2⟩ <;> rw [e1,e2] <;> rfl
  rw [e] at p3
  exact ⟨c,b,xs,p.2.2,rfl,rfl,⟨hc,kv.keys⟩,tk,V7.ret0 p3 st2 (.d (.bl _))⟩
theorem W1r (hw:X.w=HasW.w) (hu:X.A.units + 1 < cLine) (hi:ME X Wx i mi) (ho:ME X Wx o mo):PC X .NotIn i o (RE X.K Wx (Y2i true mi mo)):=⟨fun pins s σ H Q I h=>(X8b hw hu hi ho).run pins s σ H Q I (W6v h)⟩
theorem Y8e (hw:X.w=HasW.w) (hu:X.A.units + 1 < cLine) (hi:ME X Wx i mi) (ho:ME X Wx o mo) (hb:behindInMarks .NotIn o=false:=by rfl):MT X Wx (.Compare i [.NotIn] [o] pos) (Z0d (Y2i true mi mo)):=V1f (W1r hw hu hi ho) hb
theorem W9s {S:Sto} {x:Bv.X} {kvs:List (D × Bv.X)} (h:tdX S x=some kvs):∃ n,x = .r n∧(S[n]?=some (.tdc kvs) ∨ S[n]?=some (.tfc kvs)):=by
  cases x with
  | d _=>exact nomatch h
  | r n =>
    refine ⟨n,rfl,?_⟩
    unfold tdX at h
    cases q2:S[n]? with
    | none=>simp only [q2] at h; cases h
    | some o =>
      simp only [q2] at h
      cases o with
      | tdc kvs'=>cases h; exact .inl rfl
      | tfc kvs'=>cases h; exact .inr rfl
      | _=>cases h
theorem X7y (hw:X.w=HasW.w) (hu:X.A.units + 1 < cLine) (ho:ME X Wx o mo) (hi:ME X Wx i mi) (hv:ME X Wx value mv) (hs:swapsWith value (some (.Subscript o i pos')) pos.line X.env=pure false:=by rfl):MP X Wx (.Assign [.Subscript o i pos'] value pos) (Y5c mo mi mv) :=
  PS.of (W5z hw hu ho hi hv hs) fun D σ H ⟨Z,ρ,e,S,st,ev,q⟩=>by
    refine Z15 (rel:=AX X.K) st ev q fun ρ1 H1 w z S1 s1 g1 ev1 a1 q1=>Z15 (rel:=AX X.K) s1 ev1 q1 fun ρ2 H2 v x S2 s2 g2 ev2 a2 q2=>Z15 (rel:=AX X.K) s2 ev2 q2 fun ρ3 H3 u y S3 s3 g3 ev3 a3 q3=>?_
    have az:=(a1.mv (g2.mv s1) g2.pre).mv (g3.mv s2) g3.pre
    have ax:=a2.mv (g3.mv s2) g3.pre
    have q3:Z4t X.K Z ρ3 H3 Wx D (match X2s S3 x y with
      | some p => .go (.nx e) (S3.set p.1 (.tdc (Y6c p.2.1 p.2.2.1 p.2.2.2 z)))
      | none => .bad):=q3
    cases h:X2s S3 x y with
    | none=>rw [h] at q3; exact q3.elim
    | some p =>
      rw [h] at q3
      have q9:Z4t X.K Z ρ3 H3 Wx D (.go (.nx e) (S3.set p.1 (.tdc (Y6c p.2.1 p.2.2.1 p.2.2.2 z)))):=q3
      cases x with
      | d _=>cases h
      | r n =>
        obtain ⟨p2,h1,h2⟩:=Option.bind_eq_some_iff.mp (show (tkW S3 (.r n) y).bind (fun p=>if decide (p.1.length < sizeLine) then some (n,p) else none)=some p from h)
        obtain ⟨h3,h4⟩:=Z6s h2
        cases h4
        obtain ⟨n',c,b,xs,e0,ha,hS,rfl,rfl,hc,kv,tk,ak,hk⟩:=W9u s3 ax a3 h1
        cases e0
        have kv2:=kv.put hk ak az
        have inρ:c ∈ ρ3:=List.mem_of_getElem? ha
        have m:Mv (Wn Z ρ3) H3 (Wn Z ρ3) (upd H3 c (TDo c (Y2r xs p2.2.2 b w))):=fun b o hb z=>⟨hb,by rw [upd_ne (fun y=>hb (.inr (by rw [y]; exact inρ)))]; exact z⟩
        obtain ⟨s4,g4⟩:=s3.put (o' := .tdc (Y6c p2.1 p2.2.1 p2.2.2 z)) (u:=TDo c (Y2r xs p2.2.2 b w)) ha (fun _ _ z=>by rw [hc] at z; cases z) ⟨_,upd_same,KVT.mv m (List.prefix_refl _) kv2⟩
        exact ⟨c,b,xs,p2.2.2,rfl,rfl,hc,kv.keys,tk,by rw [← Paired.length kv]; exact of_decide_eq_true h3,q9 ρ3 _ _ s4 g4 (ev3.mv (g4.mv s3) (List.prefix_refl _))⟩
theorem X3w (hw:X.w=HasW.w) (hu:X.A.units + 1 < cLine) (hk:ME X Wx kx mk) (hv:ME X Wx value mv):ME X Wx (.Dict [some kx] [value] pos) (Y4q mk mv) :=
  PE.of (W5y hw hu hk hv) fun σ H Q ⟨Z,ρ,e,S,st,ev,p⟩=>fun a ha=>by
    have na:¬ Wn Z ρ a:=st.fresh ha
    have m0:Mv (Wn Z ρ) H (Wn (fun c=>Z c ∨ c=a) ρ) (upd H a (TDo a [])):=fun c o hc q=>by
      have ne:c ≠ a:=fun z=>by rw [z,ha] at q; cases q
      exact ⟨fun z=>z.elim (fun z=>z.elim (fun z=>hc (.inl z)) ne) fun z=>hc (.inr z),by rw [upd_ne ne]; exact q⟩
    have k0:=Z0m (o:=TDo a []) ha
    have st0:Sta X.K (fun c=>Z c ∨ c=a) ρ S (upd H a (TDo a [])):=⟨st.nd,fun c hc=>by
      rcases hc with hc | rfl
      · obtain ⟨h1,o,h2⟩:=st.z c hc
        exact ⟨h1,o,k0 c o h2⟩
      · exact ⟨fun z=>na (.inr z),_,upd_same⟩,st.len,fun n o c e1 e2=>AO.mv m0 (List.prefix_refl _) (k0 c) (st.ob n o c e1 e2)⟩
    refine ⟨_,ρ,e,S,st0,ev.mv m0 (List.prefix_refl _),?_⟩
    have p:Z91 X.K Z ρ H Wx σ Q ((mk e S).ne.bind fun y S1=>(mv e S1).ne.bind fun v S2=>W93 y v S2):=p
    cases hm:mk e S with
    | err C fs S1=>rw [hm] at p; exact p.elim
    | bad=>rw [hm] at p; exact p.elim
    | ok y S1 =>
      rw [hm] at p
      have p:Z91 X.K Z ρ H Wx σ Q ((mv e S1).ne.bind fun v S2=>W93 y v S2):=p
      intro ρ1 H1 yv s1 g1 a1
      obtain ⟨n1,h1a⟩:=g1.keep a _ (fun z=>na (.inr z)) upd_same
      refine ⟨_,ρ1,e,S1,s1,(ev.mv m0 (List.prefix_refl _)).mv (g1.mv st0) g1.pre,?_⟩
      cases hm2:mv e S1 with
      | err C fs S2=>rw [hm2] at p; exact p.elim
      | bad=>rw [hm2] at p; exact p.elim
      | ok v S2 =>
        rw [hm2] at p
        have p:Z91 X.K Z ρ H Wx σ Q (W93 y v S2):=p
        intro ρ2 H2 w s2 g2 a2
        obtain ⟨n2,h2a⟩:=g2.keep a _ n1 h1a
        cases y with
        | r _=>exact p.elim
        | d k =>
          have p:Z91 X.K Z ρ H Wx σ Q (if k.tkey?.isSome then .ok (.r S2.length) (S2++[.tdc [(k,v)]]) else .bad):=p
          by_cases c:k.tkey?.isSome=true
          case neg=>rw [if_neg c] at p; exact p.elim
          rw [if_pos c] at p
          obtain ⟨q,hq⟩:=Option.isSome_iff_exists.mp c
          have a1':=a1.mv (g2.mv s1) g2.pre
          cases a1' with
          | d ak =>
            obtain ⟨b,rfl,tk⟩:=Y5p hq ak
            refine ⟨b,q,rfl,h2a,tk,?_⟩
            have nZ:∀ c,Z c→c ≠ a:=fun c hc z=>by
              obtain ⟨_,o,h2⟩:=st.z c hc
              rw [z,ha] at h2; cases h2
            have m2:Mv (Wn (fun c=>Z c ∨ c=a) ρ2) H2 (Wn Z (ρ2++[a])) (upd H2 a (TDo a [(q,b,w)])):=fun c o hc z=>by
              have ne:c ≠ a:=fun y=>hc (.inl (.inr y))
              refine ⟨fun y=>y.elim (fun y=>hc (.inl (.inl y))) fun y=>?_,by rw [upd_ne ne]; exact z⟩
              rcases List.mem_append.mp y with y | y
              · exact hc (.inr y)
              · exact ne (by simpa using y)
            have sN:Sta X.K Z (ρ2++[a]) (S2++[.tdc [(k,v)]]) (upd H2 a (TDo a [(q,b,w)])):=by
              refine ⟨?_,fun c hc=>⟨fun z=>?_,?_⟩,by rw [List.length_append,List.length_append,s2.len]; rfl,fun n o c e1 e2=>?_⟩
              · rw [List.nodup_append]
                exact ⟨s2.nd,by simp,fun x hx y hy z=>by
                  have:y=a:=by simpa using hy
                  subst this; subst z; exact n2 hx⟩
              · rcases List.mem_append.mp z with z | z
                · exact (s2.z c (.inl hc)).1 z
                · exact nZ c hc (by simpa using z)
              · obtain ⟨o,h2⟩:=(s2.z c (.inl hc)).2
                exact ⟨o,by rw [upd_ne (nZ c hc)]; exact h2⟩
              · by_cases hn:n < ρ2.length
                · rw [List.getElem?_append_left hn] at e2
                  rw [List.getElem?_append_left (by rw [s2.len]; exact hn)] at e1
                  have ne:c ≠ a:=fun z=>n2 (by rw [← z]; exact List.mem_of_getElem? e2)
                  exact AO.mv m2 (List.prefix_append _ _) (fun u z=>by rw [upd_ne ne]; exact z) (s2.ob n o c e1 e2)
                · rw [List.getElem?_append_right (by omega)] at e2
                  rw [List.getElem?_append_right (by rw [s2.len]; omega)] at e1
                  have hz:n - ρ2.length=0:=by
                    have:=(List.getElem?_eq_some_iff.mp e2).1
                    simp at this; omega
                  rw [hz] at e2
                  rw [s2.len,hz] at e1
                  cases e1; cases e2
                  exact ⟨_,upd_same, .cons ⟨hq,ak.mv m2,a2.mv m2 (List.prefix_append _ _)⟩ .nil⟩
            have gN:Go ρ H (ρ2++[a]) (upd H2 a (TDo a [(q,b,w)])):=by
              refine ⟨(g1.pre.trans g2.pre).trans (List.prefix_append _ _),fun c o hc z=>?_,fun c ob u z=>?_⟩
              · have ne:c ≠ a:=fun y=>by rw [y,ha] at z; cases z
                obtain ⟨h3,h4⟩:=g1.keep c o hc (k0 c o z)
                obtain ⟨h5,h6⟩:=g2.keep c o h3 h4
                exact ⟨fun y=>by
                  rcases List.mem_append.mp y with y | y
                  · exact h5 y
                  · exact ne (by simpa using y),by rw [upd_ne ne]; exact h6⟩
              · have ne:c ≠ a:=fun y=>by rw [y,ha] at z; cases z
                rw [upd_ne ne]
                exact g2.fz c ob u (g1.fz c ob u (k0 c _ z))
            exact p _ _ _ sN gN (.r (by rw [s2.len]; simp))
end
end Bv
namespace Bv
open PySem PySem.Spec L2
open PyProof.Rows hiding St
variable [HasW]
section
variable {P:Program} {w:World} {κ:Type} [DecidableEq κ] {knd:PySem.KeyKind P w κ} {A:Around} {E:Value→Shared→Prop} {s:Shared} {a:Addr} {xs:List κ} {k:κ} {x:Value}
def W96 (knd:PySem.KeyKind P w κ) (e:Int × Value) (k:κ):Prop:=knd.is k e.2=true∧e.1=knd.hash k∧e.2.scannable=true
structure TabOk (knd:PySem.KeyKind P w κ) (es:Array (Int × Value)) (t:SetTable) (ks xs:List κ):Prop where
  good:Paired (W96 knd) es.toList ks
  perm:ks.Perm xs
  nd:xs.Nodup
  few:es.size < scanBound
  fits:t.fits es.size=true
  ris:Ris t.place.toList
  led:w.params.followText "set-order" = true ∨ t.led=true
end
section
variable {P:Program} {w:World} {A:Around} {E:Value→Shared→Prop} {s:Shared} {a:Addr} {xs:List Str}
end
end Bv
namespace Bv
open PySem PySem.Spec L2
open PyProof.Rows hiding St
variable [HasW]
section
variable {X:Cx}
end
end Bv
namespace Bv
open PySem PySem.Spec L2
open PyProof.Rows hiding St
variable [HasW]
section
variable {X:Cx}
end
end Bv
namespace Bv
open PySem PySem.Spec L2
open PyProof.Rows hiding St
variable [HasW]
section
variable {X:Cx} {Wx:WX} {pos p:Pos} {tg iter elt c:Expr} {ifs:List Expr} {mi:MIt} {mt:MG Bool} {me:M} {t:Tg} {vs:List Nat}
end
end Bv
namespace Bv
open PySem PySem.Spec L2
open PyProof.Rows hiding St
section
variable [HasW] {X:Cx} {Wx:WX} {k j n:Nat} {f:Addr} {dxs:List D}
end
end Bv
namespace Bv
open PySem PySem.Spec L2
open PyProof.Rows hiding St
variable [HasW]
end Bv
namespace Bv
open PySem PySem.Spec L2
open PyProof.Rows hiding St
variable [HasW]
section
variable {X:Cx} {Wx:WX} {pos pt p2:Pos} {es tgs:List Expr} {k1 k2} {ms:MG (List Bv.X)} {ts:List Tg}
end
end Bv
namespace Bv
open PySem PySem.Spec L2
open PyProof.Rows hiding St
variable [HasW]
theorem Sta.fill {K:PySem.W.Frag} {Z:Wd} {ρ ρ2:List Addr} {S S2:Sto} {H H2:Hp} {a:Addr} {u0 u:HO} {o':O} (st:Sta K Z ρ S H) (ha:H a=none) (g:Go ρ (upd H a u0) ρ2 H2) (s2:Sta K (fun c=>Z c ∨ c=a) ρ2 S2 H2)
    (new:Mv (Wn (fun c=>Z c ∨ c=a) ρ2) H2 (Wn Z (ρ2++[a])) (upd H2 a u)→AO K (Wn Z (ρ2++[a])) (ρ2++[a]) (upd H2 a u) o' a):Sta K Z (ρ2++[a]) (S2++[o']) (upd H2 a u)∧Go ρ H (ρ2++[a]) (upd H2 a u):=by
  have n2:a ∉ ρ2:=(s2.z a (.inr rfl)).1
  have k0:=Z0m (o:=u0) ha
  have nZ:∀ c,Z c→c ≠ a:=fun c hc z=>by
    obtain ⟨_,o,h2⟩:=st.z c hc
    rw [z,ha] at h2; cases h2
  have m2:Mv (Wn (fun c=>Z c ∨ c=a) ρ2) H2 (Wn Z (ρ2++[a])) (upd H2 a u):=fun c o hc z=>by
    have ne:c ≠ a:=fun y=>hc (.inl (.inr y))
    refine ⟨fun y=>y.elim (fun y=>hc (.inl (.inl y))) fun y=>?_,by rw [upd_ne ne]; exact z⟩
    rcases List.mem_append.mp y with y | y
    · exact hc (.inr y)
    · exact ne (by simpa using y)
  refine ⟨⟨?_,fun c hc=>⟨fun z=>?_,?_⟩,by rw [List.length_append,List.length_append,s2.len]; rfl,fun n o c e1 e2=>?_⟩,(g.pre).trans (List.prefix_append _ _),fun c o hc z=>?_,fun c ob w z=>?_⟩
  · rw [List.nodup_append]
    exact ⟨s2.nd,by simp,fun x hx y hy z=>by
      have:y=a:=by simpa using hy
      subst this; subst z; exact n2 hx⟩
  · rcases List.mem_append.mp z with z | z
    · exact (s2.z c (.inl hc)).1 z
    · exact nZ c hc (by simpa using z)
  · obtain ⟨o,h2⟩:=(s2.z c (.inl hc)).2
    exact ⟨o,by rw [upd_ne (nZ c hc)]; exact h2⟩
  · by_cases hn:n < ρ2.length
    · rw [List.getElem?_append_left hn] at e2
      rw [List.getElem?_append_left (by rw [s2.len]; exact hn)] at e1
      have ne:c ≠ a:=fun z=>n2 (by rw [← z]; exact List.mem_of_getElem? e2)
      exact AO.mv m2 (List.prefix_append _ _) (fun u z=>by rw [upd_ne ne]; exact z) (s2.ob n o c e1 e2)
    · rw [List.getElem?_append_right (by omega)] at e2
      rw [List.getElem?_append_right (by rw [s2.len]; omega)] at e1
      have hz:n - ρ2.length=0:=by
        have:=(List.getElem?_eq_some_iff.mp e2).1
        simp at this; omega
      rw [hz] at e2
      rw [s2.len,hz] at e1
      cases e1; cases e2
      exact new m2
  · have ne:c ≠ a:=fun y=>by rw [y,ha] at z; cases z
    obtain ⟨h5,h6⟩:=g.keep c o hc (k0 c o z)
    exact ⟨fun y=>by
      rcases List.mem_append.mp y with y | y
      · exact h5 y
      · exact ne (by simpa using y),by rw [upd_ne ne]; exact h6⟩
  · have ne:c ≠ a:=fun y=>by rw [y,ha] at z; cases z
    rw [upd_ne ne]
    exact g.fz c ob w (k0 c _ z)
theorem Sta.ahead {K:PySem.W.Frag} {Z:Wd} {ρ:List Addr} {S:Sto} {H:Hp} {a:Addr} {u0:HO} (st:Sta K Z ρ S H) (ha:H a=none):Sta K (fun c=>Z c ∨ c=a) ρ S (upd H a u0)∧Mv (Wn Z ρ) H (Wn (fun c=>Z c ∨ c=a) ρ) (upd H a u0):=by
  have na:¬ Wn Z ρ a:=st.fresh ha
  have m0:Mv (Wn Z ρ) H (Wn (fun c=>Z c ∨ c=a) ρ) (upd H a u0):=fun c o hc q=>by
    have ne:c ≠ a:=fun z=>by rw [z,ha] at q; cases q
    exact ⟨fun z=>z.elim (fun z=>z.elim (fun z=>hc (.inl z)) ne) fun z=>hc (.inr z),by rw [upd_ne ne]; exact q⟩
  have k0:=Z0m (o:=u0) ha
  exact ⟨⟨st.nd,fun c hc=>by
    rcases hc with hc | rfl
    · obtain ⟨h1,o,h2⟩:=st.z c hc
      exact ⟨h1,o,k0 c o h2⟩
    · exact ⟨fun z=>na (.inr z),_,upd_same⟩,st.len,fun n o c e1 e2=>AO.mv m0 (List.prefix_refl _) (k0 c) (st.ob n o c e1 e2)⟩,m0⟩
def Y9c (k1 k2:Str) (x y:X):List (D × X):=Y69 (Y69 [] (.str k1) x) (.str k2) y
def Y77 (k1 k2:Str) (m1 m2:M):M:=fun e S=>(m1 e S).ne.bind fun x S1=>(m2 e S1).ne.bind fun y S2 => .ok (.r S2.length) (S2++[.dic (Y9c k1 k2 x y)])
section
variable {X:Cx} {Wx:WX} {pos p1 p2:Pos} {n1 n2:Nat} {k1 k2:Str} {v1 v2:Expr} {m1 m2:M}
theorem W0w (q1:ME X Wx (.Constant (.str k1) n1 p1) (m_c (.str k1))) (q2:ME X Wx (.Constant (.str k2) n2 p2) (m_c (.str k2))) (h1:ME X Wx v1 m1) (h2:ME X Wx v2 m2):ME X Wx (.Dict [some (.Constant (.str k1) n1 p1),some (.Constant (.str k2) n2 p2)] [v1,v2] pos) (Y77 k1 k2 m1 m2) :=
  PE.of (pe_disp (pps_cons q1 h1 (pps_cons q2 h2 pps_nil)) rfl rfl (by simp) (by simp)) fun σ H Q ⟨Z,ρ,e,S,st,ev,p⟩=>fun a ha=>by
    obtain ⟨st0,m0⟩:=st.ahead (u0 := .dK []) ha
    have ev0:=ev.mv m0 (List.prefix_refl _)
    refine ⟨_,ρ,e,S,st0,ev0,?_⟩
    intro ρ0 H0 kv1 s0 g0 ak1
    have kv1e:kv1 = .str k1:=by cases ak1 with | d z=>cases z; rfl
    have ev00:=ev0.mv (g0.mv st0) g0.pre
    refine ⟨_,ρ0,e,S,s0,ev00,?_⟩
    have p:Z91 X.K Z ρ H Wx σ Q ((m1 e S).ne.bind fun x S1=>(m2 e S1).ne.bind fun y S2 => .ok (.r S2.length) (S2++[.dic (Y9c k1 k2 x y)])):=p
    cases hm:m1 e S with
    | err C fs S1=>rw [hm] at p; exact p.elim
    | bad=>rw [hm] at p; exact p.elim
    | ok x S1 =>
      rw [hm] at p
      have p:Z91 X.K Z ρ H Wx σ Q ((m2 e S1).ne.bind fun y S2 => .ok (.r S2.length) (S2++[.dic (Y9c k1 k2 x y)])):=p
      intro ρ1 H1 xv s1 g1 a1
      have ev1:=ev00.mv (g1.mv s0) g1.pre
      refine ⟨_,ρ1,e,S1,s1,ev1,?_⟩
      intro ρ1' H1' kv2 s1' g1' ak2
      have kv2e:kv2 = .str k2:=by cases ak2 with | d z=>cases z; rfl
      have ev2:=ev1.mv (g1'.mv s1) g1'.pre
      refine ⟨_,ρ1',e,S1,s1',ev2,?_⟩
      cases hm2:m2 e S1 with
      | err C fs S2=>rw [hm2] at p; exact p.elim
      | bad=>rw [hm2] at p; exact p.elim
      | ok y S2 =>
        rw [hm2] at p
        have p:Z91 X.K Z ρ H Wx σ Q (.ok (.r S2.length) (S2++[.dic (Y9c k1 k2 x y)])):=p
        intro ρ2 H2 yv s2 g2 a2
        have gg:=((g0.trans g1).trans g1').trans g2
        have na:a ∉ ρ:=fun z=>st.fresh ha (.inr z)
        have hH2:H2 a=some (.dK []):=(gg.keep a _ na upd_same).2
        refine ⟨hH2,[(.inr k1,xv),(.inr k2,yv)],by rw [kv1e,kv2e]; rfl,by simp,?_⟩
        have a1':=(a1.mv (g1'.mv s1) g1'.pre).mv (g2.mv s1') g2.pre
        have kv:KVR (AX X.K (Wn (fun c=>Z c ∨ c=a) ρ2) ρ2 H2) (Y9c k1 k2 x y) (mergeK [] [(.inr k1,xv),(.inr k2,yv)]):=KVR.put rfl a2 (KVR.put rfl a1' .nil)
        obtain ⟨sN,gN⟩:=st.fill (u := .dK (mergeK [] [(.inr k1,xv),(.inr k2,yv)])) (o' := .dic (Y9c k1 k2 x y)) ha gg s2 fun m2=>⟨_,upd_same,KVR.mv m2 (List.prefix_append _ _) kv⟩
        exact p _ _ _ sN gN (.r (by rw [s2.len]; simp))
end
end Bv
namespace Bv
open PySem PySem.Spec L2
open PyProof.Rows hiding St
section
open Builtin Builtin.Int
end
section
variable {prog:Program} {w:World} {A:Around} {E:Value→Shared→Prop} {s:Shared} {t:Tok}
end
variable [HasW]
section
variable {X:Cx} {Wx:WX} {e:Expr} {te:TE} {pos p1 p2:Pos} {n:Nat} {m:M}
inductive MJ (X:Cx) (Wx:WX):List Expr→List M→Prop where
  | nil:MJ X Wx [] []
  | cons {e:Expr} {m:M} {es:List Expr} {ms:List M} (h:ME X Wx e m) (r:MJ X Wx es ms):MJ X Wx (e :: es) (m :: ms)
end
end Bv
namespace Bv
open PySem PySem.Spec L2
open PyProof.Rows hiding St
variable [HasW]
section
variable {K:PySem.W.Frag}
end
section
variable {K:PySem.W.Frag}
end
section
variable {X:Cx} {Wx:WX} {apos cpos tpos pos p1 p2 p3 p:Pos} {e tg:Expr} {m:M} {n:Nat}
def X60 (S:Sto) (x:Bv.X):R Bv.X:=if Q5 S x then (match items S x with
  | some ys => .ok (.r S.length) (S++[.lst ys.reverse])
  | none => .bad) else .bad
def Y9q (m:M):M:=fun e S=>(m e S).bind fun x S1=>X60 S1 x
theorem W3x {K:PySem.W.Frag} {W:Wd} {ρ:List Addr} {H:Hp} {xs:List Bv.X} {vs:List V} (h:AXs K W ρ H xs vs):AXs K W ρ H xs.reverse vs.reverse:=by
  induction h with
  | nil=>exact .nil
  | cons a _ ih=>rw [List.reverse_cons,List.reverse_cons]; exact Paired.append ih (.cons a .nil)
theorem W5f (h:ME X Wx e m):ME X Wx (.Subscript e (.Slice none none (some (.UnaryOp .USub (.Constant (.int 1) n p1) p2)) p3) pos) (Y9q m):=PE.of (pe_revL h) fun σ H Q ⟨Z,ρ,e,S,st,ev,p⟩=>V2 (rel:=AX X.K) st ev p fun ρ1 H1 v x S1 s1 g1 ev1 a1 q1=>by
  have q1:V7 (AX X.K) X.K Z ρ1 H1 Wx σ Q (X60 S1 x):=q1
  unfold X60 at q1
  split at q1
  · rename_i hl
    cases q:items S1 x with
    | none=>rw [q] at q1; exact q1.elim
    | some ys =>
      rw [q] at q1
      obtain ⟨b,us,rfl,hq,hp⟩:=a1.itemsL s1 q hl
      refine ⟨b,us,rfl, .inl (.inl hq),fun l hl=>?_⟩
      obtain ⟨s5,g5⟩:=s1.pushL hl (W3x hp)
      exact q1 _ _ _ s5 g5 (.r (by rw [s1.len]; simp))
  · exact q1.elim
end
end Bv
namespace Bv
open PySem PySem.Spec L2
open PyProof.Rows hiding St
variable [HasW]
section
variable {X:Cx} {Wx:WX} {tg a b c:Expr} {p pos:Pos} {ms:MG (List Bv.X)}
end
end Bv
namespace Bv
open PySem PySem.Spec L2
open PyProof.Rows hiding St
variable [HasW]
end Bv
namespace Bv
open PySem PySem.Spec L2
open PyProof.Rows hiding St
variable [HasW]
def W10 (ts:List Tg) (m:M):MS:=fun e S=>(m e S).so e fun x S1=>match x with
  | .d (.lst ds)=>(match Tg.asgs S1 ts (ds.map .d) e with
    | some e1 => .go (.nx e1) S1
    | none => .bad)
  | _ => .bad
section
variable {X:Cx} {Wx:WX} {pos pt:Pos} {k1:Nat} {a:Expr} {tgs:List Expr} {ts:List Tg} {ma:M}
theorem W8k (hc:X.calm=true) (ha:ME X Wx a ma) (hg:PGs X tgs (W7c X.K ts)) (hn:(assignEach tgs X.env).length=ts.length:=by rfl) (hst:(assignEach tgs X.env).findIdx? (·.1)=none:=by rfl)
    (hs:swapsWithSole [.Tuple tgs k1 pt] a pos.line X.env=pure false:=by rfl) (hw:swappedStores [.Tuple tgs k1 pt] a X.env=pure none:=by rfl)
    (h1:(assignEach [.Tuple tgs k1 pt] X.env).map (·.2)=[assign (.Tuple tgs k1 pt) X.env]:=by rfl) :
    MP X Wx (.Assign [.Tuple tgs k1 pt] a pos) (W10 ts ma):=PS.of (ps_asg ha (pg_unl hc hg hn hst) hs hw h1) fun D σ H ⟨Z,ρ,e,S,st,ev,p⟩ =>
  Z15 st ev p fun ρ1 H1 v x S1 st1 g1 ev1 a1 p1=>by
    cases a1 with
    | r _=>exact p1.elim
    | d h =>
      cases h with
      | @lst w q us ds r hs =>
        have p1:_:=p1
        dsimp only at p1
        cases q2:Tg.asgs S1 ts (_:List Bv.X) e with
        | none=>rw [q2] at p1; exact p1.elim
        | some e1 =>
          rw [q2] at p1
          have hl:=Y7r q2
          rw [List.length_map] at hl
          exact ⟨_,_,rfl, .inl (.inl r),by rw [← hs.length]; exact hl,Z,ρ1,e,S1,_,e1,st1,ev1,hs.axs,q2,fun σ' ev' _=>p1.next st1 ev'⟩
      | _=>exact p1.elim
end
end Bv
namespace Bv
open PySem PySem.Spec L2
open PyProof.Rows hiding St
variable [HasW]
end Bv
namespace Bv
open PySem PySem.Spec L2
open PyProof.Rows hiding St
variable [HasW]
section
variable {X:Cx} {Wx:WX} {pos p1 p2 p3 p4:Pos} {e:Expr} {m:M} {n n2:Nat}
end
end Bv
namespace L2
open PySem PySem.Spec PyProof.Rows
section
variable {X:Cx}
end
end L2
namespace Bv
open PySem PySem.Spec L2
open PyProof.Rows hiding St
variable [HasW]
section
variable {X:Cx} {Wx:WX} {o e elt tg iter a:Expr} {ifs:List Expr} {st:Stmt} {rest:List Stmt} {mo m me:M} {mi:MIt} {mt:MG Bool} {t:Tg} {m1 m2:MS} {pos apos c0 c1:Pos} {y z:Str} {j k:Nat}
end
end Bv
namespace ZlL
open PySem PySem.Calls PySem.Spec PyProof.Rows PySem.W
section
variable {prog:Program} {w:World} {A:Around} {E:Value→Shared→Prop} {s:Shared} {z TI TO i1 i2 l1 l2 S:Addr} {xs ys:Array Value} {i:Nat}
end
structure ZG (xs ys:Array Value) (lo:Addr) (h:Heap) (as:List Addr):Prop where
  rise:as.Pairwise (· < ·)
  above:∀ a ∈ as,lo < a
  pairs:∀ (j:Nat) (a:Addr),as[j]?=some a→∃ x y,xs[j]?=some x∧ys[j]?=some y∧IsPair h a x y
section
variable {prog:Program} {w:World} {A:Around} {s:Shared} {R:Result→Shared→Prop} {z TI TO i1 i2 l1 l2 S:Addr} {xs ys:Array Value}
end
section
variable {prog:Program} {w:World} {A:Around} {E:Value→Shared→Prop} {s:Shared} {z TI TO i1 i2 l1 l2 S:Addr} {xs ys:Array Value}
end
end ZlL
namespace ZlL
open PySem PySem.Spec PyProof.Rows L2 LiI
section
variable {X:Cx} {e e2:Expr} {ta:TA} {p p2 pz pos:Pos}
end
end ZlL
namespace Bv
open PySem PySem.Spec L2
open PyProof.Rows hiding St
variable [HasW]
end Bv
namespace Bv
open PySem PySem.Spec L2
open PyProof.Rows hiding St
variable [HasW]
section
variable {X:Cx} {Wx:WX} {pos:Pos} {tg iter elt c:Expr} {ifs:List Expr} {mi:MIt} {mt:MG Bool} {me:M} {t:Tg} {vs:List Nat}
end
end Bv
namespace Bv
open PySem PySem.Spec L2
open PyProof.Rows hiding St
variable [HasW]
end Bv
namespace Bv
open PySem PySem.Spec L2
open PyProof.Rows hiding St
variable [HasW]
section
variable {X:Cx} {Wx:WX} {o i a b:Expr} {mo mi:M} {ms:MG (List Bv.X)} {pos p1 p2 pt pt2:Pos} {kt k2:Nat} {j:Nat} {y:Str}
end
end Bv
namespace Bv
open PySem PySem.Spec L2
open PyProof.Rows hiding St
variable [HasW]
end Bv
namespace Bv
open PySem PySem.Spec L2
open PyProof.Rows hiding St
variable [HasW]
def Y5w (d:D):PyData:=d.py.getD .none
def W2t:PyData→Bool
  | .tuple (_ :: _)=>true
  | _=>false
def Y97 (ds:List D):Bool:=(ds.all fun d=>d.py.isSome && (W2t (Y5w d) && decide ((Y5w d).depth ≤ 60))) && ((ds.all fun d=>ds.all fun e=>PySem.W.alike (Y5w d) (Y5w e)) && decide (ds.length ≤ 4000))
def Y5m (ds:List D):List D:=ds.mergeSort (PySem.W.dataLe false Y5w)
def Z89:List Bv.X→Sto→R Bv.X
  | [x],S=>if Q5 S x then (match (items S x).bind ds? with
    | some ds=>if Y97 ds then .ok (.d (.lst (Y5m ds))) S else .bad
    | none => .bad) else .bad
  | _,_ => .bad
def Y4o (a b:V × D):Bool:=PySem.W.dataLe false (fun c:V × D=>Y5w c.2) a b
def X37 (K:PySem.W.Frag):List V→Hp→VK→Prop:=fun vs H Q=>∃ (a:Addr) (bs:List (V × D)),vs=[V.ref a]∧SqL K H a (bs.map Prod.fst)∧(∀ b ∈ bs,Dp K H b.1 (Y5w b.2))∧Y97 (bs.map Prod.snd)=true ∧
  ∀ p:Addr,H p=none→Q (.ref p) (upd H p (.lst ((bs.mergeSort Y4o).map Prod.fst)))
theorem Y9e:∀ {bs:List (V × D)} {us:List Value},Vals (bs.map Prod.fst) us→PySem.W.EachIs (fun u (b:V × D)=>RelV b.1 u) us bs
  | [],_,h=>by cases h; exact .nil
  | _ :: _,_,h=>by
    cases h with
    | cons h1 h2=>exact .cons h1 (Y9e h2)
theorem X06:∀ {bs:List (V × D)} {us:List Value},PySem.W.EachIs (fun u (b:V × D)=>RelV b.1 u) us bs→Vals (bs.map Prod.fst) us
  | _,_, .nil => .nil
  | _,_, .cons h1 h2 => .cons h1 (X06 h2)
theorem X6r {R R2:Value→V × D→Prop}:∀ {bs:List (V × D)} {us:List Value},PySem.W.EachIs R us bs→(∀ u b,b ∈ bs→R u b→R2 u b)→PySem.W.EachIs R2 us bs
  | _,_, .nil,_ => .nil
  | _,_, .cons h1 h2,k => .cons (k _ _ (by simp) h1) (X6r h2 fun u b hb=>k u b (List.mem_cons_of_mem _ hb))
theorem Y63 {ds:List D} (h:Y97 ds=true):(∀ d ∈ ds,d.py=some (Y5w d)∧W2t (Y5w d)=true∧(Y5w d).depth ≤ 60)∧(∀ d ∈ ds,∀ e ∈ ds,PySem.W.alike (Y5w d) (Y5w e)=true)∧ds.length ≤ 4000:=by
  unfold Y97 at h
  rw [Bool.and_eq_true,Bool.and_eq_true,List.all_eq_true,List.all_eq_true,decide_eq_true_eq] at h
  obtain ⟨h1,h2,h3⟩:=h
  refine ⟨fun d hd=>?_,fun d hd e he=>List.all_eq_true.mp (h2 d hd) e he,h3⟩
  have q:=h1 d hd
  rw [Bool.and_eq_true,Bool.and_eq_true,decide_eq_true_eq] at q
  obtain ⟨q1,q2,q3⟩:=q
  refine ⟨?_,q2,q3⟩
  unfold Y5w
  cases e:d.py with
  | none=>rw [e] at q1; cases q1
  | some p=>rfl
theorem X4u {X:Cx} (hu:X.A.units + 65 < cLine):CallR X (.builtin "sorted") (X37 X.K):=by
  intro pins s σ H vs us Q I r ⟨a,bs,e,hs,hd,hk,q⟩
  subst e
  obtain ⟨its,rv,hl,hz⟩:=I.list hs
  rw [Vals.ref1 r]
  obtain ⟨k1,k2,k3⟩:=Y63 hk
  rw [List.length_map] at k3
  have ev:=Y9e rv
  have er:PySem.W.EachIs (fun u (b:V × D)=>∃ as,Reads s.heap u (Y5w b.2) as) its bs:=X6r ev fun u b hb hr=>Dp.reads I (Y5w b.2) b.1 u (hd b hb) hr
  have hm1:∀ {d:PyData},d ∈ bs.map (fun b=>Y5w b.2)→∃ b ∈ bs,d=Y5w b.2:=fun h=>by
    obtain ⟨b,hb,e⟩:=List.mem_map.mp h
    exact ⟨b,hb,e.symm⟩
  have hsn:∀ {b:V × D},b ∈ bs→b.2 ∈ bs.map Prod.snd:=fun h=>List.mem_map.mpr ⟨_,h,rfl⟩
  refine PySem.W.sorted_data (R:=fun u (b:V × D)=>RelV b.1 u) (enc:=fun b=>Y5w b.2) hl.isList ev er (fun d hd1 d' hd2=>?_) (.inl fun d hd1=>?_) (by rw [sizeLine_eq]; omega) (fun b hb=>?_) fun out ho eo=>?_
  · obtain ⟨b,hb,rfl⟩:=hm1 hd1
    obtain ⟨b',hb',rfl⟩:=hm1 hd2
    exact k2 _ (hsn hb) _ (hsn hb')
  · obtain ⟨b,hb,rfl⟩:=hm1 hd1
    have t:=(k1 _ (hsn hb)).2.1
    cases e:Y5w b.2 with
    | tuple l =>
      cases l with
      | nil=>rw [e] at t; cases t
      | cons x r=>exact ⟨x,r,rfl⟩
    | _=>rw [e] at t; cases t
  · have:=(k1 _ (hsn hb)).2.2
    show X.A.units + 2 + (Y5w b.2).depth < cLine
    omega
  · obtain ⟨ep,he'⟩:=PyProof.Rows.sortedAll_at s.heap its out.toArray
    have hv:Vals ((bs.mergeSort Y4o).map Prod.fst) out:=X06 eo
    have hm:((bs.mergeSort Y4o).map Prod.fst).length ≤ sizeLine:=by
      rw [List.length_map,List.length_mergeSort,sizeLine_eq]; omega
    exact ⟨.ref _,upd H (s.heap.objs.size + 1) (.lst ((bs.mergeSort Y4o).map Prod.fst)),I.laid (t':=s.toks) (fun _ _=>PyProof.Rows.sortedAll_old) (Nat.le_succ _) ⟨hm,out,ep,hv,he'⟩,rfl,q _ (I.hok.fresh (Nat.le_succ _))⟩
section
variable {K:PySem.W.Frag} {W:Wd} {H:Hp}
theorem X20:∀ {ds:List D} {vs:List V},AVs K W H ds vs→(vs.zip ds).map Prod.fst=vs∧(vs.zip ds).map Prod.snd=ds∧∀ b ∈ vs.zip ds,AV K W H b.2 b.1
  | _,_, .nil=>⟨rfl,rfl,fun _ h=>(nomatch h)⟩
  | _,_, .cons h1 h2=>by
    obtain ⟨a,b,c⟩:=X20 h2
    refine ⟨by rw [List.zip_cons_cons,List.map_cons,a],by rw [List.zip_cons_cons,List.map_cons,b],fun x hx=>?_⟩
    rw [List.zip_cons_cons] at hx
    rcases List.mem_cons.mp hx with rfl | hx
    · exact h1
    · exact c x hx
theorem W2e:∀ {bs:List (V × D)},(∀ b ∈ bs,AV K W H b.2 b.1)→AVs K W H (bs.map Prod.snd) (bs.map Prod.fst)
  | [],_ => .nil
  | b :: bs,h => .cons (h b (by simp)) (W2e fun x hx=>h x (List.mem_cons_of_mem _ hx))
theorem X59:X5v K (X37 K) Z89:=fun Z ρ S H Wx σ xs vs Q st a h=>by
  unfold Z89 at h
  split at h
  · rename_i x
    split at h
    · rename_i hl
      cases a with
      | cons ha t =>
        cases t
        cases q:(items S x).bind ds? with
        | none=>rw [q] at h; exact h.elim
        | some ds =>
          rw [q] at h
          have h:V7 (AX K) K Z ρ H Wx σ Q (if Y97 ds then .ok (.d (.lst (Y5m ds))) S else .bad):=h
          by_cases c:Y97 ds=true
          · rw [if_pos c] at h
            obtain ⟨ys,h1,h2⟩:=Option.bind_eq_some_iff.mp q
            obtain ⟨b,us,rfl,hq,hp⟩:=ha.itemsL st h1 hl
            have av:=hp.ds h2
            obtain ⟨z1,z2,z3⟩:=X20 av
            refine ⟨b,us.zip ds,rfl, .inl (.inl (by rw [z1]; exact hq)),fun x hx=>?_,by rw [z2]; exact c,fun p hn=>?_⟩
            · have hx2:x.2 ∈ ds:=by rw [← z2]; exact List.mem_map.mpr ⟨x,hx,rfl⟩
              exact ((z3 x hx).dp ((Y63 c).1 _ hx2).1).1
            · have hs:(List.mergeSort (us.zip ds) Y4o).map Prod.snd=Y5m ds:=by
                have:=PySem.W.sort_maps (r:=Y4o) (s:=PySem.W.dataLe false Y5w) Prod.snd (l:=us.zip ds) fun _ _ _ _=>rfl
                rw [this,z2]
                rfl
              have av2:=W2e (bs:=List.mergeSort (us.zip ds) Y4o) fun x hx=>z3 x ((List.mergeSort_perm _ _).mem_iff.mp hx)
              rw [hs] at av2
              exact V7.ret h st (Z0m hn) (.d (Z9i (fun z hz=>st.thereW hz) hn av2))
          · rw [if_neg c] at h; exact h.elim
    · exact h.elim
  · exact h.elim
end
end Bv
namespace Bv
open PySem PySem.Spec L2
open PyProof.Rows hiding St
variable [HasW]
section
variable {X:Cx} {pins:List (Addr × Obj)} {σ:L2.St} {H:Hp} {s:Shared} {d:Addr} {o:Obj}
theorem Y72 {xs:List TX} (I:Inv X pins σ H s) (h:H d=some (.frz o (TDo d xs))) :
    (d == sysModules)=false∧s.heap.get? d=some o∧o.ExactDict∧∃ (es:Array DictEntry) (ep:Nat),o.data = .dict es ep∧es.size=xs.length∧∀ (i:Nat) (q:TX),xs[i]?=some q→∃ en:DictEntry,es[i]?=some en∧en.key = .ref q.2.1:=by
  obtain ⟨hd,⟨hs,ys,rel,o',es,ep,ho,hx,hdt,he,hn⟩,_⟩:=I.hok d _ h
  rw [hd] at ho
  cases ho
  refine ⟨hs,hd,hx,es,ep,hdt,?_,fun i q e=>?_⟩
  · have l1:=congrArg List.length he
    rw [List.length_map,Array.length_toList] at l1
    rw [l1,← Paired.length rel]
  · obtain ⟨y,hy,e1,e2,_⟩:=paired_get rel e
    have e3:es.toList[i]?=some ⟨W0i y.1, .ref y.2.1,y.2.2⟩:=by rw [he,List.getElem?_map,hy]; rfl
    refine ⟨_,by rw [← Array.getElem?_toList]; exact e3,?_⟩
    rw [e2]
end
def Itx (d:Addr) (o:Obj) (xs:List TX):It :=
  ⟨fun i H=>H d=some (.frz o (TDo d xs))∧i < xs.length,fun i H x H'=>H'=H∧∃ q:TX,xs[i]?=some q∧x = .ref q.2.1,fun i H=>H d=some (.frz o (TDo d xs))∧xs.length ≤ i⟩
theorem X5p {P:Program} {w:World} {K:PySem.W.Frag} {tg:Expr} {d:Addr} {o:Obj} {es:Array DictEntry} {ep:Nat} {xs:List TX} (it:Addr) (hod:o.data = .dict es ep):Turn P w K tg (Itx d o xs) [it] it (fun i h=>h.IsKeyIter it d i xs.length ep) where
  mem:=by simp
  obj:=fun i h st b hb=>by
    have e:b=it:=by simpa using hb
    subst e
    obtain ⟨oi,e,c,dd⟩:=st
    exact ⟨oi,e,fun v z=>by rw [dd] at z; cases z⟩
  keep:=fun i h h' st k=>st.at fun oi e=>k it (by simp) oi e
  item:=by
    intro X hP hw hK hc i pins s σ H E I hf st hg
    subst hP hw hK
    obtain ⟨hd,hi⟩:=hg
    obtain ⟨f0,f1,f2,f3,f4,f5⟩:=hf it (by simp)
    obtain ⟨hs,hgd,hx,es',ep',hdt,hsz,ent⟩:=Y72 I hd
    obtain ⟨rfl,rfl⟩:=dict_ep hod hdt
    obtain ⟨q,hq⟩:∃ p,xs[i]?=some p:=⟨xs[i],List.getElem?_eq_getElem hi⟩
    obtain ⟨en,hen,hkey⟩:=ent i q hq
    refine next_key_item st hgd hdt hsz hen fun h' st' sb=>?_
    have I1:Inv X pins σ H { s with heap:=h' }:=I.turned (t':=s.toks) (fun b ob hb e=>(sb.2 b hb).trans e) f0 f1 f3 f4 f5
    obtain ⟨oi,e,c,dd⟩:=id st'
    exact ⟨en.key,rfl,go_of (s:={ s with heap:=h' }) e c dd (by decide) ⟨.ref q.2.1,H,I1,hkey,⟨rfl,q,hq,rfl⟩,st',fun b hb=>(hf b hb).1⟩⟩
  done:=by
    intro X hP hw hK hc i pins s σ H E I hf st hg
    subst hP hw hK
    obtain ⟨hd,hi⟩:=hg
    obtain ⟨f0,f1,f2,f3,f4,f5⟩:=hf it (by simp)
    obtain ⟨hs,hgd,hx,es',ep',hdt,hsz,ent⟩:=Y72 I hd
    obtain ⟨rfl,rfl⟩:=dict_ep hod hdt
    exact next_key_end (I.ok.hd hc) st hgd hdt hsz hi fun h' eb=>⟨rfl,I.turned (t':=s.toks) (fun b ob hb e=>eb b ob hb e) f0 f1 f3 f4 f5⟩
  self:=fun A i s Q E st h=>wpAny_pyIter_keyiter st h
def W72 (td:TE):TI:=fun σ H R=>td σ H fun x H1=>∃ d o xs,x = .ref d∧H1 d=some (.frz o (TDo d xs))∧R (Itx d o xs) H1
theorem W1t {X:Cx} {tg e:Expr} {td:TE} (he:PE X e td):PI X tg e (W72 td):=by
  refine ⟨fun pins s σ H R I h=>?_⟩
  refine thn (he.run pins s σ H _ I h) fun u s1 ⟨x,H1,I1,rx,d,o,xs,ex,hd,q⟩=>?_
  subst ex
  obtain rfl:u=Value.ref d:=rx
  obtain ⟨hs,hgd,hx,es,ep,hdt,hsz,ent⟩:=Y72 I1 hd
  refine iter_keys hs hgd hx hdt (pi_one (tk:=s1.toks) I1 _ (X5p _ hdt) ⟨_,Heap.get?_push_size _ rfl,rfl,?_⟩ q)
  rw [hsz] <;> rfl
def W61 (S:Sto):Bv.X→Option (List (D × Bv.X) × Sto)
  | .d _=>none
  | .r n=>match S[n]? with
    | some (.tdc kvs)=>some (kvs,S.set n (.tfc kvs))
    | some (.tfc kvs)=>some (kvs,S)
    | _=>none
def Y9m (kvs:List (D × Bv.X)):List Bv.X:=kvs.map fun p => .d p.1
def Y4j (m:M):MIt:=fun e S=>(m e S).bind fun x S1=>match W61 S1 x with
  | some p => .ok (Y9m p.1, .free) p.2
  | none => .bad
theorem KVT.at_ {K:PySem.W.Frag} {W:Wd} {ρ:List Addr} {H:Hp} {kvs:List (D × Bv.X)} {xs:List TX} {j:Nat} {q:TX} (h:KVT K W ρ H kvs xs) (e:xs[j]?=some q):∃ p,kvs[j]?=some p∧AV K W H p.1 (.ref q.2.1):=by
  obtain ⟨p,h1,h2⟩:=Y48 h e
  exact ⟨p,h1,h2.2.1⟩
theorem X00 {K:PySem.W.Frag} {W:Wd} {ρ:List Addr} {H:Hp} {kvs:List (D × Bv.X)} {xs:List TX} {c:Addr} {od:Obj} (kv:KVT K W ρ H kvs xs) (hc:H c=some (.frz od (TDo c xs))):Srv K W ρ H (Y9m kvs, .free) (Itx c od xs):=by
  refine ⟨fun H=>H c=some (.frz od (TDo c xs)),fun i H x H'=>H'=H∧∃ q:TX,xs[i]?=some q∧x = .ref q.2.1,?_,fun Z2 ρ2 S2 H2 st m p fz _=>⟨fz _ _ _ hc,fun i x H3 y=>?_⟩⟩
  · have e:(Y9m kvs,Lk.free).1.length=xs.length:=by
      show (kvs.map _).length=_
      rw [List.length_map]; exact Paired.length kv
    rw [e]
    exact ⟨fun i _ hi g=>⟨g,hi⟩,fun _ g=>⟨g,Nat.le_refl _⟩,fun _ _ _ _ _ _ y=>y⟩
  · obtain ⟨rfl,q,hq,rfl⟩:=y
    obtain ⟨p2,h1,h2⟩:=kv.at_ hq
    exact ⟨Same.rfl', .d p2.1,by simp [Y9m,h1], .d (h2.mv m)⟩
theorem X9e {K:PySem.W.Frag} {Z:Wd} {ρ:List Addr} {H:Hp} {S:Sto} {Wx:WX} {σ:L2.St} {R:It→Hp→Prop} {x:Bv.X} {v:V} (st:Sta K Z ρ S H) (a:AX K (Wn Z ρ) ρ H x v) (p:V7 (Srv K) K Z ρ H Wx σ R (match W61 S x with
    | some p => .ok (Y9m p.1, .free) p.2
    | none => .bad)) :
    (∃ c od xs,v = .ref c∧H c=some (.frz od (TDo c xs))∧R (Itx c od xs) H) ∨ ∃ c xs,v = .ref c∧H c=some (TDo c xs)∧∀ od,R (Itx c od xs) (upd H c (.frz od (TDo c xs))):=by
  cases a with
  | d a=>exact p.elim
  | r e =>
    rename_i n a
    cases q:S[n]? with
    | none=>simp only [W61,q] at p; exact p.elim
    | some o =>
      cases o with
      | tfc kvs =>
        simp only [W61,q] at p
        obtain ⟨ob,xs,e2,r⟩:=st.ob n _ _ q e
        exact .inl ⟨_,ob,xs,rfl,e2,V7.ret0 p st (X00 r e2)⟩
      | tdc kvs =>
        simp only [W61,q] at p
        obtain ⟨xs,e2,r⟩:=st.ob n _ _ q e
        refine .inr ⟨_,xs,rfl,e2,fun od=>?_⟩
        have inρ:a ∈ ρ:=List.mem_of_getElem? e
        have m:Mv (Wn Z ρ) H (Wn Z ρ) (upd H a (.frz od (TDo a xs))):=fun b o hb z=>⟨hb,by rw [upd_ne (fun y=>hb (.inr (by rw [y]; exact inρ)))]; exact z⟩
        obtain ⟨s4,g4⟩:=st.put (o' := .tfc kvs) (u := .frz od (TDo a xs)) e (fun _ _ z=>by rw [e2] at z; cases z) ⟨od,xs,upd_same,KVT.mv m (List.prefix_refl _) r⟩
        exact p ρ _ _ s4 g4 (X00 (KVT.mv m (List.prefix_refl _) r) upd_same)
      | _=>simp only [W61,q] at p; exact p.elim
theorem W0y {X:Cx} {Wx:WX} {e tg:Expr} {m:M} (h:ME X Wx e m):MI X Wx tg e (Y4j m):=PI.of (W1t (V1r h)) fun σ H R ⟨Z,ρ,e,S,st,ev,p⟩=>V2 (rel:=AX X.K) st ev p fun ρ1 H1 v x S1 st1 g1 ev1 a1 p1=>by
  rcases X9e st1 a1 p1 with ⟨c,od,xs,rfl,hc,r⟩ | ⟨c,xs,rfl,hc,r⟩
  · exact .inl ⟨c,od,xs,rfl,hc,r⟩
  · exact .inr ⟨c,_,hc,trivial,fun od=>⟨c,od,xs,rfl,upd_same,r od⟩⟩
def Y2a:List Bv.X→Sto→R Bv.X
  | [x],S=>match tdX S x with
    | some kvs=>if decide (kvs.length ≤ sizeLine) then .ok (.d (.lst (kvs.map (·.1)))) S else .bad
    | none => .bad
  | _,_ => .bad
def W3e (K:PySem.W.Frag):List V→Hp→VK→Prop:=fun vs H Q=>∃ (a:Addr) (xs:List TX),vs=[.ref a]∧DTat K H a xs∧xs.length ≤ sizeLine∧∀ p,H p=none→Q (.ref p) (upd H p (.lst (xs.map fun q=>V.ref q.2.1)))
theorem X4j:∀ {xs:List TX} {us:List Value},us.length=xs.length→(∀ (j:Nat) (v:Value),us[j]?=some v→∃ q,xs[j]?=some q∧v = .ref q.2.1)→Vals (xs.map fun q=>V.ref q.2.1) us
  | [],[],_,_ => .nil
  | x :: xs,u :: us,hl,h=>by
    obtain ⟨q,e1,e2⟩:=h 0 u rfl
    have e1:some x=some q:=e1
    cases e1
    refine .cons e2 (X4j (by simpa using hl) fun j v e=>h (j + 1) v (by simpa using e))
  | [],_ :: _,hl,_=>by simp at hl
  | _ :: _,[],hl,_=>by simp at hl
theorem X25 {X:Cx} (hw:X.w=HasW.w) (hcalm:X.calm=true):CallR X (.type "list") (W3e X.K):=by
  intro pins s σ H vs us Q I r q
  obtain ⟨a,xs,ex,hd,hz,q⟩:=q
  subst ex
  rw [Vals.ref1 r]
  obtain ⟨lo,ys,rel,dd⟩:=Y9d hw I hd
  obtain ⟨es,ep,hr,hsz,hat⟩:=dd.raw
  have hl:xs.length=ys.length:=Paired.length rel
  refine PySem.W.kdl_call (PySem.KdlSrc.rawDict (es:=es) (ep:=ep) lo) (I.ok.hd hcalm) hr (by omega) fun h' tk acc c' hk hD hacc=>?_
  have hv:Vals (xs.map fun q=>V.ref q.2.1) acc.toList:=X4j (by rw [Array.length_toList]; have:=hacc.1; omega) fun j v e=>by
    obtain ⟨hi,e2⟩:=hacc.2 j v (by rw [← Array.getElem?_toList]; exact e)
    obtain ⟨y,hy,hk2,_⟩:=hat j hi
    obtain ⟨x,hx,e3⟩:=Y48 rel hy
    exact ⟨x,hx,by rw [e2,hk2,e3.2.1]⟩
  exact ⟨.ref s.heap.objs.size,upd H s.heap.objs.size (.lst (xs.map fun q=>V.ref q.2.1)),I.laid (t':=tk) hk (Nat.le_refl _)
    (show ObjOk X.prog X.w _ _ _ (.lst (xs.map fun q=>V.ref q.2.1)) from ⟨by rw [List.length_map]; exact hz,acc.toList,c',hv,by rw [Array.toArray_toList]; exact hD⟩),rfl,q _ (I.hok.fresh (Nat.le_refl _))⟩
theorem Y4l {K:PySem.W.Frag} {W:Wd} {ρ:List Addr} {H:Hp}:∀ {kvs:List (D × Bv.X)} {xs:List TX},KVT K W ρ H kvs xs→AVs K W H (kvs.map (·.1)) (xs.map fun q=>V.ref q.2.1)
  | _,_, .nil => .nil
  | _,_, .cons h t => .cons h.2.1 (Y4l t)
theorem X57 {K:PySem.W.Frag}:X5v K (W3e K) Y2a:=fun Z ρ S H Wx σ xs vs Q st a h=>by
  unfold Y2a at h
  split at h
  · rename_i x
    cases a with
    | cons ha t =>
      cases t
      cases q:tdX S x with
      | none=>rw [q] at h; exact h.elim
      | some kvs =>
        rw [q] at h
        have h:V7 (AX K) K Z ρ H Wx σ Q (if decide (kvs.length ≤ sizeLine) then .ok (.d (.lst (kvs.map (·.1)))) S else .bad):=h
        by_cases c:kvs.length ≤ sizeLine
        · rw [if_pos (decide_eq_true c)] at h
          obtain ⟨n,rfl,q2⟩:=W9s q
          cases ha with
          | r e =>
            rcases q2 with q2 | q2
            · obtain ⟨xs,h1,kv⟩:=st.ob n _ _ q2 e
              exact ⟨_,xs,rfl,⟨.inl h1,KVT.keys kv⟩,by rw [← Paired.length kv]; exact c,fun p hp=>V7.ret h st (Z0m hp) (.d (Z9i (fun z hz=>st.thereW hz) hp (Y4l kv)))⟩
            · obtain ⟨ob,xs,h1,kv⟩:=st.ob n _ _ q2 e
              exact ⟨_,xs,rfl,⟨.inr ⟨ob,h1⟩,KVT.keys kv⟩,by rw [← Paired.length kv]; exact c,fun p hp=>V7.ret h st (Z0m hp) (.d (Z9i (fun z hz=>st.thereW hz) hp (Y4l kv)))⟩
        · rw [if_neg (by simpa using c)] at h; exact h.elim
  · exact h.elim
end Bv
namespace Bv
open PySem PySem.Spec L2
open PyProof.Rows hiding St
abbrev DPut:=Hp→Addr→V→V→(Hp→Prop)→Prop
abbrev W7n (put:DPut) (tt:TT) (tk tv:TE) (vs:List Nat) (σ:L2.St) (D:Addr) (Nx:Hp→Prop):L2.St→Hp→Prop:=fun σ2 H2=>wipe σ2 vs=wipe σ vs∧tt σ2 H2 fun b H3=>if b=true then tk σ2 H3 fun y H4=>tv σ2 H4 fun z H5=>put H5 D y z Nx else Nx H3
abbrev W67 (put:DPut) (J:It) (g:TG) (tt:TT) (tk tv:TE) (vs:List Nat) (σ:L2.St) (D:Addr) (Qd:Hp→Prop) (W:Nat→Nat→Hp→Prop):Prop:=∀ i m H,W i m H →
  (J.stop i H∧Qd H) ∨ (J.go i H∧∃ Nx:Hp→Prop,(∀ H',Nx H'→∃ m',m' < m∧W (i + 1) m' H')∧∀ x H',J.yld i H x H'→g x (wipe σ vs) H' (W7n put tt tk tv vs σ D Nx))
def tDg (emp:Addr→HO) (put:DPut) (wi:TI) (g:TG) (tt:TT) (tk tv:TE) (vs:List Nat):TE:=fun σ H Q=>wi σ H fun J H1=>∀ D,H1 D=none→∃ W:Nat→Nat→Hp→Prop,(∃ m,W 0 m (upd H1 D (emp D)))∧W67 put J g tt tk tv vs σ D (fun H=>Q (.ref D) H) W
structure DKind (X:Cx) (emp:Addr→HO) (put:DPut):Prop where
  new:∀ (h:Heap) (H:Hp),sysModules < h.objs.size→ObjOk X.prog X.w H (h.push { cls := .type "dict",data := .dict #[] }) h.objs.size (emp h.objs.size)
  set:∀ (s3:Shared) (H3:Hp) (scope:Scope) (ce:Env) (fp:List Addr) {pins:List (Addr × Obj)} {σ:L2.St} {H:Hp} {s:Shared} {D:Addr} {y z:V} {u r:Value} {Nx:Hp→Prop} {Q:Unit→Shared→Prop} {E:Value→Shared→Prop},
    Inv (X.blk s3 H3 scope ce fp) pins σ H s→RelV y u→RelV z r→put H D y z Nx→(∀ s' H',Inv (X.blk s3 H3 scope ce fp) pins σ H' s'→Nx H'→Q () s')→wpAny (model X.prog X.w) X.A (dictSet D u r) Q E s
section
variable {X:Cx} {emp:Addr→HO} {put:DPut}
theorem W4a (K:DKind X emp put) {pins:List (Addr × Obj)} {s:Shared} {σ:L2.St} {H:Hp} {Q:VK} {kx vx tg iter:Expr} {ifs:List Expr} {scope:Scope} {own:List (Str × Nat)} {pos pos':Pos} {wi:TI} {g:TG} {tt:TT} {tk tv:TE} {use:Option (Value→Sem Unit)} {Qf:Value→Shared→Prop}
    (hc:X.calm=true) (hN:X.N.Nodup) (I:Inv X pins σ H s) (hi:PI X tg iter wi) (ok:BlkOk X.N X.env.scope scope own)
    (hg:∀ (s:Shared) (H:Hp) (C:Addr) (cl:List (Str × Addr)) (fp:List Addr),PG (X.blk s H scope (compEnvC scope cl C X.env) fp) tg g) (ht:∀ (s:Shared) (H:Hp) (C:Addr) (cl:List (Str × Addr)) (fp:List Addr),PTs (X.blk s H scope (compEnvC scope cl C X.env) fp) ifs tt)
    (hk:∀ (s:Shared) (H:Hp) (C:Addr) (cl:List (Str × Addr)) (fp:List Addr),PE (X.blk s H scope (compEnvC scope cl C X.env) fp) kx tk)
    (he:∀ (s:Shared) (H:Hp) (C:Addr) (cl:List (Str × Addr)) (fp:List Addr),PE (X.blk s H scope (compEnvC scope cl C X.env) fp) vx tv) (hs:∀ x,foldedSetIterable iter X.env x=pure x)
    (h:tDg emp put wi g tt tk tv (own.map (·.2)) σ H Q)
    (hRR:∀ D C s' m H',Inv X pins σ H' s'→Q (.ref D) H'→s'.heap.Ns C m→FpOk X pins H' C→compPost (model X.prog X.w) X.A X.xe use Qf (.ref D) C (.ok .next) s') :
    wpAny (model X.prog X.w) X.A (comprehension (.DictComp kx vx [⟨tg,iter,ifs,0⟩] scope pos) scope X.env pos' newDict false (eval iter X.env) use) Qf X.xe s:=by
  have hfree:∀ y ∈ scope.names,y.2 = .free→∃ c,X.env.cells.lookup y.1=some c:=fun y hy e=>I.ok.has _ ((ok.free y hy e).elim .inl .inr)
  refine wpAny_comprehension_free (use:=use) rfl hs (closure_ok hfree) ok.kind (fun y hy e=>by rw [ok.uniq y hy,e])
    (thn (hi.run pins s σ H _ I h) fun xv s1 hx=>thn hx fun itv s2 ⟨it,fp,tn,J,H2,e,I2,T,st2,f2,q⟩=>?_)
  subst e
  refine wpAny_newObj_type (newEnv_comp ?_)
  obtain ⟨W,⟨m0,w0⟩,turn⟩:=q s2.heap.objs.size (I2.hok.fresh (Nat.le_refl _))
  have old:∀ b ∈ fp,b < s2.heap.objs.size:=fun b hb=>let ⟨_,e,_⟩:=T.obj _ _ st2 b hb; Heap.lt_size e
  have I3:=I2.laid (a:=s2.heap.objs.size) (o:=emp s2.heap.objs.size) (h':=s2.heap.push { cls := .type "dict",data := .dict #[] }) (t':=s2.toks) (fun b o e=>Heap.get?_push_of_some _ e) (Nat.le_refl _) (K.new s2.heap _ I2.big)
  have nfp:∀ b ∈ fp,(upd H2 s2.heap.objs.size (emp s2.heap.objs.size)) b=none:=fun b hb=>(upd_ne (Nat.ne_of_lt (old b hb))).trans (f2 b hb).1
  have f3:∀ b ∈ fp,FpOk X pins (upd H2 s2.heap.objs.size (emp s2.heap.objs.size)) b∧b < (s2.heap.push { cls := .type "dict",data := .dict #[] }).objs.size:=fun b hb =>
    ⟨⟨nfp b hb,(f2 b hb).2⟩,by rw [Heap.size_push]; exact Nat.lt_succ_of_lt (old b hb)⟩
  have st3:tn 0 (s2.heap.push { cls := .type "dict",data := .dict #[] }):=T.keep _ _ _ st2 fun b _ o e=>Heap.get?_push_of_some _ e
  generalize s2.heap.objs.size=D at I3 nfp f3 w0 turn ⊢
  generalize upd H2 D (emp D)=H3 at I3 nfp f3 w0
  generalize e3:({ s2 with heap:=s2.heap.push { cls := .type "dict",data := .dict #[] } }:Shared)=s3 at I3
  have h3:s2.heap.push { cls := .type "dict",data := .dict #[] }=s3.heap:=by rw [← e3]
  rw [h3] at f3 st3
  have I4:=block_start I3 ok hN f3
  generalize hcl:cellsFrom (s3.heap.objs.size + 1) scope.names (cloFrom X.env.cells scope.names [])=cl at I4
  have pg:=hg s3 H3 s3.heap.objs.size cl fp
  have pt:=ht s3 H3 s3.heap.objs.size cl fp
  have pk:=hk s3 H3 s3.heap.objs.size cl fp
  have pe:=he s3 H3 s3.heap.objs.size cl fp
  show codeAny _ _ (.compStart (.DictComp kx vx [⟨tg,iter,ifs,0⟩] scope pos) 0 (.ref it) (.ref D) (compEnvC scope cl s3.heap.objs.size X.env)) (compPost (model X.prog X.w) X.A X.xe use Qf (.ref D) s3.heap.objs.size) ({ s3 with heap:=pushCells (s3.heap.push { cls := .type "dict",data := .dict #[] }) scope.names }:Shared)
  have cL:(compEnvC scope cl s3.heap.objs.size X.env).locals=s3.heap.objs.size:=rfl
  generalize compEnvC scope cl s3.heap.objs.size X.env=ce at I4 pg pt pk pe cL ⊢
  have st4:tn 0 (pushCells (s3.heap.push { cls := .type "dict",data := .dict #[] }) scope.names):=T.keep _ _ _ st3 fun b _ o e=>pushCells_keeps _ _ _ _ (Heap.get?_push_of_some _ e)
  generalize e4:({ s3 with heap:=pushCells (s3.heap.push { cls := .type "dict",data := .dict #[] }) scope.names }:Shared)=s4 at I4 ⊢
  have st4:tn 0 s4.heap:=by rw [← e4]; exact st4
  have stat:∀ {σ':L2.St} {H':Hp} {s':Shared},Inv (X.blk s3 H3 scope ce fp) [] σ' H' s'→(∀ b ∈ fp,H' b=none)→∀ b ∈ fp,FpOk (X.blk s3 H3 scope ce fp) [] H' b:=fun {σ' H' s'} I' hn b hb =>
    ⟨hn b hb,(I'.ok.exf b hb).1,I'.ok.exfs b hb, .inl hb,fun x c e=>(I'.ok.exf b hb).2 x c e,fun p hp=>absurd (show p ∈ ([]:List (Addr × Obj))++[] from hp) (by simp)⟩
  let Btw:Nat→Shared→Prop:=fun n s'=>∃ i H',Inv (X.blk s3 H3 scope ce fp) [] (wipe σ (own.map (·.2))) H' s'∧tn i s'.heap∧(∀ b ∈ fp,H' b=none)∧W i n H'
  have loop:codeAny (model X.prog X.w) X.A (.compLoop (.DictComp kx vx [⟨tg,iter,ifs,0⟩] scope pos) 0 (.ref it) (.ref D) ce) (compPost (model X.prog X.w) X.A X.xe use Qf (.ref D) s3.heap.objs.size) s4:=by
    refine compLoop_anyD Btw ?_ m0 ⟨0,H3,I4,st4,nfp,w0⟩
    rintro n s5 ⟨i,H5,I5,st5,n5,w5⟩
    rcases turn i n H5 w5 with ⟨stop,fin⟩ | ⟨go,Nx,hNx,step⟩
    · refine thnF (T.done (X.blk s3 H3 scope ce fp) rfl rfl rfl hc i [] s5 _ H5 (fun _ _=>False) I5 (stat I5 n5) st5 stop) fun r s6 ⟨hr,I6⟩=>?_
      subst hr
      have I7:Inv X pins σ H5 s6:=I3.call' (ch:=fp) I6.os I6.base I6.hok I6.bare fun b hb=>let f:=(f3 b hb).1; ⟨f.2.2.2.1,f.2.1,f.2.2.2.2.1,f.2.2.2.2.2⟩
      have nC:H5 ce.locals=none:=I6.free
      obtain ⟨m,hn,_⟩:=I6.loc
      have hn:s6.heap.Ns ce.locals m:=hn
      rw [cL] at nC hn
      exact hRR D _ s6 m H5 I7 fin hn (I3.fpOk (Nat.le_refl _) nC)
    · refine thnF (T.item (X.blk s3 H3 scope ce fp) rfl rfl rfl hc i [] s5 _ H5 (fun _ _=>False) I5 (stat I5 n5) st5 go) fun r s6 ⟨u,hr,h6⟩=>?_
      subst hr
      refine thnF h6 fun _ s7 ⟨x,H7,I7,r7,y7,st7,n7⟩=>?_
      refine thnF (pg.run _ s7 _ H7 x u _ (I7.pinned (stat I7 n7) (T.obj _ _ st7)) r7 (step x H7 y7)) fun _ s8 ⟨σ8,H8,I8,hw8,q8⟩=>?_
      refine thnF (pt.run _ s8 σ8 H8 _ I8 q8) fun b s9 ⟨H9,I9,q9⟩=>?_
      have next:∀ {s':Shared} {H':Hp},Inv (X.blk s3 H3 scope ce fp) ([]++pinsAt fp s7.heap) σ8 H' s'→Nx H'→∃ m,m < n∧Btw m s':=fun {s' H'} I' nx=>by
        obtain ⟨m',hm,w'⟩:=hNx H' nx
        have stay:∀ b ∈ fp,∀ o,s7.heap.get? b=some o→s'.heap.get? b=some o∧H' b=none:=fun b hb o e =>
          let z:=I'.pin (b,o) (List.mem_append_right _ (List.mem_append_right _ (mem_pinsAt hb e)))
          ⟨z.1,z.2.1⟩
        refine ⟨m',hm,i + 1,H',(I'.unpinned (pins:=[])).weak (by rw [← hw8,wipe_length]) (fun j v e=>?_),T.keep _ _ _ st7 fun b hb o e=>(stay b hb o e).1,fun b hb=>?_,w'⟩
        · rw [← hw8] at e
          exact (wipe_some e).1
        · obtain ⟨o,e,_⟩:=T.obj _ _ st7 b hb
          exact (stay b hb o e).2
      cases b with
      | false =>
        simp only [Bool.false_eq_true,if_false] at q9 ⊢
        exact next I9 q9
      | true =>
        simp only [if_true] at q9 ⊢
        refine thnF (pk.run _ s9 σ8 H9 _ I9 q9) fun z s10 ⟨yk,H10,I10,r10,q10⟩=>?_
        exact thnF (pe.run _ s10 σ8 H10 _ I10 q10) fun z2 s11 ⟨yv,H11,I11,r11,pt⟩=>K.set s3 H3 scope ce fp I11 r10 r11 pt fun s12 H12 I12 nx=>next I12 nx
  exact codeAny_compStart_dict loop (T.self X.A 0 _ _ _ st4 loop)
end
end Bv
namespace Bv
open PySem PySem.Spec L2
open PyProof.Rows hiding St
section
variable {X:Cx} {emp:Addr→HO} {put:DPut}
theorem X8e (K:DKind X emp put) {i:Nat} {y:Str} {py:Pos} {kx vx tg iter:Expr} {ifs:List Expr} {scope:Scope} {own:List (Str × Nat)} {pos spos:Pos} {wi:TI} {g:TG} {tt:TT} {tk tv:TE} (hc:X.calm=true) (hN:X.N.Nodup) (hy:X.N[i]?=some y) (hyl:X.env.scope.names.lookup y=some .local)
    (hsw:swapsWith (.DictComp kx vx [⟨tg,iter,ifs,0⟩] scope pos) (some (.Name y py)) spos.line X.env=pure true) (hi:PI X tg iter wi) (ok:BlkOk X.N X.env.scope scope own)
    (hg:∀ (s:Shared) (H:Hp) (C:Addr) (cl:List (Str × Addr)) (fp:List Addr),PG (X.blk s H scope (compEnvC scope cl C X.env) fp) tg g) (ht:∀ (s:Shared) (H:Hp) (C:Addr) (cl:List (Str × Addr)) (fp:List Addr),PTs (X.blk s H scope (compEnvC scope cl C X.env) fp) ifs tt)
    (hk:∀ (s:Shared) (H:Hp) (C:Addr) (cl:List (Str × Addr)) (fp:List Addr),PE (X.blk s H scope (compEnvC scope cl C X.env) fp) kx tk) (he:∀ (s:Shared) (H:Hp) (C:Addr) (cl:List (Str × Addr)) (fp:List Addr),PE (X.blk s H scope (compEnvC scope cl C X.env) fp) vx tv)
    (hs:∀ x,foldedSetIterable iter X.env x=pure x:=by intro _; rfl):PS X (.Assign [.Name y py] (.DictComp kx vx [⟨tg,iter,ifs,0⟩] scope pos) spos) (tAsg (tDg emp put wi g tt tk tv (own.map (·.2))) (gName i)):=by
  refine ⟨fun pins s σ H D I h=>?_⟩
  rw [exec_Assign_Name_used _ _ _ _ hsw]
  refine wpAny_bind (wpAny_standAt (wpAny_bind ?_))
  show wpAny _ X.A (do let _ ← comprehension (.DictComp kx vx [⟨tg,iter,ifs,0⟩] scope pos) scope X.env (firstIterPos [⟨tg,iter,ifs,0⟩] pos) newDict false (eval iter X.env) (some (assign (.Name y py) X.env))) _ _ s
  have h:tDg emp put wi g tt tk tv (own.map (·.2)) σ H (fun v H1=>gName i v σ H1 D.nx):=h
  refine wpAny_bind (thn (W4a K (Qf:=fun _ s'=>SP X pins D .next s') hc hN I hi ok hg ht hk he hs h fun L C s' m H' I' q hn f=>?_) fun _ s' hq=>wpAny_pure (wpAny_pure hq))
  show wpAny _ _ (assign (.Name y py) X.env (.ref L)) _ _ _
  refine wpAny_assign_Name (store_ok2 (v:=V.ref L) I' hN hy (.inl hyl) rfl (fun s2 I2 ⟨a,sb,ha⟩=>?_) (.inr hyl))
  obtain ⟨f0,f1,f2,f3,f4,f5⟩:=f
  have away:C ≠ a:=ha.elim (fun z=>by rw [z]; exact f1) fun z e=>f4 y a z e.symm
  refine ⟨m,hn.sameBut sb away,fun h3 sb3=>?_⟩
  have J:=I2.turned (t':=s2.toks) (fun b o hb e=>(sb3.2 b hb).trans e) f0 f1 f3 f4 f5
  exact ⟨_,H',J,q⟩
end
variable [HasW]
def W84 (K:PySem.W.Frag):DPut:=fun H D y z Nx=>∃ xs b q,y = .ref b∧H D=some (TDo D xs)∧(∀ t ∈ xs,X09 K H t.2.1 t.1)∧X09 K H b q∧xs.length < sizeLine∧Nx (upd H D (TDo D (Y2r xs q b z)))
theorem V2z {X:Cx} (hw:X.w=HasW.w) (hu:X.A.units + 1 < cLine):DKind X (fun D=>TDo D []) (W84 X.K) where
  new:=fun h H hb=>X04 h hb
  set:=fun s3 H3 scope ce fp {pins σ H s D y z u r Nx Q E} I ry rz hp h=>by
    obtain ⟨xs,b,q,e1,hD,hk,tk,hl,nx⟩:=hp
    subst e1
    obtain rfl:u=Value.ref b:=ry
    obtain ⟨hd,ys,rel,dd⟩:=Y9d (X:=X.blk s3 H3 scope ce fp) hw I ⟨.inl hD,hk⟩
    have hz:ys.length ≤ sizeLine:=by rw [← Paired.length rel]; omega
    refine wpAny_dictSet_heap (hsz:=hz) (show X.A.units < cLine by omega) (Y5q (X:=X.blk s3 H3 scope ce fp) I tk) dd fun h' dd' hs=>h _ _ ?_ nx
    have he:∃ q,h'.get? D=some q:=let ⟨q,_,_,hq,_⟩:=dd'; ⟨q,hq⟩
    exact d_write I (by rw [hD]; exact True.intro) hs he (X2q (X:=X.blk s3 H3 scope ce fp) hw hd (rel.put q b rz) dd')
theorem V0j {put:DPut} {J:It} {n:Nat} {G:Hp→Prop} {Y:Nat→Hp→V→Hp→Prop} (w:Walk J n G Y) {g:TG} {tt:TT} {tk tv:TE} {vs:List Nat} {σ:L2.St} {H0:Hp} {D:Addr} {Qd:Hp→Prop} (Pv:Nat→Hp→Prop) (h0:Pv 0 H0) (hG:∀ i H,i ≤ n→Pv i H→G H)
    (hs:∀ i x H H',i < n→Pv i H→Y i H x H'→g x (wipe σ vs) H' (W7n put tt tk tv vs σ D (Pv (i + 1)))) (hd:∀ H,Pv n H→Qd H):∃ W:Nat→Nat→Hp→Prop,(∃ m,W 0 m H0)∧W67 put J g tt tk tv vs σ D Qd W:=by
  refine ⟨fun i m H=>m=n - i∧i ≤ n∧Pv i H,⟨n,(Nat.sub_zero n).symm,Nat.zero_le _,h0⟩,fun i m H ⟨em,hi,p⟩=>?_⟩
  subst em
  have q:=hG i H hi p
  rcases Nat.lt_or_ge i n with hlt | hge
  · exact .inr ⟨w.goes i H hlt q,Pv (i + 1),fun H' p'=>⟨n - (i + 1),by omega,rfl,hlt,p'⟩,fun x H' y=>hs i x H H' hlt p (w.yields i H x H' hlt q y)⟩
  · obtain rfl:i=n:=by omega
    exact .inl ⟨w.stops H q,hd H p⟩
def dcT (acc:List (D × X)) (y z:X):Option (List (D × X)):=match y with
  | .d k=>if decide (acc.length < sizeLine) then (k.tkey?).map fun q=>Y6c acc k q z else none
  | .r _=>none
def Y9b (t:Tg) (l:Lk) (mt:MG Bool) (mk mv:M) (e:Ev):List (D × X)→List X→Sto→R (List (D × X))
  | acc,[],S=>if l.ok S then .ok acc S else .bad
  | acc,x :: xs,S=>if l.ok S then (match t.asg S x e with
    | some e1=>(mt e1 S).ne.bind fun b S1=>if b then (mk e1 S1).ne.bind fun y S2=>(mv e1 S2).ne.bind fun z S3=>(match dcT acc y z with
        | some acc2=>Y9b t l mt mk mv e acc2 xs S3
        | none => .bad) else Y9b t l mt mk mv e acc xs S1
    | none => .bad) else .bad
def X7k (t:Tg) (mi:MIt) (mt:MG Bool) (mk mv:M) (vs:List Nat):M:=fun e S=>(mi e S).bind fun p S1=>(Y9b t p.2 mt mk mv (Z05 e vs) [] p.1 S1).bind fun kvs S2 => .ok (.r S2.length) (S2++[.tdc kvs])
section
variable {X:Cx} {Wx:WX} {pos:Pos} {tg iter kx vx c:Expr} {ifs:List Expr} {mi:MIt} {mt:MG Bool} {mk mv:M} {t:Tg} {vs:List Nat}
theorem W39 (hs:∀ i ∈ t.slots,i ∈ vs) {σ:L2.St} {H:Hp} {Q:VK} (h:RE X.K Wx (X7k t mi mt mk mv vs) σ H Q):tDg (fun D=>TDo D []) (W84 X.K) (RG (Srv X.K) X.K Wx mi) (TGt X.K t) (RB X.K WX0 mt) (RE X.K WX0 mk) (RE X.K WX0 mv) vs σ H Q:=by
  obtain ⟨Z,ρ,e,S,st,ev,p⟩:=h
  refine V2 (rel:=Srv X.K) st ev p fun ρ1 H1 J p0 S1 st1 g1 ev1 srv p1=>?_
  obtain ⟨ys,l⟩:=p0
  obtain ⟨G,Y,w,sv⟩:=srv
  intro D0 hD
  let fin:List (D × Bv.X)→Sto→R Bv.X:=fun kvs S2 => .ok (.r S2.length) (S2++[.tdc kvs])
  have p1:Z91 X.K Z ρ1 H1 Wx σ Q ((Y9b t l mt mk mv (Z05 e vs) [] ys S1).bind fin):=p1
  have sv:∀ (Z2:Wd) (ρ2:List Addr) (S2:Sto) (H2:Hp),Sta X.K Z2 ρ2 S2 H2→Mv (Wn Z ρ1) H1 (Wn Z2 ρ2) H2→ρ1 <+: ρ2→(∀ a ob u,H1 a=some (.frz ob u)→H2 a=some (.frz ob u))→l.ok S2=true→G H2 ∧
    ∀ i x H3,Y i H2 x H3→Same H2 H3∧∃ y,ys[i]?=some y∧AX X.K (Wn Z2 ρ2) ρ2 H3 y x:=sv
  have w:Walk J ys.length G Y:=w
  have evw:=ev1.wipe vs
  let Z':Wd:=fun a=>Z a ∨ a=D0
  let Pv:Nat→Hp→Prop:=fun i H=>∃ (ρ:List Addr) (S:Sto) (acc:List (D × Bv.X)) (ks:List TX),Sta X.K Z' ρ S H∧ρ1 <+: ρ∧(∀ a o,a ∉ ρ1→H1 a=some o→a ∉ ρ∧H a=some o)∧(∀ a ob u,H1 a=some (.frz ob u)→H a=some (.frz ob u))∧H D0=some (TDo D0 ks)∧KVT X.K (Wn Z' ρ) ρ H acc ks ∧
    EvOk X.K (Wn Z' ρ) ρ H (Z05 e vs) (wipe σ vs)∧Z91 X.K Z ρ1 H1 Wx σ Q ((Y9b t l mt mk mv (Z05 e vs) acc (ys.drop i) S).bind fin)
  have mvOf:∀ {ρ:List Addr} {S:Sto} {H:Hp},Sta X.K Z' ρ S H→(∀ a o,a ∉ ρ1→H1 a=some o→a ∉ ρ∧H a=some o)→Mv (Wn Z ρ1) H1 (Wn Z' ρ) H:=fun {ρ S H} s k a o hn hq=>by
    obtain ⟨h2,h3⟩:=k a o (fun z=>hn (.inr z)) hq
    refine ⟨fun z=>?_,h3⟩
    rcases z with (z | z) | z
    · exact hn (.inl z)
    · rw [z,hD] at hq; cases hq
    · exact h2 z
  have okOf:∀ {xs:List Bv.X} {S:Sto} {acc:List (D × Bv.X)},Z91 X.K Z ρ1 H1 Wx σ Q ((Y9b t l mt mk mv (Z05 e vs) acc xs S).bind fin)→l.ok S=true:=fun {xs S acc} q=>by
    cases z:l.ok S with
    | true=>rfl
    | false=>cases xs <;> (simp only [Y9b,z] at q; exact q.elim)
  refine V0j w Pv ?_ ?_ ?_ ?_
  · have k:=Z0m (o:=TDo D0 []) hD
    have s0:=st1.grow k
    have hnw:¬ Wn Z ρ1 D0:=st1.fresh hD
    have m0:Mv (Wn Z ρ1) H1 (Wn Z' ρ1) (upd H1 D0 (TDo D0 [])):=fun a o hn hq=>⟨fun z=>by
      rcases z with (z | z) | z
      · exact hn (.inl z)
      · rw [z,hD] at hq; cases hq
      · exact hn (.inr z),k a o hq⟩
    refine ⟨ρ1,S1,[],[],⟨st1.nd,fun a z=>?_,st1.len,fun n o a e1 e2=>AO.mv m0 (List.prefix_refl _) (fun u q=>k _ _ q) (st1.ob n o a e1 e2)⟩,List.prefix_refl _,fun a o hn hq=>⟨hn,k a o hq⟩,fun a _ _ q=>k a _ q,upd_same, .nil,evw.mv m0 (List.prefix_refl _),?_⟩
    · rcases z with z | z
      · exact ⟨(st1.z a z).1,let ⟨o,q⟩:=(st1.z a z).2; ⟨o,k a o q⟩⟩
      · exact ⟨fun z2=>hnw (.inr (by rw [← z]; exact z2)),⟨_,by rw [z]; exact upd_same⟩⟩
    · rw [List.drop_zero]
      exact p1
  · rintro i H2 _ ⟨ρ2,S2,acc,ks,st2,pr2,k2,f2,d2,a2,ev2,q2⟩
    exact (sv Z' ρ2 S2 H2 st2 (mvOf st2 k2) pr2 f2 (okOf q2)).1
  · rintro i x H2 H3 hi ⟨ρ2,S2,acc,ks,st2,pr2,k2,f2,d2,a2,ev2,q2⟩ hy
    have hk:=okOf q2
    obtain ⟨k,y,e3,a⟩:=(sv Z' ρ2 S2 H2 st2 (mvOf st2 k2) pr2 f2 hk).2 i x H3 hy
    have st3:=st2.grow k
    have m23:Mv (Wn Z' ρ2) H2 (Wn Z' ρ2) H3:=Y2s k
    have ev3:=ev2.mv m23 (List.prefix_refl _)
    rw [Y7z e3] at q2
    simp only [Y9b,hk,if_true] at q2
    cases q4:t.asg S2 y (Z05 e vs) with
    | none=>rw [q4] at q2; exact q2.elim
    | some e4 =>
      rw [q4] at q2
      refine ⟨Z',ρ2,Z05 e vs,S2,y,e4,st3,ev3,a,q4,fun σ5 ev5 w5=>⟨?_,?_⟩⟩
      · rw [w5 vs hs,Y7k]
      have q2:Z91 X.K Z ρ1 H1 Wx σ Q (((mt e4 S2).ne.bind fun b S1=>if b then (mk e4 S1).ne.bind fun y S2=>(mv e4 S2).ne.bind fun z S3=>(match dcT acc y z with
          | some acc2=>Y9b t l mt mk mv (Z05 e vs) acc2 (ys.drop (i + 1)) S3
          | none => .bad) else Y9b t l mt mk mv (Z05 e vs) acc (ys.drop (i + 1)) S1).bind fin):=q2
      cases q5:(mt e4 S2).ne with
      | err _ _ _=>cases q6:mt e4 S2 <;> rw [q6] at q5 <;> cases q5
      | bad=>rw [q5] at q2; exact q2.elim
      | ok b S6 =>
        rw [q5] at q2
        refine Y4w (rel:=relB) st3 ev5 q5 fun ρ6 H6 v st6 g6 ev6 r6=>?_
        cases (show b=v from r6)
        have nD:D0 ∉ ρ2:=(st2.z D0 (.inr rfl)).1
        obtain ⟨nD6,d6⟩:=g6.keep D0 _ nD (k _ _ d2)
        have k6:∀ a o,a ∉ ρ1→H1 a=some o→a ∉ ρ6∧H6 a=some o:=fun a o h1 h2=>by
          obtain ⟨h3,h4⟩:=k2 a o h1 h2
          exact g6.keep a o h3 (k _ _ h4)
        have f6:∀ a ob u,H1 a=some (.frz ob u)→H6 a=some (.frz ob u):=fun a ob u q=>g6.fz a ob u (k _ _ (f2 a ob u q))
        have m36:=g6.mv st3
        have ev6':EvOk X.K (Wn Z' ρ6) ρ6 H6 (Z05 e vs) (wipe σ vs):=ev3.mv m36 g6.pre
        have a6:KVT X.K (Wn Z' ρ6) ρ6 H6 acc ks:=KVT.mv m36 g6.pre (KVT.mv m23 (List.prefix_refl _) a2)
        cases b with
        | false =>
          rw [if_neg Bool.false_ne_true]
          exact ⟨ρ6,S6,acc,ks,st6,pr2.trans g6.pre,k6,f6,d6,a6,ev6',q2⟩
        | true =>
          rw [if_pos rfl]
          have q2:Z91 X.K Z ρ1 H1 Wx σ Q (((mk e4 S6).ne.bind fun y S2=>(mv e4 S2).ne.bind fun z S3=>(match dcT acc y z with
            | some acc2=>Y9b t l mt mk mv (Z05 e vs) acc2 (ys.drop (i + 1)) S3
            | none => .bad)).bind fin):=q2
          cases q7:(mk e4 S6).ne with
          | err _ _ _=>cases q6:mk e4 S6 <;> rw [q6] at q7 <;> cases q7
          | bad=>rw [q7] at q2; exact q2.elim
          | ok y7 S7 =>
            rw [q7] at q2
            refine Y4w (rel:=AX X.K) st6 ev6 q7 fun ρ7 H7 v7 st7 g7 ev7 r7=>?_
            have q2:Z91 X.K Z ρ1 H1 Wx σ Q (((mv e4 S7).ne.bind fun z S3=>(match dcT acc y7 z with
              | some acc2=>Y9b t l mt mk mv (Z05 e vs) acc2 (ys.drop (i + 1)) S3
              | none => .bad)).bind fin):=q2
            cases q8:(mv e4 S7).ne with
            | err _ _ _=>cases q6:mv e4 S7 <;> rw [q6] at q8 <;> cases q8
            | bad=>rw [q8] at q2; exact q2.elim
            | ok z8 S8 =>
              rw [q8] at q2
              refine Y4w (rel:=AX X.K) st7 ev7 q8 fun ρ8 H8 v8 st8 g8 ev8 r8=>?_
              have q2:Z91 X.K Z ρ1 H1 Wx σ Q ((match dcT acc y7 z8 with
                | some acc2=>Y9b t l mt mk mv (Z05 e vs) acc2 (ys.drop (i + 1)) S8
                | none => .bad).bind fin):=q2
              cases q9:dcT acc y7 z8 with
              | none=>rw [q9] at q2; exact q2.elim
              | some acc2 =>
                rw [q9] at q2
                have r7':=r7.mv (g8.mv st7) g8.pre
                match y7,r7',q9 with
                | .r _,_,q9=>cases q9
                | .d kk, .d ak,q9 =>
                  have q9:(if decide (acc.length < sizeLine) then (kk.tkey?).map fun q=>Y6c acc kk q z8 else none)=some acc2:=q9
                  obtain ⟨c3,q9⟩:=Z6s q9
                  obtain ⟨qk,hqk,e9⟩:=Option.map_eq_some_iff.mp q9
                  subst e9
                  obtain ⟨b9,hv7,tk9⟩:=Y5p hqk ak
                  subst hv7
                  obtain ⟨nD7,d7⟩:=g7.keep D0 _ nD6 d6
                  obtain ⟨nD8,d8⟩:=g8.keep D0 _ nD7 d7
                  have m68:=fun a o h1 h2=>let ⟨h3,h4⟩:=(g7.mv st6) a o h1 h2; (g8.mv st7) a o h3 h4
                  have a8:KVT X.K (Wn Z' ρ8) ρ8 H8 acc ks:=KVT.mv (g8.mv st7) g8.pre (KVT.mv (g7.mv st6) g7.pre a6)
                  have k8:∀ a o,a ∉ ρ1→H1 a=some o→a ∉ ρ8∧H8 a=some o:=fun a o h1 h2=>by
                    obtain ⟨h3,h4⟩:=k6 a o h1 h2
                    obtain ⟨h5,h6⟩:=g7.keep a o h3 h4
                    exact g8.keep a o h5 h6
                  have wD:Wn Z' ρ8 D0 := .inl (.inr rfl)
                  have m9:Mv (Wn Z' ρ8) H8 (Wn Z' ρ8) (upd H8 D0 (TDo D0 (Y2r ks qk b9 v8))):=fun a o hn hq=>⟨hn,by rw [upd_ne (fun z=>hn (by rw [z]; exact wD))]; exact hq⟩
                  have neD:∀ b,b ∈ ρ8→b ≠ D0:=fun b hb z=>nD8 (by rw [← z]; exact hb)
                  have kv9:KVT X.K (Wn Z' ρ8) ρ8 (upd H8 D0 (TDo D0 (Y2r ks qk b9 v8))) (Y6c acc kk qk z8) (Y2r ks qk b9 v8):=KVT.mv m9 (List.prefix_refl _) (KVT.put a8 hqk ak r8)
                  refine ⟨ks,b9,qk,rfl,d8,KVT.keys a8,tk9,by rw [← Paired.length a8]; exact of_decide_eq_true c3,ρ8,S8,Y6c acc kk qk z8,Y2r ks qk b9 v8,⟨st8.nd,fun a z=>⟨(st8.z a z).1,?_⟩,st8.len,fun n o a e1 e2=>AO.mv m9 (List.prefix_refl _) (fun u q=>by rw [upd_ne (neD a (List.mem_of_getElem? e2))]; exact q) (st8.ob n o a e1 e2)⟩,((pr2.trans g6.pre).trans g7.pre).trans g8.pre,fun a o h1 h2=>?_,fun a ob u q=>by rw [upd_ne (fun z=>by rw [z,hD] at q; cases q)]; exact g8.fz a ob u (g7.fz a ob u (f6 a ob u q)),upd_same,kv9,((ev6'.mv (g7.mv st6) g7.pre).mv (g8.mv st7) g8.pre).mv m9 (List.prefix_refl _),q2⟩
                  · by_cases hz:a=D0
                    · exact ⟨_,by rw [hz]; exact upd_same⟩
                    · obtain ⟨o,q⟩:=(st8.z a z).2
                      exact ⟨o,by rw [upd_ne hz]; exact q⟩
                  · obtain ⟨h3,h4⟩:=k8 a o h1 h2
                    exact ⟨h3,by rw [upd_ne (fun z=>by rw [z,hD] at h2; cases h2)]; exact h4⟩
  · rintro H2 ⟨ρ2,S2,acc,ks,st2,pr2,k2,f2,d2,a2,ev2,q2⟩
    have hk:=okOf q2
    rw [List.drop_length] at q2
    simp only [Y9b,hk,if_true] at q2
    have q2:Z91 X.K Z ρ1 H1 Wx σ Q (.ok (.r S2.length) (S2++[.tdc acc])):=q2
    have nD:D0 ∉ ρ2:=(st2.z D0 (.inr rfl)).1
    have nZ:∀ c,Z c→c ≠ D0:=fun c hc z=>by
      obtain ⟨_,o,h2⟩:=st1.z c hc
      rw [z,hD] at h2; cases h2
    have m:Mv (Wn Z' ρ2) H2 (Wn Z (ρ2++[D0])) H2:=fun c o hn hq=>⟨fun y=>y.elim (fun y=>hn (.inl (.inl y))) fun y=>by
      rcases List.mem_append.mp y with y | y
      · exact hn (.inr y)
      · exact hn (.inl (.inr (by simpa using y))),hq⟩
    have sN:Sta X.K Z (ρ2++[D0]) (S2++[.tdc acc]) H2:=by
      refine ⟨?_,fun c hc=>⟨fun z=>?_,(st2.z c (.inl hc)).2⟩,by rw [List.length_append,List.length_append,st2.len]; rfl,fun n o c e1 e2=>?_⟩
      · rw [List.nodup_append]
        exact ⟨st2.nd,by simp,fun x hx y hy z=>by
          have:y=D0:=by simpa using hy
          subst this; subst z; exact nD hx⟩
      · rcases List.mem_append.mp z with z | z
        · exact (st2.z c (.inl hc)).1 z
        · exact nZ c hc (by simpa using z)
      · by_cases hn:n < ρ2.length
        · rw [List.getElem?_append_left hn] at e2
          rw [List.getElem?_append_left (by rw [st2.len]; exact hn)] at e1
          exact AO.mv m (List.prefix_append _ _) (fun u z=>z) (st2.ob n o c e1 e2)
        · rw [List.getElem?_append_right (by omega)] at e2
          rw [List.getElem?_append_right (by rw [st2.len]; omega)] at e1
          have hz:n - ρ2.length=0:=by
            have:=(List.getElem?_eq_some_iff.mp e2).1
            simp at this; omega
          rw [hz] at e2
          rw [st2.len,hz] at e1
          cases e1; cases e2
          exact ⟨_,d2,KVT.mv m (List.prefix_append _ _) a2⟩
    have gN:Go ρ1 H1 (ρ2++[D0]) H2:=by
      refine ⟨pr2.trans (List.prefix_append _ _),fun c o hc z=>?_,f2⟩
      obtain ⟨h3,h4⟩:=k2 c o hc z
      have h5:c ∉ ρ2++[D0]:=fun y=>by
        rcases List.mem_append.mp y with y | y
        · exact h3 y
        · have:c=D0:=by simpa using y
          rw [this,hD] at z
          cases z
      exact ⟨h5,h4⟩
    exact q2 _ _ _ sN gN (.r (by rw [st2.len]; simp))
theorem X7x {i:Nat} {y:Str} {py spos:Pos} {scope:Scope} {own:List (Str × Nat)} (hw:X.w=HasW.w) (hu:X.A.units + 1 < cLine) (hc:X.calm=true) (hN:X.N.Nodup) (hy:X.N[i]?=some y) (hyl:X.env.scope.names.lookup y=some .local)
    (hsw:swapsWith (.DictComp kx vx [⟨tg,iter,ifs,0⟩] scope pos) (some (.Name y py)) spos.line X.env=pure true) (hi:MI X Wx tg iter mi) (ok:BlkOk X.N X.env.scope scope own) (hsl:∀ i ∈ t.slots,i ∈ own.map (·.2))
    (hg:∀ (s:Shared) (H:Hp) (C:Addr) (cl:List (Str × Addr)) (fp:List Addr),PG (X.blk s H scope (compEnvC scope cl C X.env) fp) tg (TGt X.K t)) (ht:∀ (s:Shared) (H:Hp) (C:Addr) (cl:List (Str × Addr)) (fp:List Addr),MTs (X.blk s H scope (compEnvC scope cl C X.env) fp) WX0 ifs mt)
    (hk:∀ (s:Shared) (H:Hp) (C:Addr) (cl:List (Str × Addr)) (fp:List Addr),ME (X.blk s H scope (compEnvC scope cl C X.env) fp) WX0 kx mk) (he:∀ (s:Shared) (H:Hp) (C:Addr) (cl:List (Str × Addr)) (fp:List Addr),ME (X.blk s H scope (compEnvC scope cl C X.env) fp) WX0 vx mv)
    (hs:∀ x,foldedSetIterable iter X.env x=pure x:=by intro _; rfl):MP X Wx (.Assign [.Name y py] (.DictComp kx vx [⟨tg,iter,ifs,0⟩] scope pos) spos) (V6 i (X7k t mi mt mk mv (own.map (·.2)))):=PS.of (X8e (V2z hw hu) hc hN hy hyl hsw hi ok hg ht hk he hs) fun D σ H ⟨Z,ρ,e,S,st,ev,p⟩=>by
  refine W39 (mt:=mt) (mk:=mk) (mv:=mv) (t:=t) (Q:=fun v H1=>gName i v σ H1 D.nx) hsl ?_
  exact Z15 (rel:=AX X.K) st ev p fun ρ1 H1 v x S1 st1 g1 ev1 a1 p1=>p1.next st1 (ev1.set a1)
end
end Bv
namespace Bv
open PySem PySem.Spec L2
open PyProof.Rows hiding St
variable [HasW]
abbrev PT (K:PySem.W.Frag) (W:Wd) (H:Hp):List (D × List Leaf × D)→List TX→Prop:=Paired fun p q=>p.1.tkey?=some p.2.1∧p.2.1=q.1∧AV K W H p.1 (.ref q.2.1)∧AV K W H p.2.2 q.2.2
end Bv
namespace Lw
open PySem PySem.Spec L2 Bv
open PyProof.Rows hiding St
structure Facts (K:PySem.W.Frag) (mg:Str→Option Value):Prop where
  f_int:mg "int" = none
  f_abs:mg "abs" = none
  g__law_source:mg "_law_source" = some (.ref (He.ga K "_law_source"))
  f_list:mg "list" = none
  f_len:mg "len" = none
  f_range:mg "range" = none
  g__law_draw:mg "_law_draw" = some (.ref (He.ga K "_law_draw"))
  g__law_shuffled:mg "_law_shuffled" = some (.ref (He.ga K "_law_shuffled"))
  v_HEADS:Z9z "HEADS" ["marks", "shown", "asked"] K=true
  g_HEADS:mg "HEADS" = some (.ref (He.ga K "HEADS"))
  f_enumerate:mg "enumerate" = none
  f_isinstance:mg "isinstance" = none
  is_str:IsT K (.type "str") (Z7f "str") [("Row",false),("Tool",false)]
  f_str:mg "str" = none
  v_BARRED:Z9z "BARRED" ["any", "same", "take", "keep", "to"] K=true
  g_BARRED:mg "BARRED" = some (.ref (He.ga K "BARRED"))
  i_MOST_LETTERS:∃ t,mg "MOST_LETTERS" = some (.int 5 t)
  s_LETTERS:∃ t,mg "LETTERS" = some (.str "abcdefghijklmnopqrstuvwxyz" t)
  f_all:mg "all" = none
  g_is_name:mg "is_name" = some (.ref (He.ga K "is_name"))
  g_names_in:mg "names_in" = some (.ref (He.ga K "names_in"))
  v_TAKINGS:Z9z "TAKINGS" ["keep", "take"] K=true
  g_TAKINGS:mg "TAKINGS" = some (.ref (He.ga K "TAKINGS"))
  v_HAPPENINGS:Z9z "HAPPENINGS" ["give", "carry", "drop", "back", "right", "wrong"] K=true
  g_HAPPENINGS:mg "HAPPENINGS" = some (.ref (He.ga K "HAPPENINGS"))
  g_is_word:mg "is_word" = some (.ref (He.ga K "is_word"))
  is_bool:IsT K (.type "bool") (Z7f "bool") [("Row",false),("Tool",false)]
  f_bool:mg "bool" = none
  at_Row_word:Z3y K ["Row"] "word"
  at_Row_old:Z3y K ["Row"] "old"
  at_Row_then:Z3y K ["Row"] "then"
  at_Row_take:Z3y K ["Row"] "take"
  M_Row:Mk K (He.ga K "Row") (He.ma K (He.ga K "Row") "__init__")
  g_Row:mg "Row" = some (.ref (He.ga K "Row"))
  cm_Row_read:ClsM K "Row" "read"
  iss_list_tuple:IsTs K [.type "list", .type "tuple"] (X4d ["list", "tuple"]) [("Row",false),("Tool",false)]
  f_tuple:mg "tuple" = none
  g_is_sequence:mg "is_sequence" = some (.ref (He.ga K "is_sequence"))
  f_set:mg "set" = none
  g_are_unlike:mg "are_unlike" = some (.ref (He.ga K "are_unlike"))
  g_are_names:mg "are_names" = some (.ref (He.ga K "are_names"))
  is_Row:IsT K (.ref (He.ga K "Row")) Y2z [("Row",true),("Tool",false)]
  f_any:mg "any" = none
  at_Tool_marks:Z3y K ["Tool"] "marks"
  at_Tool_shown:Z3y K ["Tool"] "shown"
  at_Tool_asked:Z3y K ["Tool"] "asked"
  at_Tool_rows:Z3y K ["Tool"] "rows"
  at_Tool_blank:Z3y K ["Tool"] "blank"
  M_Tool:Mk K (He.ga K "Tool") (He.ma K (He.ga K "Tool") "__init__")
  g_Tool:mg "Tool" = some (.ref (He.ga K "Tool"))
  cm_Tool_read:ClsM K "Tool" "read"
  g__law_plain:mg "_law_plain" = some (.ref (He.ga K "_law_plain"))
  g__law_thirteen:mg "_law_thirteen" = some (.ref (He.ga K "_law_thirteen"))
  at_Closure_maker:Z3y K ["Closure"] "maker"
  at_Closure_lets:Z3y K ["Closure"] "lets"
  s_NOBODY:∃ t,mg "NOBODY" = some (.str "none" t)
  g_begun:mg "begun" = some (.ref (He.ga K "begun"))
  at_Closure_order:Z3y K ["Closure"] "order"
  at_Closure_ahead:Z3y K ["Closure"] "ahead"
  at_Closure_rows_done:Z3y K ["Closure"] "rows_done"
  at_Closure_resting:Z3y K ["Closure"] "resting"
  at_Step_row:Z3y K ["Step"] "row"
  at_Step_later:Z3y K ["Step"] "later"
  c_Closure:Cls K (He.ga K "Closure")
  m_Closure_note:Meth K (He.ga K "Closure") "note" (He.ma K (He.ga K "Closure") "note")
  c_Row:Cls K (He.ga K "Row")
  m_Row_fits:Meth K (He.ga K "Row") "fits" (He.ma K (He.ga K "Row") "fits")
  c_Tool:Cls K (He.ga K "Tool")
  m_Tool_row_for:Meth K (He.ga K "Tool") "row_for" (He.ma K (He.ga K "Tool") "row_for")
  m_Tool_becomes:Meth K (He.ga K "Tool") "becomes" (He.ma K (He.ga K "Tool") "becomes")
  at_Step_how:Z3y K ["Step"] "how"
  at_Step_source:Z3y K ["Step"] "source"
  M_Step:Mk K (He.ga K "Step") (He.ma K (He.ga K "Step") "__init__")
  g_Step:mg "Step" = some (.ref (He.ga K "Step"))
  s_MINE:∃ t,mg "MINE" = some (.str "mine" t)
  g_given_step:mg "given_step" = some (.ref (He.ga K "given_step"))
  s_THEIRS:∃ t,mg "THEIRS" = some (.str "theirs" t)
  s_OTHER:∃ t,mg "OTHER" = some (.str "other" t)
  g_delivery_steps:mg "delivery_steps" = some (.ref (He.ga K "delivery_steps"))
  g_looked_step:mg "looked_step" = some (.ref (He.ga K "looked_step"))
  g_look_steps:mg "look_steps" = some (.ref (He.ga K "look_steps"))
  g_is_let:mg "is_let" = some (.ref (He.ga K "is_let"))
  g_is_of_others:mg "is_of_others" = some (.ref (He.ga K "is_of_others"))
  g_whose_then:mg "whose_then" = some (.ref (He.ga K "whose_then"))
  g_movers:mg "movers" = some (.ref (He.ga K "movers"))
  g_carry_steps:mg "carry_steps" = some (.ref (He.ga K "carry_steps"))
  g_editions_to:mg "editions_to" = some (.ref (He.ga K "editions_to"))
  g_edition_steps:mg "edition_steps" = some (.ref (He.ga K "edition_steps"))
  g_all_steps:mg "all_steps" = some (.ref (He.ga K "all_steps"))
  m_Closure_go_from:Meth K (He.ga K "Closure") "go_from" (He.ma K (He.ga K "Closure") "go_from")
  v_LETS:Z9z "LETS" ["alike", "back", "late", "near"] K=true
  g_LETS:mg "LETS" = some (.ref (He.ga K "LETS"))
  g_need_lets:mg "need_lets" = some (.ref (He.ga K "need_lets"))
  M_Closure:Mk K (He.ga K "Closure") (He.ma K (He.ga K "Closure") "__init__")
  g_Closure:mg "Closure" = some (.ref (He.ga K "Closure"))
  f_sorted:mg "sorted" = none
  g_standings:mg "standings" = some (.ref (He.ga K "standings"))
  v_FAULTS:Z9z "FAULTS" ["again", "fallen", "lost", "strange", "stuck", "vain"] K=true
  g_FAULTS:mg "FAULTS" = some (.ref (He.ga K "FAULTS"))
  g_need_fault:mg "need_fault" = some (.ref (He.ga K "need_fault"))
  is_tuple:IsT K (.type "tuple") (Z7f "tuple") [("Row",false),("Tool",false)]
  i_PARTS:∃ t,mg "PARTS" = some (.int 6 t)
  v_WHOSE:Z9z "WHOSE" ["none", "mine", "theirs", "other"] K=true
  g_WHOSE:mg "WHOSE" = some (.ref (He.ga K "WHOSE"))
  g_is_standing:mg "is_standing" = some (.ref (He.ga K "is_standing"))
  g_is_closed:mg "is_closed" = some (.ref (He.ga K "is_closed"))
  g_shows_own:mg "shows_own" = some (.ref (He.ga K "shows_own"))
  g_is_stuck:mg "is_stuck" = some (.ref (He.ga K "is_stuck"))
  g_shows_fault:mg "shows_fault" = some (.ref (He.ga K "shows_fault"))
  g_steps_to_fault:mg "steps_to_fault" = some (.ref (He.ga K "steps_to_fault"))
  g_is_lost_from:mg "is_lost_from" = some (.ref (He.ga K "is_lost_from"))
  g_is_met:mg "is_met" = some (.ref (He.ga K "is_met"))
  g_paper_holds:mg "paper_holds" = some (.ref (He.ga K "paper_holds"))
  g_paper:mg "paper" = some (.ref (He.ga K "paper"))
  g_law:mg "law" = some (.ref (He.ga K "law"))
section
variable [HasW] {P:Program} {K:PySem.W.Frag} {mg:Str→Option Value} {base:Heap} {f:Addr} {fd:FuncData} {dl:List V} (Fx:Facts K mg)
def Z4q:List Str:=["_law_script", "_law_base", "_law_cells", "_law_stirred", "_law_cell"]
theorem Z1t:Z4q.Nodup:=by decide +kernel
theorem Y6d:FnScope Z4q ["_law_script", "_law_base"] (defScope Z0x):=⟨rfl,rfl,rfl,Z1t,rfl,by decide +kernel,by decide +kernel⟩
def Z55:MS:=Y2 (V6 2 (Z4p (.nm 4) (Q9 (V8 (Z3 0) (Q4 (Z3 1)) (Q4 (m_c (.int 62))))) (Z0n) (Y0 (Z31 Y0i) (Z0 (Y0 Z7h (Z0 (Z3 4) (Z7))) (Z7))) [4])) (Y2 (V6 3 (Y5 Z8j (m_c (.int 71283599)) (Y5 X7z (m_c (.int 59)) (Z3 1)))) (Y2 (Z2o (.nm 4) (Q9 (Z3 2)) (V6 3 (Y5 X11 (Y0 Z7h (Z0 (Y5 Z8j (Y5 Z8j (Y5 X7z (Z3 3) (m_c (.int 30323))) (Y5 X11 (Y0 Z7h (Z0 (Z3 4) (Z7))) (m_c (.int 2147483477)))) (m_c (.int 23))) (Z7))) (m_c (.int 2147483647))))) (Z2h (Y77 "great" "stirred" (Y9q (Z4p (.nm 4) (Q9 (Z3 2)) (Z0d (Y5 geD (Z3 4) (Y5 W64 (m_c (.int 10)) (m_c (.int 18))))) (Z3 4) [4])) (Z3 3)))))
def g__law_source:List X→Sto→R X:=W94 5 Z55
include Fx in
theorem Y54  (F:FunD K "_law_source" "_law_source" (defArgs Z0x) (defBody Z0x) (defScope Z0x) dl [] f fd):FnG P HasW.w K mg base 1 f fd ["_law_script", "_law_base"] (spE K 2 g__law_source):=fnR F Y6d fun cdv A outer s H E gu room=>by
  have h:Here (cxB P HasW.w K mg base Z4q "_law_source" (defScope Z0x) f cdv A outer s H E) (wxE E) 0:=U8 gu room
  unfold Z55
  exact Z9 (W01 (i:=2) (own:=[("_law_cell",4)]) (t:=(.nm 4)) rfl Z1t rfl rfl rfl (Z1c (Z16 (Z4 0) (Z3c (Z4 1)) (Z3c (V1)))) (blkOk_by (N:=Z4q) (sc:=defScope Z0x) (by decide +kernel)) (by decide) (fun _ _ _ _ _=>W0 (i:=4) Z1t rfl (by first | exact Or.inl rfl | exact Or.inr rfl)) (fun _ _ _ _ _=>Z33) (fun _ _ _ _ _=>Z2i call_abs W99 rfl Fx.f_abs (Z1 (Z5o call_int1 X4n rfl Fx.f_int (Z1 (Z4 4) (Z8))) (Z8)))) (Z9 (Q6 (i:=3) Z1t rfl (by first | exact Or.inl rfl | exact Or.inr rfl) (Z88 h.add (V1) (Z88 h.mul (V1) (Z4 1)))) (Z9 (Z46 Z38 rfl (Z1c (Z4 2)) (W0 (i:=4) Z1t rfl (by first | exact Or.inl rfl | exact Or.inr rfl)) (Y3 (Q6 (i:=3) Z1t rfl (by first | exact Or.inl rfl | exact Or.inr rfl) (Z88 h.mod (Z5o call_int1 X4n rfl Fx.f_int (Z1 (Z88 h.add (Z88 h.add (Z88 h.mul (Z4 3) (V1)) (Z88 h.mod (Z5o call_int1 X4n rfl Fx.f_int (Z1 (Z4 4) (Z8))) (V1))) (V1)) (Z8))) (V1))))) (Y3 (Y61 (W0w Y8 Y8 (W5f (Z7o (own:=[("_law_cell",4)]) (t:=(.nm 4)) rfl Z1t (Z1c (Z4 2)) (blkOk_by (N:=Z4q) (sc:=defScope Z0x) (by decide +kernel)) (by decide) (fun _ _ _ _ _=>W0 (i:=4) Z1t rfl (by first | exact Or.inl rfl | exact Or.inr rfl)) (fun _ _ _ _ _=>Y2m (Z0c (h.blk _ _ _ _ _).ge (Z4 4) (Z88 (h.blk _ _ _ _ _).pow (V1) (V1)))) (fun _ _ _ _ _=>Z4 4))) (Z4 3))))))
def Y0d:List Str:=["_law_deal", "_law_wide", "_law_great", "_law_cell"]
theorem Z9g:Y0d.Nodup:=by decide +kernel
theorem X0r:FnScope Y0d ["_law_deal", "_law_wide"] (defScope Z2v):=⟨rfl,rfl,rfl,Z9g,rfl,by decide +kernel,by decide +kernel⟩
def Z70:MS:=Y2 (V6 2 (Y1l (Z3 0) (m_c (.str "great")))) (Y2 (Z7e (Q3 (Z0d (Y5 neD (Z3 2) (Q7 (Z7)))) (Z0d (Y5 eqD (Z1m (Z3 2) (W5a (m_c (.int 1)))) (m_c (.int 0))))) (U1 (Z3b Q5 Z8n (Z3 2) Z7))) (Y2 (Z0k (Z0d (Y5 neD (Z3 2) (Q7 (Z7)))) (Y2 (V6 3 (Z3b Q5 Z8n (Z3 2) Z7)) (Y2 (U1 (Z3b Q5 Q0 (Z3 2) (Z0 (Y5 X1r (Z3 3) (Z3 1)) (Z7)))) (Z2h (Y5 X11 (Y0 Z7h (Z0 (Z3 3) (Z7))) (Z3 1))))) (W7)) (Y2 (Y3e (Z3 0) (m_c (.str "stirred")) (Y5 X11 (Y0 Z7h (Z0 (Y5 Z8j (Y5 X7z (Y1l (Z3 0) (m_c (.str "stirred"))) (m_c (.int 30323))) (m_c (.int 47))) (Z7))) (m_c (.int 2147483647)))) (Z2h (Y5 X11 (Y0 Z7h (Z0 (Y5 X1r (Y1l (Z3 0) (m_c (.str "stirred"))) (m_c (.int 64))) (Z7))) (Z3 1))))))
def g__law_draw:List X→Sto→R X:=X2f 4 Z70
include Fx in
theorem X0b  (F:FunD K "_law_draw" "_law_draw" (defArgs Z2v) (defBody Z2v) (defScope Z2v) dl [] f fd):FnG P HasW.w K mg base 1 f fd ["_law_deal", "_law_wide"] (spE K 2 g__law_draw):=fnE F X0r fun cdv A outer s H E gu room=>by
  have h:Here (cxB P HasW.w K mg base Y0d "_law_draw" (defScope Z2v) f cdv A outer s H E) (wxE E) 0:=U8 gu room
  unfold Z70
  exact Z9 (Q6 (i:=2) Z9g rfl (by first | exact Or.inl rfl | exact Or.inr rfl) (X1y h.u1 (Z4 0) (Y8))) (Z9 (Y8d Z38 (Z6p (Z3z (Z0c h.ne (Z4 2) (Z0o (Z8))) (Z26 (Z0c h.eq (Z13 (Z4 2) (W8f (V1))) (V1))))) (Y3 (Z1k (X7p PySem.F.slot_list_pop PySem.F.type_list_pop mt_pop X58 (Z4 2))))) (Z9 (Z0b (Z0c h.ne (Z4 2) (Z0o (Z8))) (Z9 (Q6 (i:=3) Z9g rfl (by first | exact Or.inl rfl | exact Or.inr rfl) (X7p PySem.F.slot_list_pop PySem.F.type_list_pop mt_pop X58 (Z4 2))) (Z9 (Z1k (Z7p PySem.F.slot_list_append PySem.F.type_list_append mt_append Z2k (Z4 2) (Z1 (Z88 h.fdiv (Z4 3) (Z4 1)) (Z8)))) (Y3 (Y61 (Z88 h.mod (Z5o call_int1 X4n rfl Fx.f_int (Z1 (Z4 3) (Z8))) (Z4 1)))))) (W5)) (Z9 (X7w h.u1 (Z4 0) (Y8) (Z88 h.mod (Z5o call_int1 X4n rfl Fx.f_int (Z1 (Z88 h.add (Z88 h.mul (X1y h.u1 (Z4 0) (Y8)) (V1)) (V1)) (Z8))) (V1))) (Y3 (Y61 (Z88 h.mod (Z5o call_int1 X4n rfl Fx.f_int (Z1 (Z88 h.fdiv (X1y h.u1 (Z4 0) (Y8)) (V1)) (Z8))) (Z4 1)))))))
def Z6a:List Str:=["_law_deal", "_law_some", "_law_others", "_law_found", "_law_turn"]
theorem Z5z:Z6a.Nodup:=by decide +kernel
theorem Y3n:FnScope Z6a ["_law_deal", "_law_some"] (defScope Z02):=⟨rfl,rfl,rfl,Z5z,rfl,by decide +kernel,by decide +kernel⟩
def Z4u:MS:=Y2 (Z2j 2 3 (Z0 (Y0 X7f (Z0 (Z3 1) (Z7))) (Z0 (Q8 (Z7)) (Z7)))) (Y2 (Z2o (.nm 4) (Y9l (Z0 (Y0 Z3i (Z0 (Z3 2) (Z7))) (Z7))) (U1 (Z3b Q5 Q0 (Z3 3) (Z0 (Z3b Q5 Y2b (Z3 2) (Z0 (Y0 (Y9 2 (X5 [] g__law_draw)) (Z0 (Z3 0) (Z0 (Y0 Z3i (Z0 (Z3 2) (Z7))) (Z7)))) (Z7))) (Z7))))) (Z2h (Z3 3)))
def g__law_shuffled:List X→Sto→R X:=X2f 5 Z4u
include Fx in
theorem Y3k (K__law_draw:Kept P HasW.w K mg base 1 (He.ga K "_law_draw") (spE K 2 g__law_draw)) (F:FunD K "_law_shuffled" "_law_shuffled" (defArgs Z02) (defBody Z02) (defScope Z02) dl [] f fd):FnG P HasW.w K mg base 2 f fd ["_law_deal", "_law_some"] (spE K 2 g__law_shuffled):=fnE F Y3n fun cdv A outer s H E gu room=>by
  have h:Here (cxB P HasW.w K mg base Z6a "_law_shuffled" (defScope Z02) f cdv A outer s H E) (wxE E) 1:=U8 gu room
  unfold Z4u
  exact Z9 (Y4u rfl Z5z (i:=2) (j:=3) rfl rfl (by decide) rfl rfl (Z1 (Z5o call_list_of W3z rfl Fx.f_list (Z1 (Z4 1) (Z8))) (Z1 (Z5d (Z8)) (Z8)))) (Z9 (Z46 Z38 rfl (W5h rfl Fx.f_range (Z1 (Z2i Y0r Y0n rfl Fx.f_len (Z1 (Z4 2) (Z8))) (Z8))) (W0 (i:=4) Z5z rfl (by first | exact Or.inl rfl | exact Or.inr rfl)) (Y3 (Z1k (Z7p PySem.F.slot_list_append PySem.F.type_list_append mt_append Z2k (Z4 3) (Z1 (Z7p PySem.F.slot_list_pop PySem.F.type_list_pop mt_popAt W30 (Z4 2) (Z1 (X7 (h.callE K__law_draw (by decide)) rfl Fx.g__law_draw K__law_draw.kp (Z1 (Z4 0) (Z1 (Z2i Y0r Y0n rfl Fx.f_len (Z1 (Z4 2) (Z8))) (Z8)))) (Z8))) (Z8)))))) (Y3 (Y61 (Z4 3))))
def Y02:List Str:=["value", "sign"]
theorem Y2n:Y02.Nodup:=by decide +kernel
theorem X5d:FnScope Y02 ["value"] (defScope Z3x):=⟨rfl,rfl,rfl,Y2n,rfl,by decide +kernel,by decide +kernel⟩
def Y85:MS:=Y2 (Z0k (Z0i (W8 (Y6 (Z57 (Z7f "str") [("Row",false),("Tool",false)] (Z3 0)))) (Z0i (Z0d (Y5 inD (Z3 0) (m_c (.tup ((["any", "same", "take", "keep", "to"]:List Str).map D.str))))) (W8 (Z0d (Z0r leD leD (m_c (.int 1)) (Y0 Z3i (Z0 (Z3 0) (Z7))) (m_c (.int 5))))))) (X6 (m_c (.bl false))) (W7)) (X6 (Y0 (Y3q fun l=>l.all id) (Z0 (Z4p (.nm 1) (Q9 (Z3 0)) (Z0n) (Y5 inD (Z3 1) (m_c (.str "abcdefghijklmnopqrstuvwxyz"))) [1]) (Z7))))
def g_is_name:List D→PR:=Z50 2 Y85
include Fx in
theorem X5a  (F:FunD K "is_name" "is_name" (defArgs Z3x) (defBody Z3x) (defScope Z3x) dl [] f fd):FnG P HasW.w K mg base 1 f fd ["value"] (spP K 1 g_is_name):=fnP F X5d fun cdv A outer s H E gu room=>by
  have h:Here (cxB P HasW.w K mg base Y02 "is_name" (defScope Z3x) f cdv A outer s H E) (wxE E) 0:=U8 gu room
  unfold Y85
  exact Z9 (Z0b (Z6p (Z36 (Z0q (X9 (Z98 rfl Fx.f_isinstance (Z4 0) (X78 rfl Fx.f_str) Fx.is_str (.ty _)))) (Z36 (Z0c h.in_ (Z4 0) (Y1d rfl Fx.g_BARRED Fx.v_BARRED)) (Z2n (Z0q (W6q h.le h.le (V1) (Z2i Y0r Y0n rfl Fx.f_len (Z1 (Z4 0) (Z8))) (W2g rfl Fx.i_MOST_LETTERS))))))) (Y3 (W3 (V0))) (W5)) (Y3 (W3 (Z2i (cr_all rfl) Y5z rfl Fx.f_all (Z1 (Z7o (own:=[("sign",1)]) (t:=(.nm 1)) rfl Y2n (Z1c (Z4 0)) (blkOk_by (N:=Y02) (sc:=defScope Z3x) (by decide +kernel)) (by decide) (fun _ _ _ _ _=>W0 (i:=1) Y2n rfl (by first | exact Or.inl rfl | exact Or.inr rfl)) (fun _ _ _ _ _=>Z33) (fun _ _ _ _ _=>Z2r (h.blk _ _ _ _ _).in_ (Z4 1) (Z3e rfl Fx.s_LETTERS))) (Z8)))))
def Z9o:List Str:=["line", "head", "words", "one"]
theorem Z8f:Z9o.Nodup:=by decide +kernel
theorem X2m:FnScope Z9o ["line", "head"] (defScope Z27):=⟨rfl,rfl,rfl,Z8f,rfl,by decide +kernel,by decide +kernel⟩
def Y17:MS:=Y2 (V6 2 (Z9y Z4j (Z3 0) (m_c (.str " ")))) (Y2 (Z0k (Z0i (Z0d (Y5 neD (Z1m (Z3 2) (m_c (.int 0))) (Z3 1))) (W8 (Y6 (Y0 (Y3q fun l=>l.all id) (Z0 (Z4p (.nm 3) (Q9 (V8 (Z3 2) (Q4 (m_c (.int 1))) (Z5n))) (Z0n) (Y0 (Y9 1 (X5 [] (callP g_is_name))) (Z0 (Z3 3) (Z7))) [3]) (Z7)))))) (X6 (m_c .non)) (W7)) (X6 (Z56 (Q3 (Z0d (Y5 eqD (Z3 1) (m_c (.str "marks")))) (Z0d (Y5 eqD (Y0 Z3i (Z0 (Z3 2) (Z7))) (m_c (.int 1))))) (m_c .non) (V8 (Z3 2) (Q4 (m_c (.int 1))) (Z5n)))))
def g_names_in:List D→PR:=Z50 4 Y17
include Fx in
theorem X2d (K_is_name:Kept P HasW.w K mg base 1 (He.ga K "is_name") (spP K 1 g_is_name)) (F:FunD K "names_in" "names_in" (defArgs Z27) (defBody Z27) (defScope Z27) dl [] f fd):FnG P HasW.w K mg base 2 f fd ["line", "head"] (spP K 2 g_names_in):=fnP F X2m fun cdv A outer s H E gu room=>by
  have h:Here (cxB P HasW.w K mg base Z9o "names_in" (defScope Z27) f cdv A outer s H E) (wxE E) 1:=U8 gu room
  unfold Y17
  exact Z9 (Q6 (i:=2) Z8f rfl (by first | exact Or.inl rfl | exact Or.inr rfl) (Y79 (Z4 0) (Y8))) (Z9 (Z0b (Z6p (Z36 (Z0c h.ne (Z13 (Z4 2) (V1)) (Z4 1)) (Z2n (Z0q (X9 (Z2i (cr_all rfl) Y5z rfl Fx.f_all (Z1 (Z7o (own:=[("one",3)]) (t:=(.nm 3)) rfl Z8f (Z1c (Z16 (Z4 2) (Z3c (V1)) (Z32))) (blkOk_by (N:=Z9o) (sc:=defScope Z27) (by decide +kernel)) (by decide) (fun _ _ _ _ _=>W0 (i:=3) Z8f rfl (by first | exact Or.inl rfl | exact Or.inr rfl)) (fun _ _ _ _ _=>Z33) (fun _ _ _ _ _=>X7 ((h.blk _ _ _ _ _).callP K_is_name (by decide)) rfl Fx.g_is_name K_is_name.kp (Z1 (Z4 3) (Z8)))) (Z8)))))))) (Y3 (W3 (Z35))) (W5)) (Y3 (W3 (Y3j (Z6p (Z3z (Z0c h.eq (Z4 1) (Y8)) (Z26 (Z0c h.eq (Z2i Y0r Y0n rfl Fx.f_len (Z1 (Z4 2) (Z8))) (V1))))) (Z35) (Z16 (Z4 2) (Z3c (V1)) (Z32))))))
def Y3x:List Str:=["value", "words"]
theorem X46:Y3x.Nodup:=by decide +kernel
theorem X5e:FnScope Y3x ["value", "words"] (defScope Z4n):=⟨rfl,rfl,rfl,X46,rfl,by decide +kernel,by decide +kernel⟩
def Y3y:MS:=X6 (Z1y (Z57 (Z7f "str") [("Row",false),("Tool",false)] (Z3 0)) (Y5 inD (Z3 0) (Z3 1)))
def g_is_word:List D→PR:=Z50 2 Y3y
include Fx in
theorem X5b  (F:FunD K "is_word" "is_word" (defArgs Z4n) (defBody Z4n) (defScope Z4n) dl [] f fd):FnG P HasW.w K mg base 1 f fd ["value", "words"] (spP K 2 g_is_word):=fnP F X5e fun cdv A outer s H E gu room=>by
  have h:Here (cxB P HasW.w K mg base Y3x "is_word" (defScope Z4n) f cdv A outer s H E) (wxE E) 0:=U8 gu room
  unfold Y3y
  exact Y3 (W3 (Z9d (Z98 rfl Fx.f_isinstance (Z4 0) (X78 rfl Fx.f_str) Fx.is_str (.ty _)) (Z3m (Z2r h.in_ (Z4 0) (Z4 1)))))
def Y10:List Str:=["self", "word", "old", "then", "take"]
theorem X15:Y10.Nodup:=by decide +kernel
theorem X2j:FnScope Y10 ["self", "word", "old", "then", "take"] (defScope Z3p):=⟨rfl,rfl,rfl,X15,rfl,by decide +kernel,by decide +kernel⟩
def Z9p:MS:=Y2 (Z0k (W8 (Y6 (Y0 (Y9 2 (X5 [] (callP g_is_word))) (Z0 (Z3 1) (Z0 (m_c (.tup ((["give", "carry", "drop", "back", "right", "wrong"]:List Str).map D.str))) (Z7)))))) (Z44) (W7)) (Y2 (Z0k (Q3 (Z0d (Y5 neD (Z3 2) (m_c (.str "any")))) (W8 (Y6 (Y0 (Y9 1 (X5 [] (callP g_is_name))) (Z0 (Z3 2) (Z7)))))) (Z44) (W7)) (Y2 (Z0k (Q3 (Z0d (Y5 neD (Z3 3) (m_c (.str "same")))) (W8 (Y6 (Y0 (Y9 1 (X5 [] (callP g_is_name))) (Z0 (Z3 3) (Z7)))))) (Z44) (W7)) (Y2 (Z0k (Z0i (W8 (Y6 (Z57 (Z7f "bool") [("Row",false),("Tool",false)] (Z3 4)))) (Q3 (Z0d (Y5 neD (Z3 1) (m_c (.str "give")))) (W8 (Y6 (Z3 4))))) (Z44) (W7)) (Y2 (Z0s ["Row"] "word" (Z3 0) (Z3 1)) (Y2 (Z0s ["Row"] "old" (Z3 0) (Z3 2)) (Y2 (Z0s ["Row"] "then" (Z3 0) (Z3 3)) (Z0s ["Row"] "take" (Z3 0) (Z3 4))))))))
def Z59:List X→Sto→R X:=X2f 5 Z9p
include Fx in
theorem X2a (K_is_word:Kept P HasW.w K mg base 1 (He.ga K "is_word") (spP K 2 g_is_word)) (K_is_name:Kept P HasW.w K mg base 1 (He.ga K "is_name") (spP K 1 g_is_name)) (F:FunD K "__init__" "Row.__init__" (defArgs Z3p) (defBody Z3p) (defScope Z3p) dl [] f fd):FnG P HasW.w K mg base 2 f fd ["self", "word", "old", "then", "take"] (spE K 5 Z59):=fnE F X2j fun cdv A outer s H E gu room=>by
  have h:Here (cxB P HasW.w K mg base Y10 "Row.__init__" (defScope Z3p) f cdv A outer s H E) (wxE E) 1:=U8 gu room
  unfold Z9p
  exact Z9 (Z0b (Z0q (X9 (X7 (h.callP K_is_word (by decide)) rfl Fx.g_is_word K_is_word.kp (Z1 (Z4 1) (Z1 (Y1d rfl Fx.g_HAPPENINGS Fx.v_HAPPENINGS) (Z8)))))) (Y3 (Z5p)) (W5)) (Z9 (Z0b (Z6p (Z3z (Z0c h.ne (Z4 2) (Y8)) (Z26 (Z0q (X9 (X7 (h.callP K_is_name (by decide)) rfl Fx.g_is_name K_is_name.kp (Z1 (Z4 2) (Z8)))))))) (Y3 (Z5p)) (W5)) (Z9 (Z0b (Z6p (Z3z (Z0c h.ne (Z4 3) (Y8)) (Z26 (Z0q (X9 (X7 (h.callP K_is_name (by decide)) rfl Fx.g_is_name K_is_name.kp (Z1 (Z4 3) (Z8)))))))) (Y3 (Z5p)) (W5)) (Z9 (Z0b (Z6p (Z36 (Z0q (X9 (Z98 rfl Fx.f_isinstance (Z4 4) (X78 rfl Fx.f_bool) Fx.is_bool (.ty _)))) (Z2n (Z6p (Z3z (Z0c h.ne (Z4 1) (Y8)) (Z26 (Z0q (X9 (Z4 4))))))))) (Y3 (Z5p)) (W5)) (Z9 (Z4y ["Row"] Fx.at_Row_word (Z4 0) (Z4 1)) (Z9 (Z4y ["Row"] Fx.at_Row_old (Z4 0) (Z4 2)) (Z9 (Z4y ["Row"] Fx.at_Row_then (Z4 0) (Z4 3)) (Y3 (Z4y ["Row"] Fx.at_Row_take (Z4 0) (Z4 4)))))))))
def Y11:List Str:=["cls", "text", "words", "take", "error"]
theorem Z6j:Y11.Nodup:=by decide +kernel
theorem X2k:FnScope Y11 ["cls", "text"] (defScope Z3q):=⟨rfl,rfl,rfl,Z6j,rfl,by decide +kernel,by decide +kernel⟩
def Y15:MS:=Y2 (V6 2 (Z9y Z4j (Z3 1) (m_c (.str " ")))) (Y2 (V6 3 (m_c (.bl true))) (Y2 (Z0k (Q3 (Z0d (Y5 eqD (Z1m (Z3 2) (m_c (.int 0))) (m_c (.str "give")))) (Q3 (Z0d (Y5 eqD (Y0 Z3i (Z0 (Z3 2) (Z7))) (m_c (.int 5)))) (Z0d (Y5 inD (Z1m (Z3 2) (m_c (.int 2))) (m_c (.tup ((["keep", "take"]:List Str).map D.str))))))) (Y2 (V6 3 (Y5 eqD (Z1m (Z3 2) (m_c (.int 2))) (m_c (.str "take")))) (V6 2 (Q7 (Z0a (V8 (Z3 2) (Z5n) (Q4 (m_c (.int 2)))) (Z0a (V8 (Z3 2) (Q4 (m_c (.int 3))) (Z5n)) (Z7)))))) (Z0k (Z0d (Y5 eqD (Z1m (Z3 2) (m_c (.int 0))) (m_c (.str "give")))) (Z44) (W7))) (Y2 (Z0k (Z0i (Z0d (Y5 neD (Y0 Z3i (Z0 (Z3 2) (Z7))) (m_c (.int 4)))) (Z0d (Y5 neD (Z1m (Z3 2) (m_c (.int 2))) (m_c (.str "to"))))) (Z44) (W7)) (X9j (X6 (Z9b 0 "Row" (Y9 4 (X5 [] (made "Row" mkF Z59))) (Z0 (Z1m (Z3 2) (m_c (.int 0))) (Z0 (Z1m (Z3 2) (m_c (.int 1))) (Z0 (Z1m (Z3 2) (m_c (.int 3))) (Z0 (Z3 3) (Z7)))))))))))
def Z4l:List D→PR:=Z50 5 Y15
include Fx in
theorem X2b (K_Row_init:Kept P HasW.w K mg base 2 (He.ma K (He.ga K "Row") "__init__") (spE K 5 Z59)) (F:FunD K "read" "Row.read" (defArgs Z3q) (defBody Z3q) (defScope Z3q) dl [] f fd):FnG P HasW.w K mg base 4 f fd ["cls", "text"] (spP K 2 Z4l):=fnP F X2k fun cdv A outer s H E gu room=>by
  have h:Here (cxB P HasW.w K mg base Y11 "Row.read" (defScope Z3q) f cdv A outer s H E) (wxE E) 3:=U8 gu room
  unfold Y15
  exact Z9 (Q6 (i:=2) Z6j rfl (by first | exact Or.inl rfl | exact Or.inr rfl) (Y79 (Z4 1) (Y8))) (Z9 (Q6 (i:=3) Z6j rfl (by first | exact Or.inl rfl | exact Or.inr rfl) (V0)) (Z9 (Z0b (Z6p (Z3z (Z0c h.eq (Z13 (Z4 2) (V1)) (Y8)) (Z3z (Z0c h.eq (Z2i Y0r Y0n rfl Fx.f_len (Z1 (Z4 2) (Z8))) (V1)) (Z26 (Z0c h.in_ (Z13 (Z4 2) (V1)) (Y1d rfl Fx.g_TAKINGS Fx.v_TAKINGS)))))) (Z9 (Q6 (i:=3) Z6j rfl (by first | exact Or.inl rfl | exact Or.inr rfl) (Z2r h.eq (Z13 (Z4 2) (V1)) (Y8))) (Y3 (Q6 (i:=2) Z6j rfl (by first | exact Or.inl rfl | exact Or.inr rfl) (Z0o (Z5c (Z16 (Z4 2) (Z32) (Z3c (V1))) (Z5c (Z16 (Z4 2) (Z3c (V1)) (Z32)) (Z8))))))) (Y3 (Z0b (Z0c h.eq (Z13 (Z4 2) (V1)) (Y8)) (Y3 (Z5p)) (W5)))) (Z9 (Z0b (Z6p (Z36 (Z0c h.ne (Z2i Y0r Y0n rfl Fx.f_len (Z1 (Z4 2) (Z8))) (V1)) (Z2n (Z0c h.ne (Z13 (Z4 2) (V1)) (Y8))))) (Y3 (Z5p)) (W5)) (Y3 (W21 (Y3 (W3 (X3v 0 ((h.nox).make Y9s (n:=4) Fx.M_Row K_Row_init (by decide)) Fx.M_Row.kp (Z1 (Z13 (Z4 2) (V1)) (Z1 (Z13 (Z4 2) (V1)) (Z1 (Z13 (Z4 2) (V1)) (Z1 (Z4 3) (Z8)))))))))))))
def Z7v:List Str:=["value"]
theorem Y53:Z7v.Nodup:=by decide +kernel
theorem Y6g:FnScope Z7v ["value"] (defScope Z1u):=⟨rfl,rfl,rfl,Y53,rfl,by decide +kernel,by decide +kernel⟩
def Y04:MS:=X6 (Z57 (X4d ["list", "tuple"]) [("Row",false),("Tool",false)] (Z3 0))
def g_is_sequence:List D→PR:=Z50 1 Y04
include Fx in
theorem Y57  (F:FunD K "is_sequence" "is_sequence" (defArgs Z1u) (defBody Z1u) (defScope Z1u) dl [] f fd):FnG P HasW.w K mg base 1 f fd ["value"] (spP K 1 g_is_sequence):=fnP F Y6g fun cdv A outer s H E gu room=>by
  have h:Here (cxB P HasW.w K mg base Z7v "is_sequence" (defScope Z1u) f cdv A outer s H E) (wxE E) 0:=U8 gu room
  unfold Y04
  exact Y3 (W3 (W5e rfl Fx.f_isinstance (Z4 0) (X78 rfl Fx.f_list) (X78 rfl Fx.f_tuple) Fx.iss_list_tuple (.ty _) (.ty _)))
def Z8t:List Str:=["values"]
theorem Y8f:Z8t.Nodup:=by decide +kernel
theorem Y8u:FnScope Z8t ["values"] (defScope Z2b):=⟨rfl,rfl,rfl,Y8f,rfl,by decide +kernel,by decide +kernel⟩
def Z5m:MS:=X6 (Y5 eqD (Y1m (Z3 0)) (Y0 Z3i (Z0 (Z3 0) (Z7))))
def g_are_unlike:List D→PR:=Z50 1 Z5m
include Fx in
theorem Y8k  (F:FunD K "are_unlike" "are_unlike" (defArgs Z2b) (defBody Z2b) (defScope Z2b) dl [] f fd):FnG P HasW.w K mg base 1 f fd ["values"] (spP K 1 g_are_unlike):=fnP F Y8u fun cdv A outer s H E gu room=>by
  have h:Here (cxB P HasW.w K mg base Z8t "are_unlike" (defScope Z2b) f cdv A outer s H E) (wxE E) 0:=U8 gu room
  unfold Z5m
  exact Y3 (W3 (Z2r h.eq (X7o rfl rfl Fx.f_len rfl Fx.f_set (Z4 0)) (Z2i Y0r Y0n rfl Fx.f_len (Z1 (Z4 0) (Z8)))))
def Z7u:List Str:=["value", "one"]
theorem Z9h:Z7u.Nodup:=by decide +kernel
theorem X0t:FnScope Z7u ["value"] (defScope Z2a):=⟨rfl,rfl,rfl,Z9h,rfl,by decide +kernel,by decide +kernel⟩
def Y0l:MS:=Y2 (Z0k (Z0i (W8 (Y6 (Y0 (Y9 1 (X5 [] (callP g_is_sequence))) (Z0 (Z3 0) (Z7))))) (W8 (Y6 (Y0 (Y3q fun l=>l.all id) (Z0 (Z4p (.nm 1) (Q9 (Z3 0)) (Z0n) (Y0 (Y9 1 (X5 [] (callP g_is_name))) (Z0 (Z3 1) (Z7))) [1]) (Z7)))))) (X6 (m_c (.bl false))) (W7)) (X6 (Y0 (Y9 1 (X5 [] (callP g_are_unlike))) (Z0 (Z3 0) (Z7))))
def g_are_names:List D→PR:=Z50 2 Y0l
include Fx in
theorem X0d (K_is_sequence:Kept P HasW.w K mg base 1 (He.ga K "is_sequence") (spP K 1 g_is_sequence)) (K_is_name:Kept P HasW.w K mg base 1 (He.ga K "is_name") (spP K 1 g_is_name)) (K_are_unlike:Kept P HasW.w K mg base 1 (He.ga K "are_unlike") (spP K 1 g_are_unlike)) (F:FunD K "are_names" "are_names" (defArgs Z2a) (defBody Z2a) (defScope Z2a) dl [] f fd):FnG P HasW.w K mg base 2 f fd ["value"] (spP K 1 g_are_names):=fnP F X0t fun cdv A outer s H E gu room=>by
  have h:Here (cxB P HasW.w K mg base Z7u "are_names" (defScope Z2a) f cdv A outer s H E) (wxE E) 1:=U8 gu room
  unfold Y0l
  exact Z9 (Z0b (Z6p (Z36 (Z0q (X9 (X7 (h.callP K_is_sequence (by decide)) rfl Fx.g_is_sequence K_is_sequence.kp (Z1 (Z4 0) (Z8))))) (Z2n (Z0q (X9 (Z2i (cr_all rfl) Y5z rfl Fx.f_all (Z1 (Z7o (own:=[("one",1)]) (t:=(.nm 1)) rfl Z9h (Z1c (Z4 0)) (blkOk_by (N:=Z7u) (sc:=defScope Z2a) (by decide +kernel)) (by decide) (fun _ _ _ _ _=>W0 (i:=1) Z9h rfl (by first | exact Or.inl rfl | exact Or.inr rfl)) (fun _ _ _ _ _=>Z33) (fun _ _ _ _ _=>X7 ((h.blk _ _ _ _ _).callP K_is_name (by decide)) rfl Fx.g_is_name K_is_name.kp (Z1 (Z4 1) (Z8)))) (Z8)))))))) (Y3 (W3 (V0))) (W5)) (Y3 (W3 (X7 (h.callP K_are_unlike (by decide)) rfl Fx.g_are_unlike K_are_unlike.kp (Z1 (Z4 0) (Z8)))))
def Z2g:List Str:=["self", "marks", "shown", "asked", "rows", "row", "one"]
theorem Z0g:Z2g.Nodup:=by decide +kernel
theorem X0p:FnScope Z2g ["self", "marks", "shown", "asked", "rows"] (defScope Z0h):=⟨rfl,rfl,rfl,Z0g,rfl,by decide +kernel,by decide +kernel⟩
def Z7z:MS:=Y2 (Z0k (Z0i (W8 (Y6 (Y0 (Y9 1 (X5 [] (callP g_are_names))) (Z0 (Z3 1) (Z7))))) (Z0d (Y5 eqD (Y0 Z3i (Z0 (Z3 1) (Z7))) (m_c (.int 0))))) (Z44) (W7)) (Y2 (Z0k (Z0i (W8 (Y6 (Y0 (Y9 1 (X5 [] (callP g_are_names))) (Z0 (Z3 2) (Z7))))) (W8 (Y6 (Y0 (Y3q fun l=>l.all id) (Z0 (Z4p (.nm 6) (Q9 (Z3 2)) (Z0n) (Y5 inD (Z3 6) (V8 (Z3 1) (Q4 (m_c (.int 1))) (Z5n))) [6]) (Z7)))))) (Z44) (W7)) (Y2 (Z0k (Z0i (W8 (Y6 (Y0 (Y9 1 (X5 [] (callP g_are_names))) (Z0 (Z3 3) (Z7))))) (W8 (Y6 (Y0 (Y3q fun l=>l.all id) (Z0 (Z4p (.nm 6) (Q9 (Z3 3)) (Z0n) (Y5 inD (Z3 6) (Z3 1)) [6]) (Z7)))))) (Z44) (W7)) (Y2 (Z0k (Z0i (W8 (Y6 (Y0 (Y9 1 (X5 [] (callP g_is_sequence))) (Z0 (Z3 4) (Z7))))) (W8 (Y6 (Y0 (Y3q fun l=>l.all id) (Z0 (Z4p (.nm 5) (Q9 (Z3 4)) (Z0n) (Z57 Y2z [("Row",true),("Tool",false)] (Z3 5)) [5]) (Z7)))))) (Z44) (W7)) (Y2 (Z0k (W8 (Y6 (Y0 (Y3q fun l=>l.all id) (Z0 (Z4p (.nm 5) (Q9 (Z3 4)) (Z0n) (Z1y (Y5 inD (X4 ["Row"] "old" (Z3 5)) (V4 (Z0 (m_c (.str "any")) (Z0a (Z3 1) (Z7))))) (Y5 inD (X4 ["Row"] "then" (Z3 5)) (V4 (Z0 (m_c (.str "same")) (Z0a (Z3 1) (Z7)))))) [5]) (Z7))))) (Z44) (W7)) (Y2 (Z0k (Y6 (Y0 (Y3q fun l=>l.any id) (Z0 (Z4p (.nm 5) (Q9 (Z3 4)) (Z0n) (Z1y (Y5 neD (X4 ["Row"] "word" (Z3 5)) (m_c (.str "give"))) (Y5 eqD (X4 ["Row"] "old" (Z3 5)) (Z1m (Z3 1) (m_c (.int 0))))) [5]) (Z7)))) (Z44) (W7)) (Y2 (Z0s ["Tool"] "marks" (Z3 0) (Y0 Y5r (Z0 (Z3 1) (Z7)))) (Y2 (Z0s ["Tool"] "shown" (Z3 0) (Y0 Y5r (Z0 (Z4p (.nm 6) (Q9 (Z3 1)) (Z0d (Y5 inD (Z3 6) (Z3 2))) (Z3 6) [6]) (Z7)))) (Y2 (Z0s ["Tool"] "asked" (Z3 0) (Y0 Y5r (Z0 (Z4p (.nm 6) (Q9 (Z3 1)) (Z0d (Y5 inD (Z3 6) (Z3 3))) (Z3 6) [6]) (Z7)))) (Y2 (Z0s ["Tool"] "rows" (Z3 0) (Y0 Y5r (Z0 (Z3 4) (Z7)))) (Z0s ["Tool"] "blank" (Z3 0) (Z1m (Z3 1) (m_c (.int 0)))))))))))))
def Z4i:List X→Sto→R X:=X2f 7 Z7z
include Fx in
theorem Y99 (K_are_names:Kept P HasW.w K mg base 2 (He.ga K "are_names") (spP K 1 g_are_names)) (K_is_sequence:Kept P HasW.w K mg base 1 (He.ga K "is_sequence") (spP K 1 g_is_sequence)) (F:FunD K "__init__" "Tool.__init__" (defArgs Z0h) (defBody Z0h) (defScope Z0h) dl [] f fd):FnG P HasW.w K mg base 3 f fd ["self", "marks", "shown", "asked", "rows"] (spE K 5 Z4i):=fnE F X0p fun cdv A outer s H E gu room=>by
  have h:Here (cxB P HasW.w K mg base Z2g "Tool.__init__" (defScope Z0h) f cdv A outer s H E) (wxE E) 2:=U8 gu room
  unfold Z7z
  exact Z9 (Z0b (Z6p (Z36 (Z0q (X9 (X7 (h.callP K_are_names (by decide)) rfl Fx.g_are_names K_are_names.kp (Z1 (Z4 1) (Z8))))) (Z2n (Z0c h.eq (Z2i Y0r Y0n rfl Fx.f_len (Z1 (Z4 1) (Z8))) (V1))))) (Y3 (Z5p)) (W5)) (Z9 (Z0b (Z6p (Z36 (Z0q (X9 (X7 (h.callP K_are_names (by decide)) rfl Fx.g_are_names K_are_names.kp (Z1 (Z4 2) (Z8))))) (Z2n (Z0q (X9 (Z2i (cr_all rfl) Y5z rfl Fx.f_all (Z1 (Z7o (own:=[("one",6)]) (t:=(.nm 6)) rfl Z0g (Z1c (Z4 2)) (blkOk_by (N:=Z2g) (sc:=defScope Z0h) (by decide +kernel)) (by decide) (fun _ _ _ _ _=>W0 (i:=6) Z0g rfl (by first | exact Or.inl rfl | exact Or.inr rfl)) (fun _ _ _ _ _=>Z33) (fun _ _ _ _ _=>Z2r (h.blk _ _ _ _ _).in_ (Z4 6) (Z16 (Z4 1) (Z3c (V1)) (Z32)))) (Z8)))))))) (Y3 (Z5p)) (W5)) (Z9 (Z0b (Z6p (Z36 (Z0q (X9 (X7 (h.callP K_are_names (by decide)) rfl Fx.g_are_names K_are_names.kp (Z1 (Z4 3) (Z8))))) (Z2n (Z0q (X9 (Z2i (cr_all rfl) Y5z rfl Fx.f_all (Z1 (Z7o (own:=[("one",6)]) (t:=(.nm 6)) rfl Z0g (Z1c (Z4 3)) (blkOk_by (N:=Z2g) (sc:=defScope Z0h) (by decide +kernel)) (by decide) (fun _ _ _ _ _=>W0 (i:=6) Z0g rfl (by first | exact Or.inl rfl | exact Or.inr rfl)) (fun _ _ _ _ _=>Z33) (fun _ _ _ _ _=>Z2r (h.blk _ _ _ _ _).in_ (Z4 6) (Z4 1))) (Z8)))))))) (Y3 (Z5p)) (W5)) (Z9 (Z0b (Z6p (Z36 (Z0q (X9 (X7 (h.callP K_is_sequence (by decide)) rfl Fx.g_is_sequence K_is_sequence.kp (Z1 (Z4 4) (Z8))))) (Z2n (Z0q (X9 (Z2i (cr_all rfl) Y5z rfl Fx.f_all (Z1 (Z7o (own:=[("row",5)]) (t:=(.nm 5)) rfl Z0g (Z1c (Z4 4)) (blkOk_by (N:=Z2g) (sc:=defScope Z0h) (by decide +kernel)) (by decide) (fun _ _ _ _ _=>W0 (i:=5) Z0g rfl (by first | exact Or.inl rfl | exact Or.inr rfl)) (fun _ _ _ _ _=>Z33) (fun _ _ _ _ _=>Z98 rfl Fx.f_isinstance (Z4 5) (V1p rfl Fx.g_Row) Fx.is_Row (.own _))) (Z8)))))))) (Y3 (Z5p)) (W5)) (Z9 (Z0b (Z0q (X9 (Z2i (cr_all rfl) Y5z rfl Fx.f_all (Z1 (Z7o (own:=[("row",5)]) (t:=(.nm 5)) rfl Z0g (Z1c (Z4 4)) (blkOk_by (N:=Z2g) (sc:=defScope Z0h) (by decide +kernel)) (by decide) (fun _ _ _ _ _=>W0 (i:=5) Z0g rfl (by first | exact Or.inl rfl | exact Or.inr rfl)) (fun _ _ _ _ _=>Z33) (fun _ _ _ _ _=>Z9d (Z2r (h.blk _ _ _ _ _).in_ (V5 ["Row"] Fx.at_Row_old (Z4 5)) (Q1 (Z1 (Y8) (Z5c (Z4 1) (Z8))))) (Z3m (Z2r (h.blk _ _ _ _ _).in_ (V5 ["Row"] Fx.at_Row_then (Z4 5)) (Q1 (Z1 (Y8) (Z5c (Z4 1) (Z8)))))))) (Z8))))) (Y3 (Z5p)) (W5)) (Z9 (Z0b (X9 (Z2i (cr_any rfl) V0a rfl Fx.f_any (Z1 (Z7o (own:=[("row",5)]) (t:=(.nm 5)) rfl Z0g (Z1c (Z4 4)) (blkOk_by (N:=Z2g) (sc:=defScope Z0h) (by decide +kernel)) (by decide) (fun _ _ _ _ _=>W0 (i:=5) Z0g rfl (by first | exact Or.inl rfl | exact Or.inr rfl)) (fun _ _ _ _ _=>Z33) (fun _ _ _ _ _=>Z9d (Z2r (h.blk _ _ _ _ _).ne (V5 ["Row"] Fx.at_Row_word (Z4 5)) (Y8)) (Z3m (Z2r (h.blk _ _ _ _ _).eq (V5 ["Row"] Fx.at_Row_old (Z4 5)) (Z13 (Z4 1) (V1)))))) (Z8)))) (Y3 (Z5p)) (W5)) (Z9 (Z4y ["Tool"] Fx.at_Tool_marks (Z4 0) (Z5o call_tuple_of Y86 rfl Fx.f_tuple (Z1 (Z4 1) (Z8)))) (Z9 (Z4y ["Tool"] Fx.at_Tool_shown (Z4 0) (Z5o call_tuple_of Y86 rfl Fx.f_tuple (Z1 (Z7o (own:=[("one",6)]) (t:=(.nm 6)) rfl Z0g (Z1c (Z4 1)) (blkOk_by (N:=Z2g) (sc:=defScope Z0h) (by decide +kernel)) (by decide) (fun _ _ _ _ _=>W0 (i:=6) Z0g rfl (by first | exact Or.inl rfl | exact Or.inr rfl)) (fun _ _ _ _ _=>Y2m (Z0c (h.blk _ _ _ _ _).in_ (Z4 6) (Z4 2))) (fun _ _ _ _ _=>Z4 6)) (Z8)))) (Z9 (Z4y ["Tool"] Fx.at_Tool_asked (Z4 0) (Z5o call_tuple_of Y86 rfl Fx.f_tuple (Z1 (Z7o (own:=[("one",6)]) (t:=(.nm 6)) rfl Z0g (Z1c (Z4 1)) (blkOk_by (N:=Z2g) (sc:=defScope Z0h) (by decide +kernel)) (by decide) (fun _ _ _ _ _=>W0 (i:=6) Z0g rfl (by first | exact Or.inl rfl | exact Or.inr rfl)) (fun _ _ _ _ _=>Y2m (Z0c (h.blk _ _ _ _ _).in_ (Z4 6) (Z4 3))) (fun _ _ _ _ _=>Z4 6)) (Z8)))) (Z9 (Z4y ["Tool"] Fx.at_Tool_rows (Z4 0) (Z5o call_tuple_of Y86 rfl Fx.f_tuple (Z1 (Z4 4) (Z8)))) (Y3 (Z4y ["Tool"] Fx.at_Tool_blank (Z4 0) (Z13 (Z4 1) (V1)))))))))))))
def Y0c:List Str:=["cls", "text", "lines", "told", "at", "head", "rows", "line", "names", "error"]
theorem Z2s:Y0c.Nodup:=by decide +kernel
theorem X0q:FnScope Y0c ["cls", "text"] (defScope Z2u):=⟨rfl,rfl,rfl,Z2s,rfl,by decide +kernel,by decide +kernel⟩
def Y0j:MS:=Y2 (Z2j 2 3 (Z0 (Z9y Z4j (Z3 1) (m_c (.str "\n"))) (Z0 (Q8 (Z7)) (Z7)))) (Y2 (Z2o (.tp [(.nm 4),(.nm 5)]) (Z8o (Z0 (m_c (.tup ((["marks", "shown", "asked"]:List Str).map D.str))) (Z7))) (Y2 (Z0k (Z0d (Y5 geD (Z3 4) (Y0 Z3i (Z0 (Z3 2) (Z7))))) (Z44) (W7)) (Y2 (V6 8 (Y0 (Y9 2 (X5 [] (callP g_names_in))) (Z0 (Z1m (Z3 2) (Z3 4)) (Z0 (Z3 5) (Z7))))) (Y2 (Z0k (Z0d (Y5 isD (Z3 8) (m_c .non))) (Z44) (W7)) (U1 (Z3b Q5 Q0 (Z3 3) (Z0 (Z3 8) (Z7)))))))) (Y2 (V6 6 (Q8 (Z7))) (Y2 (Z2o (.tp [(.nm 4),(.nm 7)]) (Z8o (Z0 (V8 (Z3 2) (Q4 (Y0 Z3i (Z0 (m_c (.tup ((["marks", "shown", "asked"]:List Str).map D.str))) (Z7)))) (Z5n)) (Z7))) (X9j (U1 (Z3b Q5 Q0 (Z3 6) (Z0 (Z9c "Row" (Y9 2 (X5 [] (callP Z4l))) (m_c (.gl "Row")) (Z0 (Z3 7) (Z7))) (Z7)))))) (X6 (Z9b 0 "Tool" (Y9 4 (X5 [] (made "Tool" mkF Z4i))) (Z0 (Z1m (Z3 3) (m_c (.int 0))) (Z0 (Z1m (Z3 3) (m_c (.int 1))) (Z0 (Z1m (Z3 3) (m_c (.int 2))) (Z0 (Z3 6) (Z7))))))))))
def Z6i:List D→PR:=Z50 10 Y0j
include Fx in
theorem X0a (K_names_in:Kept P HasW.w K mg base 2 (He.ga K "names_in") (spP K 2 g_names_in)) (K_Row_read:Kept P HasW.w K mg base 4 (X9x "Row" "read" K) (spP K 2 Z4l)) (K_Tool_init:Kept P HasW.w K mg base 3 (He.ma K (He.ga K "Tool") "__init__") (spE K 5 Z4i)) (F:FunD K "read" "Tool.read" (defArgs Z2u) (defBody Z2u) (defScope Z2u) dl [] f fd):FnG P HasW.w K mg base 5 f fd ["cls", "text"] (spP K 2 Z6i):=fnP F X0q fun cdv A outer s H E gu room=>by
  have h:Here (cxB P HasW.w K mg base Y0c "Tool.read" (defScope Z2u) f cdv A outer s H E) (wxE E) 4:=U8 gu room
  unfold Y0j
  exact Z9 (Y4u rfl Z2s (i:=2) (j:=3) rfl rfl (by decide) rfl rfl (Z1 (Y79 (Z4 1) (Y8)) (Z1 (Z5d (Z8)) (Z8)))) (Z9 (Z46 Z38 rfl (X10 rfl Fx.f_enumerate (Z1 (Y1d rfl Fx.g_HEADS Fx.v_HEADS) (Z8))) (Z6t rfl (W9 (W0 (i:=4) Z2s rfl (by first | exact Or.inl rfl | exact Or.inr rfl)) (W9 (W0 (i:=5) Z2s rfl (by first | exact Or.inl rfl | exact Or.inr rfl)) (Z4k)))) (Z9 (Z0b (Z0c h.ge (Z4 4) (Z2i Y0r Y0n rfl Fx.f_len (Z1 (Z4 2) (Z8)))) (Y3 (Z5p)) (W5)) (Z9 (Q6 (i:=8) Z2s rfl (by first | exact Or.inl rfl | exact Or.inr rfl) (X7 (h.callP K_names_in (by decide)) rfl Fx.g_names_in K_names_in.kp (Z1 (Z13 (Z4 2) (Z4 4)) (Z1 (Z4 5) (Z8))))) (Z9 (Z0b (Z0c h.is_ (Z4 8) (Z35)) (Y3 (Z5p)) (W5)) (Y3 (Z1k (Z7p PySem.F.slot_list_append PySem.F.type_list_append mt_append Z2k (Z4 3) (Z1 (Z4 8) (Z8))))))))) (Z9 (Q6 (i:=6) Z2s rfl (by first | exact Or.inl rfl | exact Or.inr rfl) (Z5d (Z8))) (Z9 (Z46 Z38 rfl (X10 rfl Fx.f_enumerate (Z1 (Z16 (Z4 2) (Z3c (Z2i Y0r Y0n rfl Fx.f_len (Z1 (Y1d rfl Fx.g_HEADS Fx.v_HEADS) (Z8)))) (Z32)) (Z8))) (Z6t rfl (W9 (W0 (i:=4) Z2s rfl (by first | exact Or.inl rfl | exact Or.inr rfl)) (W9 (W0 (i:=7) Z2s rfl (by first | exact Or.inl rfl | exact Or.inr rfl)) (Z4k)))) (Y3 (W21 (Y3 (Z1k (Z7p PySem.F.slot_list_append PySem.F.type_list_append mt_append Z2k (Z4 6) (Z1 (W8d ((h.nox).callP K_Row_read (by decide)) Fx.cm_Row_read (W2f rfl Fx.g_Row) (Z1 (Z4 7) (Z8))) (Z8)))))))) (Y3 (W3 (X3v 0 (h.make Y9s (n:=4) Fx.M_Tool K_Tool_init (by decide)) Fx.M_Tool.kp (Z1 (Z13 (Z4 3) (V1)) (Z1 (Z13 (Z4 3) (V1)) (Z1 (Z13 (Z4 3) (V1)) (Z1 (Z4 6) (Z8)))))))))))
def Z8s:List Str:=["_law_a", "_law_b", "_law_c", "_law_lines"]
theorem Y1n:Z8s.Nodup:=by decide +kernel
theorem Y8t:FnScope Z8s ["_law_a", "_law_b", "_law_c"] (defScope Z19):=⟨rfl,rfl,rfl,Y1n,rfl,by decide +kernel,by decide +kernel⟩
def Z8y:MS:=Y2 (V6 3 (Q7 (Z0 (Y5 Z8j (m_c (.str "marks ")) (Z9y Y3b (m_c (.str " ")) (Q7 (Z0 (Z3 0) (Z0 (Z3 1) (Z0 (Z3 2) (Z7))))))) (Z0 (Y5 Z8j (m_c (.str "shown ")) (Z3 2)) (Z0 (Y5 Z8j (m_c (.str "asked ")) (Z3 0)) (Z0 (Y5 Z8j (m_c (.str "give any take to ")) (Z3 2)) (Z7))))))) (X6 (Z9c "Tool" (Y9 2 (X5 [] (callP Z6i))) (m_c (.gl "Tool")) (Z0 (Z9y Y3b (m_c (.str "\n")) (Y5 Z8j (Z3 3) (Q7 (Z0 (Y5 Z8j (m_c (.str "carry any to ")) (Z3 1)) (Z0 (Y5 Z8j (m_c (.str "right any to ")) (Z3 2)) (Z0 (Y5 Z8j (m_c (.str "wrong any to ")) (Z3 0)) (Z7))))))) (Z7))))
def g__law_plain:List D→PR:=Z50 4 Z8y
include Fx in
theorem Y8j (K_Tool_read:Kept P HasW.w K mg base 5 (X9x "Tool" "read" K) (spP K 2 Z6i)) (F:FunD K "_law_plain" "_law_plain" (defArgs Z19) (defBody Z19) (defScope Z19) dl [] f fd):FnG P HasW.w K mg base 6 f fd ["_law_a", "_law_b", "_law_c"] (spP K 3 g__law_plain):=fnP F Y8t fun cdv A outer s H E gu room=>by
  have h:Here (cxB P HasW.w K mg base Z8s "_law_plain" (defScope Z19) f cdv A outer s H E) (wxE E) 5:=U8 gu room
  unfold Z8y
  exact Z9 (Q6 (i:=3) Y1n rfl (by first | exact Or.inl rfl | exact Or.inr rfl) (Z0o (Z1 (Z88 h.add (Y8) (X7n (Y8) (Z0o (Z1 (Z4 0) (Z1 (Z4 1) (Z1 (Z4 2) (Z8))))))) (Z1 (Z88 h.add (Y8) (Z4 2)) (Z1 (Z88 h.add (Y8) (Z4 0)) (Z1 (Z88 h.add (Y8) (Z4 2)) (Z8))))))) (Y3 (W3 (W8d (h.callP K_Tool_read (by decide)) Fx.cm_Tool_read (W2f rfl Fx.g_Tool) (Z1 (X7n (Y8) (Z88 h.add (Z4 3) (Z0o (Z1 (Z88 h.add (Y8) (Z4 1)) (Z1 (Z88 h.add (Y8) (Z4 2)) (Z1 (Z88 h.add (Y8) (Z4 0)) (Z8))))))) (Z8)))))
def Z6b:List Str:=["_law_a", "_law_b", "_law_c", "_law_found"]
theorem Z1l:Z6b.Nodup:=by decide +kernel
theorem Y3o:FnScope Z6b ["_law_a", "_law_b", "_law_c"] (defScope Z03):=⟨rfl,rfl,rfl,Z1l,rfl,by decide +kernel,by decide +kernel⟩
def Z8z:MS:=Y2 (V6 3 (Q7 (Z0 (V4 (Z0 (Z3 0) (Z0 (m_c (.str "none")) (Z0 (m_c (.bl false)) (Z0 (m_c (.bl false)) (Z0 (m_c (.bl false)) (Z0 (m_c (.bl false)) (Z7)))))))) (Z0 (V4 (Z0 (Z3 0) (Z0 (m_c (.str "none")) (Z0 (m_c (.bl true)) (Z0 (m_c (.bl false)) (Z0 (m_c (.bl true)) (Z0 (m_c (.bl false)) (Z7)))))))) (Z7))))) (Y2 (V6 3 (Y5 Z8j (Z3 3) (Q7 (Z0 (V4 (Z0 (Z3 2) (Z0 (m_c (.str "mine")) (Z0 (m_c (.bl true)) (Z0 (m_c (.bl false)) (Z0 (m_c (.bl true)) (Z0 (m_c (.bl false)) (Z7)))))))) (Z0 (V4 (Z0 (Z3 1) (Z0 (m_c (.str "mine")) (Z0 (m_c (.bl true)) (Z0 (m_c (.bl false)) (Z0 (m_c (.bl true)) (Z0 (m_c (.bl false)) (Z7)))))))) (Z7)))))) (Y2 (V6 3 (Y5 Z8j (Z3 3) (Q7 (Z0 (V4 (Z0 (Z3 0) (Z0 (m_c (.str "none")) (Z0 (m_c (.bl false)) (Z0 (m_c (.bl false)) (Z0 (m_c (.bl true)) (Z0 (m_c (.bl false)) (Z7)))))))) (Z0 (V4 (Z0 (Z3 2) (Z0 (m_c (.str "mine")) (Z0 (m_c (.bl false)) (Z0 (m_c (.bl false)) (Z0 (m_c (.bl true)) (Z0 (m_c (.bl false)) (Z7)))))))) (Z7)))))) (Y2 (V6 3 (Y5 Z8j (Z3 3) (Q7 (Z0 (V4 (Z0 (Z3 1) (Z0 (m_c (.str "mine")) (Z0 (m_c (.bl false)) (Z0 (m_c (.bl false)) (Z0 (m_c (.bl true)) (Z0 (m_c (.bl false)) (Z7)))))))) (Z0 (V4 (Z0 (Z3 0) (Z0 (m_c (.str "none")) (Z0 (m_c (.bl false)) (Z0 (m_c (.bl true)) (Z0 (m_c (.bl false)) (Z0 (m_c (.bl true)) (Z7)))))))) (Z7)))))) (Y2 (V6 3 (Y5 Z8j (Z3 3) (Q7 (Z0 (V4 (Z0 (Z3 2) (Z0 (m_c (.str "theirs")) (Z0 (m_c (.bl false)) (Z0 (m_c (.bl true)) (Z0 (m_c (.bl false)) (Z0 (m_c (.bl true)) (Z7)))))))) (Z0 (V4 (Z0 (Z3 1) (Z0 (m_c (.str "theirs")) (Z0 (m_c (.bl false)) (Z0 (m_c (.bl true)) (Z0 (m_c (.bl false)) (Z0 (m_c (.bl true)) (Z7)))))))) (Z7)))))) (Y2 (V6 3 (Y5 Z8j (Z3 3) (Q7 (Z0 (V4 (Z0 (Z3 0) (Z0 (m_c (.str "none")) (Z0 (m_c (.bl false)) (Z0 (m_c (.bl false)) (Z0 (m_c (.bl false)) (Z0 (m_c (.bl true)) (Z7)))))))) (Z0 (V4 (Z0 (Z3 2) (Z0 (m_c (.str "other")) (Z0 (m_c (.bl false)) (Z0 (m_c (.bl false)) (Z0 (m_c (.bl false)) (Z0 (m_c (.bl true)) (Z7)))))))) (Z7)))))) (X6 (Y5 Z8j (Z3 3) (Q7 (Z0 (V4 (Z0 (Z3 1) (Z0 (m_c (.str "other")) (Z0 (m_c (.bl false)) (Z0 (m_c (.bl false)) (Z0 (m_c (.bl false)) (Z0 (m_c (.bl true)) (Z7)))))))) (Z7))))))))))
def g__law_thirteen:List D→PR:=Z50 4 Z8z
include Fx in
theorem Y3l  (F:FunD K "_law_thirteen" "_law_thirteen" (defArgs Z03) (defBody Z03) (defScope Z03) dl [] f fd):FnG P HasW.w K mg base 1 f fd ["_law_a", "_law_b", "_law_c"] (spP K 3 g__law_thirteen):=fnP F Y3o fun cdv A outer s H E gu room=>by
  have h:Here (cxB P HasW.w K mg base Z6b "_law_thirteen" (defScope Z03) f cdv A outer s H E) (wxE E) 0:=U8 gu room
  unfold Z8z
  exact Z9 (Q6 (i:=3) Z1l rfl (by first | exact Or.inl rfl | exact Or.inr rfl) (Z0o (Z1 (Q1 (Z1 (Z4 0) (Z1 (Y8) (Z1 (V0) (Z1 (V0) (Z1 (V0) (Z1 (V0) (Z8)))))))) (Z1 (Q1 (Z1 (Z4 0) (Z1 (Y8) (Z1 (V0) (Z1 (V0) (Z1 (V0) (Z1 (V0) (Z8)))))))) (Z8))))) (Z9 (Q6 (i:=3) Z1l rfl (by first | exact Or.inl rfl | exact Or.inr rfl) (Z88 h.add (Z4 3) (Z0o (Z1 (Q1 (Z1 (Z4 2) (Z1 (Y8) (Z1 (V0) (Z1 (V0) (Z1 (V0) (Z1 (V0) (Z8)))))))) (Z1 (Q1 (Z1 (Z4 1) (Z1 (Y8) (Z1 (V0) (Z1 (V0) (Z1 (V0) (Z1 (V0) (Z8)))))))) (Z8)))))) (Z9 (Q6 (i:=3) Z1l rfl (by first | exact Or.inl rfl | exact Or.inr rfl) (Z88 h.add (Z4 3) (Z0o (Z1 (Q1 (Z1 (Z4 0) (Z1 (Y8) (Z1 (V0) (Z1 (V0) (Z1 (V0) (Z1 (V0) (Z8)))))))) (Z1 (Q1 (Z1 (Z4 2) (Z1 (Y8) (Z1 (V0) (Z1 (V0) (Z1 (V0) (Z1 (V0) (Z8)))))))) (Z8)))))) (Z9 (Q6 (i:=3) Z1l rfl (by first | exact Or.inl rfl | exact Or.inr rfl) (Z88 h.add (Z4 3) (Z0o (Z1 (Q1 (Z1 (Z4 1) (Z1 (Y8) (Z1 (V0) (Z1 (V0) (Z1 (V0) (Z1 (V0) (Z8)))))))) (Z1 (Q1 (Z1 (Z4 0) (Z1 (Y8) (Z1 (V0) (Z1 (V0) (Z1 (V0) (Z1 (V0) (Z8)))))))) (Z8)))))) (Z9 (Q6 (i:=3) Z1l rfl (by first | exact Or.inl rfl | exact Or.inr rfl) (Z88 h.add (Z4 3) (Z0o (Z1 (Q1 (Z1 (Z4 2) (Z1 (Y8) (Z1 (V0) (Z1 (V0) (Z1 (V0) (Z1 (V0) (Z8)))))))) (Z1 (Q1 (Z1 (Z4 1) (Z1 (Y8) (Z1 (V0) (Z1 (V0) (Z1 (V0) (Z1 (V0) (Z8)))))))) (Z8)))))) (Z9 (Q6 (i:=3) Z1l rfl (by first | exact Or.inl rfl | exact Or.inr rfl) (Z88 h.add (Z4 3) (Z0o (Z1 (Q1 (Z1 (Z4 0) (Z1 (Y8) (Z1 (V0) (Z1 (V0) (Z1 (V0) (Z1 (V0) (Z8)))))))) (Z1 (Q1 (Z1 (Z4 2) (Z1 (Y8) (Z1 (V0) (Z1 (V0) (Z1 (V0) (Z1 (V0) (Z8)))))))) (Z8)))))) (Y3 (W3 (Z88 h.add (Z4 3) (Z0o (Z1 (Q1 (Z1 (Z4 1) (Z1 (Y8) (Z1 (V0) (Z1 (V0) (Z1 (V0) (Z1 (V0) (Z8)))))))) (Z8)))))))))))
def X1b:List Str:=["tool"]
theorem W05:X1b.Nodup:=by decide +kernel
theorem W11:FnScope X1b ["tool"] (defScope Z6x):=⟨rfl,rfl,rfl,W05,rfl,by decide +kernel,by decide +kernel⟩
def X1h:MS:=Z1d (Z0 (X4 ["Tool"] "blank" (Z3 0)) (Z0 (m_c (.str "none")) (Z0 (m_c (.bl false)) (Z0 (m_c (.bl false)) (Z0 (m_c (.bl false)) (Z0 (m_c (.bl false)) (Z7)))))))
def g_begun:List D→PR:=Z50 1 X1h
include Fx in
theorem W1l  (F:FunD K "begun" "begun" (defArgs Z6x) (defBody Z6x) (defScope Z6x) dl [] f fd):FnG P HasW.w K mg base 1 f fd ["tool"] (spP K 1 g_begun):=fnP F W11 fun cdv A outer s H E gu room=>by
  have h:Here (cxB P HasW.w K mg base X1b "begun" (defScope Z6x) f cdv A outer s H E) (wxE E) 0:=U8 gu room
  unfold X1h
  exact Y3 (Y8c (Z1 (V5 ["Tool"] Fx.at_Tool_blank (Z4 0)) (Z1 (Z3e rfl Fx.s_NOBODY) (Z1 (V0) (Z1 (V0) (Z1 (V0) (Z1 (V0) (Z8))))))))
def Z62:List Str:=["self", "standing", "steps", "step"]
theorem Z9f:Z62.Nodup:=by decide +kernel
theorem Y5e:FnScope Z62 ["self", "standing", "steps"] (defScope Z1f):=⟨rfl,rfl,rfl,Z9f,rfl,by decide +kernel,by decide +kernel⟩
def Z5i:MS:=Z2o (.nm 3) (Q9 (Z3 2)) (Y2 (Z0k (Z0d (Y5 W62 (X4 ["Step"] "row" (Z3 3)) (m_c .non))) (Y3e (X4 ["Closure"] "rows_done" (Z3 0)) (X4 ["Step"] "row" (Z3 3)) (m_c (.bl true))) (W7)) (Z0k (Z0d (Y2i true (X4 ["Step"] "later" (Z3 3)) (X4 ["Closure"] "ahead" (Z3 0)))) (Y2 (Y5c (X4 ["Closure"] "ahead" (Z3 0)) (X4 ["Step"] "later" (Z3 3)) (V4 (Z0 (Z3 1) (Z0 (Z3 3) (Z7))))) (U1 (Z3b Q5 Q0 (X4 ["Closure"] "order" (Z3 0)) (Z0 (X4 ["Step"] "later" (Z3 3)) (Z7))))) (W7)))
def Z1s:List X→Sto→R X:=X2f 4 Z5i
include Fx in
theorem Y43  (F:FunD K "note" "Closure.note" (defArgs Z1f) (defBody Z1f) (defScope Z1f) dl [] f fd):FnG P HasW.w K mg base 1 f fd ["self", "standing", "steps"] (spE K 3 Z1s):=fnE F Y5e fun cdv A outer s H E gu room=>by
  have h:Here (cxB P HasW.w K mg base Z62 "Closure.note" (defScope Z1f) f cdv A outer s H E) (wxE E) 0:=U8 gu room
  unfold Z5i
  exact Y3 (Z46 Z38 rfl (Z1c (Z4 2)) (W0 (i:=3) Z9f rfl (by first | exact Or.inl rfl | exact Or.inr rfl)) (Z9 (Z0b (Z0c h.isn (V5 ["Step"] Fx.at_Step_row (Z4 3)) (Z35)) (Y3 (X7w h.u1 (V5 ["Closure"] Fx.at_Closure_rows_done (Z4 0)) (V5 ["Step"] Fx.at_Step_row (Z4 3)) (V0))) (W5)) (Y3 (Z0b (Y8e rfl h.u1 (V5 ["Step"] Fx.at_Step_later (Z4 3)) (V5 ["Closure"] Fx.at_Closure_ahead (Z4 0))) (Z9 (X7y rfl h.u1 (V5 ["Closure"] Fx.at_Closure_ahead (Z4 0)) (V5 ["Step"] Fx.at_Step_later (Z4 3)) (Q1 (Z1 (Z4 1) (Z1 (Z4 3) (Z8))))) (Y3 (Z1k (Z7p PySem.F.slot_list_append PySem.F.type_list_append mt_append Z2k (V5 ["Closure"] Fx.at_Closure_order (Z4 0)) (Z1 (V5 ["Step"] Fx.at_Step_later (Z4 3)) (Z8)))))) (W5)))))
def Y1z:List Str:=["self", "word", "mark"]
theorem X14:Y1z.Nodup:=by decide +kernel
theorem X2i:FnScope Y1z ["self", "word", "mark"] (defScope Z3o):=⟨rfl,rfl,rfl,X14,rfl,by decide +kernel,by decide +kernel⟩
def Y14:MS:=X6 (Z1y (Y5 eqD (X4 ["Row"] "word" (Z3 0)) (Z3 1)) (Y5 inD (X4 ["Row"] "old" (Z3 0)) (V4 (Z0 (m_c (.str "any")) (Z0 (Z3 2) (Z7))))))
def Z5b:List D→PR:=Z50 3 Y14
include Fx in
theorem X19  (F:FunD K "fits" "Row.fits" (defArgs Z3o) (defBody Z3o) (defScope Z3o) dl [] f fd):FnG P HasW.w K mg base 1 f fd ["self", "word", "mark"] (spP K 3 Z5b):=fnP F X2i fun cdv A outer s H E gu room=>by
  have h:Here (cxB P HasW.w K mg base Y1z "Row.fits" (defScope Z3o) f cdv A outer s H E) (wxE E) 0:=U8 gu room
  unfold Y14
  exact Y3 (W3 (Z9d (Z2r h.eq (V5 ["Row"] Fx.at_Row_word (Z4 0)) (Z4 1)) (Z3m (Z2r h.in_ (V5 ["Row"] Fx.at_Row_old (Z4 0)) (Q1 (Z1 (Y8) (Z1 (Z4 2) (Z8))))))))
def Z64:List Str:=["self", "word", "mark", "at", "row"]
theorem Z6k:Z64.Nodup:=by decide +kernel
theorem Y5g:FnScope Z64 ["self", "word", "mark"] (defScope Z1h):=⟨rfl,rfl,rfl,Z6k,rfl,by decide +kernel,by decide +kernel⟩
def Z67:MS:=Y2 (Z0k (Q3 (Z0d (Y5 eqD (Z3 2) (X4 ["Tool"] "blank" (Z3 0)))) (Z0d (Y5 neD (Z3 1) (m_c (.str "give"))))) (X6 (m_c .non)) (W7)) (Y2 (Z2o (.tp [(.nm 3),(.nm 4)]) (Z8o (Z0 (X4 ["Tool"] "rows" (Z3 0)) (Z7))) (Z0k (Y6 (Z1n "Row" "fits" (Y9 3 (X5 [] (callP Z5b))) (Z3 4) (Z0 (Z3 1) (Z0 (Z3 2) (Z7))))) (X6 (Z3 3)) (W7))) (X6 (m_c .non)))
def U9:List D→PR:=Z50 5 Z67
include Fx in
theorem Y45 (K_Row_fits:Kept P HasW.w K mg base 1 (He.ma K (He.ga K "Row") "fits") (spP K 3 Z5b)) (F:FunD K "row_for" "Tool.row_for" (defArgs Z1h) (defBody Z1h) (defScope Z1h) dl [] f fd):FnG P HasW.w K mg base 2 f fd ["self", "word", "mark"] (spP K 3 U9):=fnP F Y5g fun cdv A outer s H E gu room=>by
  have h:Here (cxB P HasW.w K mg base Z64 "Tool.row_for" (defScope Z1h) f cdv A outer s H E) (wxE E) 1:=U8 gu room
  unfold Z67
  exact Z9 (Z0b (Z6p (Z3z (Z0c h.eq (Z4 2) (V5 ["Tool"] Fx.at_Tool_blank (Z4 0))) (Z26 (Z0c h.ne (Z4 1) (Y8))))) (Y3 (W3 (Z35))) (W5)) (Z9 (Z46 Z38 rfl (X10 rfl Fx.f_enumerate (Z1 (V5 ["Tool"] Fx.at_Tool_rows (Z4 0)) (Z8))) (Z6t rfl (W9 (W0 (i:=3) Z6k rfl (by first | exact Or.inl rfl | exact Or.inr rfl)) (W9 (W0 (i:=4) Z6k rfl (by first | exact Or.inl rfl | exact Or.inr rfl)) (Z4k)))) (Y3 (Z0b (X9 (Z4x (h.callP K_Row_fits (by decide)) Fx.c_Row Fx.m_Row_fits (Z4 4) (Z1 (Z4 1) (Z1 (Z4 2) (Z8))))) (Y3 (W3 (Z4 3))) (W5)))) (Y3 (W3 (Z35))))
def Z63:List Str:=["self", "word", "mark", "at", "row", "then"]
theorem Z40:Z63.Nodup:=by decide +kernel
theorem Y5f:FnScope Z63 ["self", "word", "mark"] (defScope Z1g):=⟨rfl,rfl,rfl,Z40,rfl,by decide +kernel,by decide +kernel⟩
def Z5j:MS:=Y2 (Z0k (Z0i (W8 (Y6 (Z57 (Z7f "str") [("Row",false),("Tool",false)] (Z3 2)))) (Z0d (Y5 Y90 (Z3 2) (X4 ["Tool"] "marks" (Z3 0))))) (Z44) (W7)) (Y2 (V6 3 (Z1n "Tool" "row_for" (Y9 3 (X5 [] (callP U9))) (Z3 0) (Z0 (Z3 1) (Z0 (Z3 2) (Z7))))) (Y2 (Z0k (Z0d (Y5 isD (Z3 3) (m_c .non))) (Z1d (Z0 (Z56 (Z0d (Y5 eqD (Z3 1) (m_c (.str "carry")))) (X4 ["Tool"] "blank" (Z3 0)) (Z3 2)) (Z0 (m_c (.bl false)) (Z7)))) (W7)) (Y2 (V6 4 (Z1m (X4 ["Tool"] "rows" (Z3 0)) (Z3 3))) (Y2 (Z0k (Q3 (Z0d (Y5 eqD (Z3 2) (X4 ["Tool"] "blank" (Z3 0)))) (W8 (Y6 (X4 ["Row"] "take" (Z3 4))))) (Z1d (Z0 (Z3 2) (Z0 (m_c (.bl false)) (Z7)))) (W7)) (Y2 (V6 5 (Z56 (Z0d (Y5 eqD (X4 ["Row"] "then" (Z3 4)) (m_c (.str "same")))) (Z3 2) (X4 ["Row"] "then" (Z3 4)))) (Z1d (Z0 (Z3 5) (Z0 (Z1y (Y5 eqD (Z3 1) (m_c (.str "give"))) (Z1y (X4 ["Row"] "take" (Z3 4)) (Y5 neD (Z3 5) (X4 ["Tool"] "blank" (Z3 0))))) (Z7)))))))))
def U5:List D→PR:=Z50 6 Z5j
include Fx in
theorem Y44 (K_Tool_row_for:Kept P HasW.w K mg base 2 (He.ma K (He.ga K "Tool") "row_for") (spP K 3 U9)) (F:FunD K "becomes" "Tool.becomes" (defArgs Z1g) (defBody Z1g) (defScope Z1g) dl [] f fd):FnG P HasW.w K mg base 3 f fd ["self", "word", "mark"] (spP K 3 U5):=fnP F Y5f fun cdv A outer s H E gu room=>by
  have h:Here (cxB P HasW.w K mg base Z63 "Tool.becomes" (defScope Z1g) f cdv A outer s H E) (wxE E) 2:=U8 gu room
  unfold Z5j
  exact Z9 (Z0b (Z6p (Z36 (Z0q (X9 (Z98 rfl Fx.f_isinstance (Z4 2) (X78 rfl Fx.f_str) Fx.is_str (.ty _)))) (Z2n (Z0c h.nin (Z4 2) (V5 ["Tool"] Fx.at_Tool_marks (Z4 0)))))) (Y3 (Z5p)) (W5)) (Z9 (Q6 (i:=3) Z40 rfl (by first | exact Or.inl rfl | exact Or.inr rfl) (Z4x (h.callP K_Tool_row_for (by decide)) Fx.c_Tool Fx.m_Tool_row_for (Z4 0) (Z1 (Z4 1) (Z1 (Z4 2) (Z8))))) (Z9 (Z0b (Z0c h.is_ (Z4 3) (Z35)) (Y3 (Y8c (Z1 (Y3j (Z0c h.eq (Z4 1) (Y8)) (V5 ["Tool"] Fx.at_Tool_blank (Z4 0)) (Z4 2)) (Z1 (V0) (Z8))))) (W5)) (Z9 (Q6 (i:=4) Z40 rfl (by first | exact Or.inl rfl | exact Or.inr rfl) (Z13 (V5 ["Tool"] Fx.at_Tool_rows (Z4 0)) (Z4 3))) (Z9 (Z0b (Z6p (Z3z (Z0c h.eq (Z4 2) (V5 ["Tool"] Fx.at_Tool_blank (Z4 0))) (Z26 (Z0q (X9 (V5 ["Row"] Fx.at_Row_take (Z4 4))))))) (Y3 (Y8c (Z1 (Z4 2) (Z1 (V0) (Z8))))) (W5)) (Z9 (Q6 (i:=5) Z40 rfl (by first | exact Or.inl rfl | exact Or.inr rfl) (Y3j (Z0c h.eq (V5 ["Row"] Fx.at_Row_then (Z4 4)) (Y8)) (Z4 2) (V5 ["Row"] Fx.at_Row_then (Z4 4)))) (Y3 (Y8c (Z1 (Z4 5) (Z1 (Z9d (Z2r h.eq (Z4 1) (Y8)) (Z9d (V5 ["Row"] Fx.at_Row_take (Z4 4)) (Z3m (Z2r h.ne (Z4 5) (V5 ["Tool"] Fx.at_Tool_blank (Z4 0)))))) (Z8))))))))))
def Y0b:List Str:=["self", "how", "later", "source", "row"]
theorem Y9t:Y0b.Nodup:=by decide +kernel
theorem X0o:FnScope Y0b ["self", "how", "later", "source", "row"] (defScope Z2t):=⟨rfl,rfl,rfl,Y9t,rfl,by decide +kernel,by decide +kernel⟩
def Z7y:MS:=Y2 (Z0s ["Step"] "how" (Z3 0) (Z3 1)) (Y2 (Z0s ["Step"] "later" (Z3 0) (Z3 2)) (Y2 (Z0s ["Step"] "source" (Z3 0) (Z3 3)) (Z0s ["Step"] "row" (Z3 0) (Z3 4))))
def Z0f:List X→Sto→R X:=X2f 5 Z7y
include Fx in
theorem Y98  (F:FunD K "__init__" "Step.__init__" (defArgs Z2t) (defBody Z2t) (defScope Z2t) dl [] f fd):FnG P HasW.w K mg base 1 f fd ["self", "how", "later", "source", "row"] (spE K 5 Z0f):=fnE F X0o fun cdv A outer s H E gu room=>by
  have h:Here (cxB P HasW.w K mg base Y0b "Step.__init__" (defScope Z2t) f cdv A outer s H E) (wxE E) 0:=U8 gu room
  unfold Z7y
  exact Z9 (Z4y ["Step"] Fx.at_Step_how (Z4 0) (Z4 1)) (Z9 (Z4y ["Step"] Fx.at_Step_later (Z4 0) (Z4 2)) (Z9 (Z4y ["Step"] Fx.at_Step_source (Z4 0) (Z4 3)) (Y3 (Z4y ["Step"] Fx.at_Step_row (Z4 0) (Z4 4)))))
def Z8u:List Str:=["tool", "standing", "how", "whose", "mark", "elder", "later", "took", "found"]
theorem Z3w:Z8u.Nodup:=by decide +kernel
theorem Y8v:FnScope Z8u ["tool", "standing", "how", "whose"] (defScope Z2c):=⟨rfl,rfl,rfl,Z3w,rfl,by decide +kernel,by decide +kernel⟩
def Z80:MS:=Y2 (Z2j 4 5 (Z0 (Z1m (Z3 1) (m_c (.int 0))) (Z0 (Z1m (Z3 1) (m_c (.int 1))) (Z7)))) (Y2 (Z14 (.tp [(.nm 6),(.nm 7)]) (Z1n "Tool" "becomes" (Y9 3 (X5 [] (callP U5))) (Z3 0) (Z0 (m_c (.str "give")) (Z0 (Z3 4) (Z7))))) (Y2 (V6 8 (Z56 (Y6 (Z3 7)) (Z3 3) (Z3 5))) (Y2 (V6 8 (Z56 (Z0d (Y5 eqD (Z3 6) (X4 ["Tool"] "blank" (Z3 0)))) (m_c (.str "none")) (Z3 8))) (X6 (Y0 (Y9 4 (X5 [] (made "Step" mkF Z0f))) (Z0 (Z3 2) (Z0 (V4 (Z0 (Z3 6) (Z0 (Z3 8) (Z0a (V8 (Z3 1) (Q4 (m_c (.int 2))) (Z5n)) (Z7))))) (Z0 (m_c .non) (Z0 (Z1n "Tool" "row_for" (Y9 3 (X5 [] (callP U9))) (Z3 0) (Z0 (m_c (.str "give")) (Z0 (Z3 4) (Z7)))) (Z7))))))))))
def g_given_step:List D→PR:=Z50 9 Z80
include Fx in
theorem Y8l (K_Tool_becomes:Kept P HasW.w K mg base 3 (He.ma K (He.ga K "Tool") "becomes") (spP K 3 U5)) (K_Step_init:Kept P HasW.w K mg base 1 (He.ma K (He.ga K "Step") "__init__") (spE K 5 Z0f)) (K_Tool_row_for:Kept P HasW.w K mg base 2 (He.ma K (He.ga K "Tool") "row_for") (spP K 3 U9)) (F:FunD K "given_step" "given_step" (defArgs Z2c) (defBody Z2c) (defScope Z2c) dl [] f fd):FnG P HasW.w K mg base 4 f fd ["tool", "standing", "how", "whose"] (spP K 4 g_given_step):=fnP F Y8v fun cdv A outer s H E gu room=>by
  have h:Here (cxB P HasW.w K mg base Z8u "given_step" (defScope Z2c) f cdv A outer s H E) (wxE E) 3:=U8 gu room
  unfold Z80
  exact Z9 (Y4u rfl Z3w (i:=4) (j:=5) rfl rfl (by decide) rfl rfl (Z1 (Z13 (Z4 1) (V1)) (Z1 (Z13 (Z4 1) (V1)) (Z8)))) (Z9 (Z9e (Z4x (h.callP K_Tool_becomes (by decide)) Fx.c_Tool Fx.m_Tool_becomes (Z4 0) (Z1 (Y8) (Z1 (Z4 4) (Z8)))) (Z6t rfl (W9 (W0 (i:=6) Z3w rfl (by first | exact Or.inl rfl | exact Or.inr rfl)) (W9 (W0 (i:=7) Z3w rfl (by first | exact Or.inl rfl | exact Or.inr rfl)) (Z4k))))) (Z9 (Q6 (i:=8) Z3w rfl (by first | exact Or.inl rfl | exact Or.inr rfl) (Y3j (X9 (Z4 7)) (Z4 3) (Z4 5))) (Z9 (Q6 (i:=8) Z3w rfl (by first | exact Or.inl rfl | exact Or.inr rfl) (Y3j (Z0c h.eq (Z4 6) (V5 ["Tool"] Fx.at_Tool_blank (Z4 0))) (Z3e rfl Fx.s_NOBODY) (Z4 8))) (Y3 (W3 (X7 (h.make Y9s (n:=4) Fx.M_Step K_Step_init (by decide)) rfl Fx.g_Step Fx.M_Step.kp (Z1 (Z4 2) (Z1 (Q1 (Z1 (Z4 6) (Z1 (Z4 8) (Z5c (Z16 (Z4 1) (Z3c (V1)) (Z32)) (Z8))))) (Z1 (Z35) (Z1 (Z4x (h.callP K_Tool_row_for (by decide)) Fx.c_Tool Fx.m_Tool_row_for (Z4 0) (Z1 (Y8) (Z1 (Z4 4) (Z8)))) (Z8)))))))))))
def Z5v:List Str:=["tool", "lets", "standing", "mark", "whose", "here", "others", "was", "were", "found"]
theorem Z0t:Z5v.Nodup:=by decide +kernel
theorem Y2u:FnScope Z5v ["tool", "lets", "standing"] (defScope Z0u):=⟨rfl,rfl,rfl,Z0t,rfl,by decide +kernel,by decide +kernel⟩
def Z5w:MS:=Y2 (Z14 (.tp [(.nm 3),(.nm 4),(.nm 5),(.nm 6),(.nm 7),(.nm 8)]) (Z3 2)) (Y2 (V6 9 (Q8 (Z7))) (Y2 (Z0k (Y6 (Z3 5)) (U1 (Z3b Q5 Q0 (Z3 9) (Z0 (Y0 (Y9 4 (X5 [] (callP g_given_step))) (Z0 (Z3 0) (Z0 (Z3 2) (Z0 (V4 (Z0 (m_c (.str "give")) (Z0 (m_c (.str "mine")) (Z7)))) (Z0 (m_c (.str "mine")) (Z7)))))) (Z7)))) (Z0k (Q3 (Y6 (Z3 7)) (Z0d (Y5 inD (m_c (.str "late")) (Z3 1)))) (U1 (Z3b Q5 Q0 (Z3 9) (Z0 (Y0 (Y9 4 (X5 [] (callP g_given_step))) (Z0 (Z3 0) (Z0 (Z3 2) (Z0 (V4 (Z0 (m_c (.str "give")) (Z0 (m_c (.str "mine")) (Z7)))) (Z0 (m_c (.str "mine")) (Z7)))))) (Z7)))) (W7))) (Y2 (Z0k (Y6 (Z3 6)) (U1 (Z3b Q5 Q0 (Z3 9) (Z0 (Y0 (Y9 4 (X5 [] (callP g_given_step))) (Z0 (Z3 0) (Z0 (Z3 2) (Z0 (V4 (Z0 (m_c (.str "give")) (Z0 (m_c (.str "others")) (Z7)))) (Z0 (m_c (.str "theirs")) (Z7)))))) (Z7)))) (Z0k (Q3 (Y6 (Z3 8)) (Z0d (Y5 inD (m_c (.str "late")) (Z3 1)))) (U1 (Z3b Q5 Q0 (Z3 9) (Z0 (Y0 (Y9 4 (X5 [] (callP g_given_step))) (Z0 (Z3 0) (Z0 (Z3 2) (Z0 (V4 (Z0 (m_c (.str "give")) (Z0 (m_c (.str "gone")) (Z7)))) (Z0 (m_c (.str "other")) (Z7)))))) (Z7)))) (W7))) (X6 (Z3 9)))))
def g_delivery_steps:List D→PR:=Z50 10 Z5w
include Fx in
theorem Y2o (K_given_step:Kept P HasW.w K mg base 4 (He.ga K "given_step") (spP K 4 g_given_step)) (F:FunD K "delivery_steps" "delivery_steps" (defArgs Z0u) (defBody Z0u) (defScope Z0u) dl [] f fd):FnG P HasW.w K mg base 5 f fd ["tool", "lets", "standing"] (spP K 3 g_delivery_steps):=fnP F Y2u fun cdv A outer s H E gu room=>by
  have h:Here (cxB P HasW.w K mg base Z5v "delivery_steps" (defScope Z0u) f cdv A outer s H E) (wxE E) 4:=U8 gu room
  unfold Z5w
  exact Z9 (Z9e (Z4 2) (Z6t rfl (W9 (W0 (i:=3) Z0t rfl (by first | exact Or.inl rfl | exact Or.inr rfl)) (W9 (W0 (i:=4) Z0t rfl (by first | exact Or.inl rfl | exact Or.inr rfl)) (W9 (W0 (i:=5) Z0t rfl (by first | exact Or.inl rfl | exact Or.inr rfl)) (W9 (W0 (i:=6) Z0t rfl (by first | exact Or.inl rfl | exact Or.inr rfl)) (W9 (W0 (i:=7) Z0t rfl (by first | exact Or.inl rfl | exact Or.inr rfl)) (W9 (W0 (i:=8) Z0t rfl (by first | exact Or.inl rfl | exact Or.inr rfl)) (Z4k))))))))) (Z9 (Q6 (i:=9) Z0t rfl (by first | exact Or.inl rfl | exact Or.inr rfl) (Z5d (Z8))) (Z9 (Z0b (X9 (Z4 5)) (Y3 (Z1k (Z7p PySem.F.slot_list_append PySem.F.type_list_append mt_append Z2k (Z4 9) (Z1 (X7 (h.callP K_given_step (by decide)) rfl Fx.g_given_step K_given_step.kp (Z1 (Z4 0) (Z1 (Z4 2) (Z1 (Q1 (Z1 (Y8) (Z1 (Y8) (Z8)))) (Z1 (Z3e rfl Fx.s_MINE) (Z8)))))) (Z8))))) (Y3 (Z0b (Z6p (Z3z (X9 (Z4 7)) (Z26 (Z0c h.in_ (Y8) (Z4 1))))) (Y3 (Z1k (Z7p PySem.F.slot_list_append PySem.F.type_list_append mt_append Z2k (Z4 9) (Z1 (X7 (h.callP K_given_step (by decide)) rfl Fx.g_given_step K_given_step.kp (Z1 (Z4 0) (Z1 (Z4 2) (Z1 (Q1 (Z1 (Y8) (Z1 (Y8) (Z8)))) (Z1 (Z3e rfl Fx.s_MINE) (Z8)))))) (Z8))))) (W5)))) (Z9 (Z0b (X9 (Z4 6)) (Y3 (Z1k (Z7p PySem.F.slot_list_append PySem.F.type_list_append mt_append Z2k (Z4 9) (Z1 (X7 (h.callP K_given_step (by decide)) rfl Fx.g_given_step K_given_step.kp (Z1 (Z4 0) (Z1 (Z4 2) (Z1 (Q1 (Z1 (Y8) (Z1 (Y8) (Z8)))) (Z1 (Z3e rfl Fx.s_THEIRS) (Z8)))))) (Z8))))) (Y3 (Z0b (Z6p (Z3z (X9 (Z4 8)) (Z26 (Z0c h.in_ (Y8) (Z4 1))))) (Y3 (Z1k (Z7p PySem.F.slot_list_append PySem.F.type_list_append mt_append Z2k (Z4 9) (Z1 (X7 (h.callP K_given_step (by decide)) rfl Fx.g_given_step K_given_step.kp (Z1 (Z4 0) (Z1 (Z4 2) (Z1 (Q1 (Z1 (Y8) (Z1 (Y8) (Z8)))) (Z1 (Z3e rfl Fx.s_OTHER) (Z8)))))) (Z8))))) (W5)))) (Y3 (W3 (Z4 9))))))
def Z7w:List Str:=["tool", "standing", "how", "is_right", "mark", "whose", "word", "later", "found"]
theorem Z37:Z7w.Nodup:=by decide +kernel
theorem Y6i:FnScope Z7w ["tool", "standing", "how", "is_right"] (defScope Z1v):=⟨rfl,rfl,rfl,Z37,rfl,by decide +kernel,by decide +kernel⟩
def Z74:MS:=Y2 (Z2j 4 5 (Z0 (Z1m (Z3 1) (m_c (.int 0))) (Z0 (Z1m (Z3 1) (m_c (.int 1))) (Z7)))) (Y2 (V6 6 (Z56 (Y6 (Z3 3)) (m_c (.str "right")) (m_c (.str "wrong")))) (Y2 (V6 7 (Z1m (Z1n "Tool" "becomes" (Y9 3 (X5 [] (callP U5))) (Z3 0) (Z0 (Z3 6) (Z0 (Z3 4) (Z7)))) (m_c (.int 0)))) (Y2 (V6 8 (Z56 (Z0d (Y5 eqD (Z3 7) (X4 ["Tool"] "blank" (Z3 0)))) (m_c (.str "none")) (Z3 5))) (X6 (Y0 (Y9 4 (X5 [] (made "Step" mkF Z0f))) (Z0 (Z3 2) (Z0 (V4 (Z0 (Z3 7) (Z0 (Z3 8) (Z0a (V8 (Z3 1) (Q4 (m_c (.int 2))) (Z5n)) (Z7))))) (Z0 (m_c .non) (Z0 (Z1n "Tool" "row_for" (Y9 3 (X5 [] (callP U9))) (Z3 0) (Z0 (Z3 6) (Z0 (Z3 4) (Z7)))) (Z7))))))))))
def g_looked_step:List D→PR:=Z50 9 Z74
include Fx in
theorem Y59 (K_Tool_becomes:Kept P HasW.w K mg base 3 (He.ma K (He.ga K "Tool") "becomes") (spP K 3 U5)) (K_Step_init:Kept P HasW.w K mg base 1 (He.ma K (He.ga K "Step") "__init__") (spE K 5 Z0f)) (K_Tool_row_for:Kept P HasW.w K mg base 2 (He.ma K (He.ga K "Tool") "row_for") (spP K 3 U9)) (F:FunD K "looked_step" "looked_step" (defArgs Z1v) (defBody Z1v) (defScope Z1v) dl [] f fd):FnG P HasW.w K mg base 4 f fd ["tool", "standing", "how", "is_right"] (spP K 4 g_looked_step):=fnP F Y6i fun cdv A outer s H E gu room=>by
  have h:Here (cxB P HasW.w K mg base Z7w "looked_step" (defScope Z1v) f cdv A outer s H E) (wxE E) 3:=U8 gu room
  unfold Z74
  exact Z9 (Y4u rfl Z37 (i:=4) (j:=5) rfl rfl (by decide) rfl rfl (Z1 (Z13 (Z4 1) (V1)) (Z1 (Z13 (Z4 1) (V1)) (Z8)))) (Z9 (Q6 (i:=6) Z37 rfl (by first | exact Or.inl rfl | exact Or.inr rfl) (Y3j (X9 (Z4 3)) (Y8) (Y8))) (Z9 (Q6 (i:=7) Z37 rfl (by first | exact Or.inl rfl | exact Or.inr rfl) (Z13 (Z4x (h.callP K_Tool_becomes (by decide)) Fx.c_Tool Fx.m_Tool_becomes (Z4 0) (Z1 (Z4 6) (Z1 (Z4 4) (Z8)))) (V1))) (Z9 (Q6 (i:=8) Z37 rfl (by first | exact Or.inl rfl | exact Or.inr rfl) (Y3j (Z0c h.eq (Z4 7) (V5 ["Tool"] Fx.at_Tool_blank (Z4 0))) (Z3e rfl Fx.s_NOBODY) (Z4 5))) (Y3 (W3 (X7 (h.make Y9s (n:=4) Fx.M_Step K_Step_init (by decide)) rfl Fx.g_Step Fx.M_Step.kp (Z1 (Z4 2) (Z1 (Q1 (Z1 (Z4 7) (Z1 (Z4 8) (Z5c (Z16 (Z4 1) (Z3c (V1)) (Z32)) (Z8))))) (Z1 (Z35) (Z1 (Z4x (h.callP K_Tool_row_for (by decide)) Fx.c_Tool Fx.m_Tool_row_for (Z4 0) (Z1 (Z4 6) (Z1 (Z4 4) (Z8)))) (Z8)))))))))))
def Z8v:List Str:=["tool", "standing", "mark", "whose", "here", "others", "was", "were", "found"]
theorem Z17:Z8v.Nodup:=by decide +kernel
theorem Y8w:FnScope Z8v ["tool", "standing"] (defScope Z2d):=⟨rfl,rfl,rfl,Z17,rfl,by decide +kernel,by decide +kernel⟩
def Z81:MS:=Y2 (Z14 (.tp [(.nm 2),(.nm 3),(.nm 4),(.nm 5),(.nm 6),(.nm 7)]) (Z3 1)) (Y2 (V6 8 (Q8 (Z7))) (Y2 (Z0k (Q3 (Z0d (Y5 neD (Z3 2) (X4 ["Tool"] "blank" (Z3 0)))) (Y6 (Z3 4))) (U1 (Z3b Q5 Q0 (Z3 8) (Z0 (Y0 (Y9 4 (X5 [] (callP g_looked_step))) (Z0 (Z3 0) (Z0 (Z3 1) (Z0 (V4 (Z0 (m_c (.str "check")) (Z0 (m_c (.str "mine")) (Z7)))) (Z0 (Y5 eqD (Z3 3) (m_c (.str "mine"))) (Z7)))))) (Z7)))) (W7)) (Y2 (Z0k (Q3 (Z0d (Y5 neD (Z3 2) (X4 ["Tool"] "blank" (Z3 0)))) (Y6 (Z3 5))) (U1 (Z3b Q5 Q0 (Z3 8) (Z0 (Y0 (Y9 4 (X5 [] (callP g_looked_step))) (Z0 (Z3 0) (Z0 (Z3 1) (Z0 (V4 (Z0 (m_c (.str "check")) (Z0 (m_c (.str "others")) (Z7)))) (Z0 (Y5 eqD (Z3 3) (m_c (.str "theirs"))) (Z7)))))) (Z7)))) (W7)) (X6 (Z3 8)))))
def g_look_steps:List D→PR:=Z50 9 Z81
include Fx in
theorem Y8m (K_looked_step:Kept P HasW.w K mg base 4 (He.ga K "looked_step") (spP K 4 g_looked_step)) (F:FunD K "look_steps" "look_steps" (defArgs Z2d) (defBody Z2d) (defScope Z2d) dl [] f fd):FnG P HasW.w K mg base 5 f fd ["tool", "standing"] (spP K 2 g_look_steps):=fnP F Y8w fun cdv A outer s H E gu room=>by
  have h:Here (cxB P HasW.w K mg base Z8v "look_steps" (defScope Z2d) f cdv A outer s H E) (wxE E) 4:=U8 gu room
  unfold Z81
  exact Z9 (Z9e (Z4 1) (Z6t rfl (W9 (W0 (i:=2) Z17 rfl (by first | exact Or.inl rfl | exact Or.inr rfl)) (W9 (W0 (i:=3) Z17 rfl (by first | exact Or.inl rfl | exact Or.inr rfl)) (W9 (W0 (i:=4) Z17 rfl (by first | exact Or.inl rfl | exact Or.inr rfl)) (W9 (W0 (i:=5) Z17 rfl (by first | exact Or.inl rfl | exact Or.inr rfl)) (W9 (W0 (i:=6) Z17 rfl (by first | exact Or.inl rfl | exact Or.inr rfl)) (W9 (W0 (i:=7) Z17 rfl (by first | exact Or.inl rfl | exact Or.inr rfl)) (Z4k))))))))) (Z9 (Q6 (i:=8) Z17 rfl (by first | exact Or.inl rfl | exact Or.inr rfl) (Z5d (Z8))) (Z9 (Z0b (Z6p (Z3z (Z0c h.ne (Z4 2) (V5 ["Tool"] Fx.at_Tool_blank (Z4 0))) (Z26 (X9 (Z4 4))))) (Y3 (Z1k (Z7p PySem.F.slot_list_append PySem.F.type_list_append mt_append Z2k (Z4 8) (Z1 (X7 (h.callP K_looked_step (by decide)) rfl Fx.g_looked_step K_looked_step.kp (Z1 (Z4 0) (Z1 (Z4 1) (Z1 (Q1 (Z1 (Y8) (Z1 (Y8) (Z8)))) (Z1 (Z2r h.eq (Z4 3) (Z3e rfl Fx.s_MINE)) (Z8)))))) (Z8))))) (W5)) (Z9 (Z0b (Z6p (Z3z (Z0c h.ne (Z4 2) (V5 ["Tool"] Fx.at_Tool_blank (Z4 0))) (Z26 (X9 (Z4 5))))) (Y3 (Z1k (Z7p PySem.F.slot_list_append PySem.F.type_list_append mt_append Z2k (Z4 8) (Z1 (X7 (h.callP K_looked_step (by decide)) rfl Fx.g_looked_step K_looked_step.kp (Z1 (Z4 0) (Z1 (Z4 1) (Z1 (Q1 (Z1 (Y8) (Z1 (Y8) (Z8)))) (Z1 (Z2r h.eq (Z4 3) (Z3e rfl Fx.s_THEIRS)) (Z8)))))) (Z8))))) (W5)) (Y3 (W3 (Z4 8))))))
def Y7l:List Str:=["lets", "standing", "here", "others", "is_used", "is_elder"]
theorem Y9v:Y7l.Nodup:=by decide +kernel
theorem X8n:FnScope Y7l ["lets", "standing", "here", "others"] (defScope Z5s):=⟨rfl,rfl,rfl,Y9v,rfl,by decide +kernel,by decide +kernel⟩
def Y7u:MS:=Y2 (Z2j 4 5 (Z0 (Z5k (Z1m (Z3 1) (m_c (.int 2))) (Z1m (Z3 1) (m_c (.int 3)))) (Z0 (Z5k (Z1m (Z3 1) (m_c (.int 4))) (Z1m (Z3 1) (m_c (.int 5)))) (Z7)))) (Y2 (Z0k (Q3 (Y6 (Z3 2)) (Q3 (Y6 (Z3 3)) (Z0d (Y5 Y90 (m_c (.str "alike")) (Z3 0))))) (X6 (m_c (.bl false))) (W7)) (Y2 (Z0k (W8 (Y6 (Z3 4))) (X6 (Z5k (Z3h (Z5k (Z3 2) (Z3 3))) (Z5k (Z3h (Z3 5)) (Y5 inD (m_c (.str "back")) (Z3 0))))) (W7)) (Y2 (Z0k (Z0i (Z0d (Y5 inD (m_c (.str "alike")) (Z3 0))) (Z0i (Z0d (Y5 inD (m_c (.str "back")) (Z3 0))) (W8 (Z0i (Y6 (Z3 2)) (Y6 (Z3 3)))))) (X6 (m_c (.bl true))) (W7)) (X6 (Y5 eqD (V4 (Z0 (Z3 2) (Z0 (Z3 3) (Z7)))) (V4 (Z0 (Z1m (Z3 1) (m_c (.int 2))) (Z0 (Z1m (Z3 1) (m_c (.int 3))) (Z7)))))))))
def g_is_let:List D→PR:=Z50 6 Y7u
include Fx in
theorem X74  (F:FunD K "is_let" "is_let" (defArgs Z5s) (defBody Z5s) (defScope Z5s) dl [] f fd):FnG P HasW.w K mg base 1 f fd ["lets", "standing", "here", "others"] (spP K 4 g_is_let):=fnP F X8n fun cdv A outer s H E gu room=>by
  have h:Here (cxB P HasW.w K mg base Y7l "is_let" (defScope Z5s) f cdv A outer s H E) (wxE E) 0:=U8 gu room
  unfold Y7u
  exact Z9 (Y4u rfl Y9v (i:=4) (j:=5) rfl rfl (by decide) rfl rfl (Z1 (Y0w (Z13 (Z4 1) (V1)) (Z3m (Z13 (Z4 1) (V1)))) (Z1 (Y0w (Z13 (Z4 1) (V1)) (Z3m (Z13 (Z4 1) (V1)))) (Z8)))) (Z9 (Z0b (Z6p (Z3z (X9 (Z4 2)) (Z3z (X9 (Z4 3)) (Z26 (Z0c h.nin (Y8) (Z4 0)))))) (Y3 (W3 (V0))) (W5)) (Z9 (Z0b (Z0q (X9 (Z4 4))) (Y3 (W3 (Y0w (Y9r (Y0w (Z4 2) (Z3m (Z4 3)))) (Y0w (Y9r (Z4 5)) (Z3m (Z2r h.in_ (Y8) (Z4 0))))))) (W5)) (Z9 (Z0b (Z6p (Z36 (Z0c h.in_ (Y8) (Z4 0)) (Z36 (Z0c h.in_ (Y8) (Z4 0)) (Z2n (Z0q (Z6p (Z36 (X9 (Z4 2)) (Z2n (X9 (Z4 3)))))))))) (Y3 (W3 (V0))) (W5)) (Y3 (W3 (Z2r h.eq (Q1 (Z1 (Z4 2) (Z1 (Z4 3) (Z8)))) (Q1 (Z1 (Z13 (Z4 1) (V1)) (Z1 (Z13 (Z4 1) (V1)) (Z8))))))))))
def Z66:List Str:=["whose"]
theorem Y4v:Z66.Nodup:=by decide +kernel
theorem Y5i:FnScope Z66 ["whose"] (defScope Z1j):=⟨rfl,rfl,rfl,Y4v,rfl,by decide +kernel,by decide +kernel⟩
def Z69:MS:=X6 (Y5 inD (Z3 0) (V4 (Z0 (m_c (.str "theirs")) (Z0 (m_c (.str "other")) (Z7)))))
def g_is_of_others:List D→PR:=Z50 1 Z69
include Fx in
theorem Y47  (F:FunD K "is_of_others" "is_of_others" (defArgs Z1j) (defBody Z1j) (defScope Z1j) dl [] f fd):FnG P HasW.w K mg base 1 f fd ["whose"] (spP K 1 g_is_of_others):=fnP F Y5i fun cdv A outer s H E gu room=>by
  have h:Here (cxB P HasW.w K mg base Z66 "is_of_others" (defScope Z1j) f cdv A outer s H E) (wxE E) 0:=U8 gu room
  unfold Z69
  exact Y3 (W3 (Z2r h.in_ (Z4 0) (Q1 (Z1 (Z3e rfl Fx.s_THEIRS) (Z1 (Z3e rfl Fx.s_OTHER) (Z8))))))
def Z8x:List Str:=["whose", "others", "is_free"]
theorem Y8i:Z8x.Nodup:=by decide +kernel
theorem Y8y:FnScope Z8x ["whose", "others", "is_free"] (defScope Z2f):=⟨rfl,rfl,rfl,Y8i,rfl,by decide +kernel,by decide +kernel⟩
def Z83:MS:=Y2 (Z0k (W8 (Y6 (Y0 (Y9 1 (X5 [] (callP g_is_of_others))) (Z0 (Z3 0) (Z7))))) (X6 (Q7 (Z0 (Z3 0) (Z7)))) (W7)) (Y2 (Z0k (W8 (Y6 (Z3 1))) (X6 (Q7 (Z0 (m_c (.str "other")) (Z7)))) (W7)) (X6 (Z56 (Y6 (Z3 2)) (Q7 (Z0 (m_c (.str "theirs")) (Z0 (m_c (.str "other")) (Z7)))) (Q7 (Z0 (Z3 0) (Z7))))))
def g_whose_then:List D→PR:=Z50 3 Z83
include Fx in
theorem Y8o (K_is_of_others:Kept P HasW.w K mg base 1 (He.ga K "is_of_others") (spP K 1 g_is_of_others)) (F:FunD K "whose_then" "whose_then" (defArgs Z2f) (defBody Z2f) (defScope Z2f) dl [] f fd):FnG P HasW.w K mg base 2 f fd ["whose", "others", "is_free"] (spP K 3 g_whose_then):=fnP F Y8y fun cdv A outer s H E gu room=>by
  have h:Here (cxB P HasW.w K mg base Z8x "whose_then" (defScope Z2f) f cdv A outer s H E) (wxE E) 1:=U8 gu room
  unfold Z83
  exact Z9 (Z0b (Z0q (X9 (X7 (h.callP K_is_of_others (by decide)) rfl Fx.g_is_of_others K_is_of_others.kp (Z1 (Z4 0) (Z8))))) (Y3 (W3 (Z0o (Z1 (Z4 0) (Z8))))) (W5)) (Z9 (Z0b (Z0q (X9 (Z4 1))) (Y3 (W3 (Z0o (Z1 (Z3e rfl Fx.s_OTHER) (Z8))))) (W5)) (Y3 (W3 (Y3j (X9 (Z4 2)) (Z0o (Z1 (Z3e rfl Fx.s_THEIRS) (Z1 (Z3e rfl Fx.s_OTHER) (Z8)))) (Z0o (Z1 (Z4 0) (Z8)))))))
def Y7n:List Str:=["lets", "source", "here", "others", "found"]
theorem Y9x:Y7n.Nodup:=by decide +kernel
theorem X8p:FnScope Y7n ["lets", "source", "here", "others"] (defScope Z5u):=⟨rfl,rfl,rfl,Y9x,rfl,by decide +kernel,by decide +kernel⟩
def Y7w:MS:=Y2 (Z0k (Z0d (Y5 inD (m_c (.str "near")) (Z3 0))) (X6 (Q7 (Z0 (m_c (.str "near")) (Z7)))) (W7)) (Y2 (V6 4 (Q8 (Z7))) (Y2 (Z0k (Q3 (Y6 (Z1m (Z3 1) (m_c (.int 2)))) (Y6 (Z3 2))) (U1 (Z3b Q5 Q0 (Z3 4) (Z0 (m_c (.str "own")) (Z7)))) (W7)) (Y2 (Z0k (Q3 (Y6 (Z1m (Z3 1) (m_c (.int 3)))) (Y6 (Z3 3))) (U1 (Z3b Q5 Q0 (Z3 4) (Z0 (m_c (.str "stranger")) (Z7)))) (W7)) (X6 (Z3 4)))))
def g_movers:List D→PR:=Z50 5 Y7w
include Fx in
theorem X76  (F:FunD K "movers" "movers" (defArgs Z5u) (defBody Z5u) (defScope Z5u) dl [] f fd):FnG P HasW.w K mg base 1 f fd ["lets", "source", "here", "others"] (spP K 4 g_movers):=fnP F X8p fun cdv A outer s H E gu room=>by
  have h:Here (cxB P HasW.w K mg base Y7n "movers" (defScope Z5u) f cdv A outer s H E) (wxE E) 0:=U8 gu room
  unfold Y7w
  exact Z9 (Z0b (Z0c h.in_ (Y8) (Z4 0)) (Y3 (W3 (Z0o (Z1 (Y8) (Z8))))) (W5)) (Z9 (Q6 (i:=4) Y9x rfl (by first | exact Or.inl rfl | exact Or.inr rfl) (Z5d (Z8))) (Z9 (Z0b (Z6p (Z3z (X9 (Z13 (Z4 1) (V1))) (Z26 (X9 (Z4 2))))) (Y3 (Z1k (Z7p PySem.F.slot_list_append PySem.F.type_list_append mt_append Z2k (Z4 4) (Z1 (Y8) (Z8))))) (W5)) (Z9 (Z0b (Z6p (Z3z (X9 (Z13 (Z4 1) (V1))) (Z26 (X9 (Z4 3))))) (Y3 (Z1k (Z7p PySem.F.slot_list_append PySem.F.type_list_append mt_append Z2k (Z4 4) (Z1 (Y8) (Z8))))) (W5)) (Y3 (W3 (Z4 4))))))
def Z53:List Str:=["tool", "lets", "source", "rest", "found", "later", "row", "is_free", "some", "mover", "one"]
theorem Z07:Z53.Nodup:=by decide +kernel
theorem Y6e:FnScope Z53 ["tool", "lets", "source", "rest"] (defScope Z09):=⟨rfl,rfl,rfl,Z07,rfl,by decide +kernel,by decide +kernel⟩
def Z71:MS:=Y2 (V6 4 (Q8 (Z7))) (Y2 (Z0k (Z0d (Y5 eqD (Z1m (Z3 2) (m_c (.int 0))) (X4 ["Tool"] "blank" (Z3 0)))) (X6 (Z3 4)) (W7)) (Y2 (Z14 (.tp [(.nm 5),(.nm 6)]) (V4 (Z0 (Z1m (Z1n "Tool" "becomes" (Y9 3 (X5 [] (callP U5))) (Z3 0) (Z0 (m_c (.str "carry")) (Z0 (Z1m (Z3 2) (m_c (.int 0))) (Z7)))) (m_c (.int 0))) (Z0 (Z1n "Tool" "row_for" (Y9 3 (X5 [] (callP U9))) (Z3 0) (Z0 (m_c (.str "carry")) (Z0 (Z1m (Z3 2) (m_c (.int 0))) (Z7)))) (Z7))))) (Y2 (V6 7 (Z5k (Y5 inD (m_c (.str "alike")) (Z3 1)) (Y5 inD (m_c (.str "near")) (Z3 1)))) (Y2 (V6 8 (Z56 (Z0d (Y5 eqD (Z3 5) (X4 ["Tool"] "blank" (Z3 0)))) (Q7 (Z0 (m_c (.str "none")) (Z7))) (Y0 (Y9 3 (X5 [] (callP g_whose_then))) (Z0 (Z1m (Z3 2) (m_c (.int 1))) (Z0 (Z1m (Z3 3) (m_c (.int 1))) (Z0 (Z3 7) (Z7))))))) (Y2 (Z2o (.nm 9) (Q9 (Y0 (Y9 4 (X5 [] (callP g_movers))) (Z0 (Z3 1) (Z0 (Z3 2) (Z0 (Z1m (Z3 3) (m_c (.int 0))) (Z0 (Z1m (Z3 3) (m_c (.int 1))) (Z7))))))) (U1 (Z3b Q5 Z4w (Z3 4) (Z0 (Z4p (.nm 10) (Q9 (Z3 8)) (Z0n) (Y0 (Y9 4 (X5 [] (made "Step" mkF Z0f))) (Z0 (V4 (Z0 (m_c (.str "edition")) (Z0 (Z3 9) (Z7)))) (Z0 (V4 (Z0 (Z3 5) (Z0 (Z3 10) (Z0a (Z3 3) (Z7))))) (Z0 (Z3 2) (Z0 (Z3 6) (Z7)))))) [10]) (Z7))))) (X6 (Z3 4)))))))
def g_carry_steps:List D→PR:=Z50 11 Z71
include Fx in
theorem Y55 (K_Tool_becomes:Kept P HasW.w K mg base 3 (He.ma K (He.ga K "Tool") "becomes") (spP K 3 U5)) (K_Tool_row_for:Kept P HasW.w K mg base 2 (He.ma K (He.ga K "Tool") "row_for") (spP K 3 U9)) (K_whose_then:Kept P HasW.w K mg base 2 (He.ga K "whose_then") (spP K 3 g_whose_then)) (K_movers:Kept P HasW.w K mg base 1 (He.ga K "movers") (spP K 4 g_movers)) (K_Step_init:Kept P HasW.w K mg base 1 (He.ma K (He.ga K "Step") "__init__") (spE K 5 Z0f)) (F:FunD K "carry_steps" "carry_steps" (defArgs Z09) (defBody Z09) (defScope Z09) dl [] f fd):FnG P HasW.w K mg base 4 f fd ["tool", "lets", "source", "rest"] (spP K 4 g_carry_steps):=fnP F Y6e fun cdv A outer s H E gu room=>by
  have h:Here (cxB P HasW.w K mg base Z53 "carry_steps" (defScope Z09) f cdv A outer s H E) (wxE E) 3:=U8 gu room
  unfold Z71
  exact Z9 (Q6 (i:=4) Z07 rfl (by first | exact Or.inl rfl | exact Or.inr rfl) (Z5d (Z8))) (Z9 (Z0b (Z0c h.eq (Z13 (Z4 2) (V1)) (V5 ["Tool"] Fx.at_Tool_blank (Z4 0))) (Y3 (W3 (Z4 4))) (W5)) (Z9 (Z9e (Q1 (Z1 (Z13 (Z4x (h.callP K_Tool_becomes (by decide)) Fx.c_Tool Fx.m_Tool_becomes (Z4 0) (Z1 (Y8) (Z1 (Z13 (Z4 2) (V1)) (Z8)))) (V1)) (Z1 (Z4x (h.callP K_Tool_row_for (by decide)) Fx.c_Tool Fx.m_Tool_row_for (Z4 0) (Z1 (Y8) (Z1 (Z13 (Z4 2) (V1)) (Z8)))) (Z8)))) (Z6t rfl (W9 (W0 (i:=5) Z07 rfl (by first | exact Or.inl rfl | exact Or.inr rfl)) (W9 (W0 (i:=6) Z07 rfl (by first | exact Or.inl rfl | exact Or.inr rfl)) (Z4k))))) (Z9 (Q6 (i:=7) Z07 rfl (by first | exact Or.inl rfl | exact Or.inr rfl) (Y0w (Z2r h.in_ (Y8) (Z4 1)) (Z3m (Z2r h.in_ (Y8) (Z4 1))))) (Z9 (Q6 (i:=8) Z07 rfl (by first | exact Or.inl rfl | exact Or.inr rfl) (Y3j (Z0c h.eq (Z4 5) (V5 ["Tool"] Fx.at_Tool_blank (Z4 0))) (Z0o (Z1 (Z3e rfl Fx.s_NOBODY) (Z8))) (X7 (h.callP K_whose_then (by decide)) rfl Fx.g_whose_then K_whose_then.kp (Z1 (Z13 (Z4 2) (V1)) (Z1 (Z13 (Z4 3) (V1)) (Z1 (Z4 7) (Z8))))))) (Z9 (Z46 Z38 rfl (Z1c (X7 (h.callP K_movers (by decide)) rfl Fx.g_movers K_movers.kp (Z1 (Z4 1) (Z1 (Z4 2) (Z1 (Z13 (Z4 3) (V1)) (Z1 (Z13 (Z4 3) (V1)) (Z8))))))) (W0 (i:=9) Z07 rfl (by first | exact Or.inl rfl | exact Or.inr rfl)) (Y3 (Z1k (Z7p PySem.F.slot_list_extend PySem.F.type_list_extend mt_extend Y7t (Z4 4) (Z1 (Z7o (own:=[("one",10)]) (t:=(.nm 10)) rfl Z07 (Z1c (Z4 8)) (blkOk_by (N:=Z53) (sc:=defScope Z09) (by decide +kernel)) (by decide) (fun _ _ _ _ _=>W0 (i:=10) Z07 rfl (by first | exact Or.inl rfl | exact Or.inr rfl)) (fun _ _ _ _ _=>Z33) (fun _ _ _ _ _=>X7 ((h.blk _ _ _ _ _).make Y9s (n:=4) Fx.M_Step K_Step_init (by decide)) rfl Fx.g_Step Fx.M_Step.kp (Z1 (Q1 (Z1 (Y8) (Z1 (Z4 9) (Z8)))) (Z1 (Q1 (Z1 (Z4 5) (Z1 (Z4 10) (Z5c (Z4 3) (Z8))))) (Z1 (Z4 2) (Z1 (Z4 6) (Z8))))))) (Z8)))))) (Y3 (W3 (Z4 4))))))))
def Z4r:List Str:=["tool", "lets", "standing", "sources", "here", "others", "mark", "whose", "was_here", "were_there", "was", "were", "is_used", "is_used_then", "rest", "is_free", "found", "some", "word", "later", "row", "source", "one"]
theorem V3:Z4r.Nodup:=by decide +kernel
theorem Y6f:FnScope Z4r ["tool", "lets", "standing", "sources", "here", "others"] (defScope Z0y):=⟨rfl,rfl,rfl,V3,rfl,by decide +kernel,by decide +kernel⟩
def Z72:MS:=Y2 (Z14 (.tp [(.nm 6),(.nm 7),(.nm 8),(.nm 9),(.nm 10),(.nm 11)]) (Z3 2)) (Y2 (Z2j 12 13 (Z0 (Z5k (Z3 8) (Z3 9)) (Z0 (Z5k (Z3 4) (Z3 5)) (Z7)))) (Y2 (V6 14 (V4 (Z0 (Z3 4) (Z0 (Z3 5) (Z0 (Z5k (Z3 10) (Z3 4)) (Z0 (Z5k (Z3 11) (Z3 5)) (Z7))))))) (Y2 (V6 15 (Z5k (Y5 inD (m_c (.str "alike")) (Z3 1)) (Y5 inD (m_c (.str "back")) (Z3 1)))) (Y2 (Z0k (Z0d (Y5 eqD (Z3 12) (Z3 13))) (Y2 (V6 17 (Y0 (Y9 3 (X5 [] (callP g_whose_then))) (Z0 (Z3 7) (Z0 (Z3 5) (Z0 (Z3 15) (Z7)))))) (X6 (Z4p (.nm 22) (Q9 (Z3 17)) (Z0n) (Y0 (Y9 4 (X5 [] (made "Step" mkF Z0f))) (Z0 (V4 (Z0 (m_c (.str "edition")) (Z0 (m_c (.str "stay")) (Z7)))) (Z0 (V4 (Z0 (Z3 6) (Z0 (Z3 22) (Z0a (Z3 14) (Z7))))) (Z0 (m_c .non) (Z0 (m_c .non) (Z7)))))) [22]))) (W7)) (Y2 (Z0k (Z0d (Y5 neD (Z3 6) (X4 ["Tool"] "blank" (Z3 0)))) (Y2 (V6 18 (Z56 (Y6 (Z3 12)) (m_c (.str "drop")) (m_c (.str "back")))) (Y2 (V6 19 (Z1m (Z1n "Tool" "becomes" (Y9 3 (X5 [] (callP U5))) (Z3 0) (Z0 (Z3 18) (Z0 (Z3 6) (Z7)))) (m_c (.int 0)))) (Y2 (V6 17 (Z56 (Z0d (Y5 eqD (Z3 19) (X4 ["Tool"] "blank" (Z3 0)))) (Q7 (Z0 (m_c (.str "none")) (Z7))) (Y0 (Y9 3 (X5 [] (callP g_whose_then))) (Z0 (Z3 7) (Z0 (Z3 5) (Z0 (Z3 15) (Z7))))))) (Y2 (V6 20 (Z1n "Tool" "row_for" (Y9 3 (X5 [] (callP U9))) (Z3 0) (Z0 (Z3 18) (Z0 (Z3 6) (Z7))))) (X6 (Z4p (.nm 22) (Q9 (Z3 17)) (Z0n) (Y0 (Y9 4 (X5 [] (made "Step" mkF Z0f))) (Z0 (V4 (Z0 (m_c (.str "edition")) (Z0 (Z3 18) (Z7)))) (Z0 (V4 (Z0 (Z3 19) (Z0 (Z3 22) (Z0a (Z3 14) (Z7))))) (Z0 (m_c .non) (Z0 (Z3 20) (Z7)))))) [22])))))) (W7)) (Y2 (V6 16 (Q8 (Z0 (Y0 (Y9 4 (X5 [] (made "Step" mkF Z0f))) (Z0 (V4 (Z0 (m_c (.str "edition")) (Z0 (m_c (.str "come")) (Z7)))) (Z0 (V4 (Z0 (Z3 6) (Z0 (m_c (.str "none")) (Z0a (Z3 14) (Z7))))) (Z0 (m_c .non) (Z0 (m_c .non) (Z7)))))) (Z7)))) (Y2 (Z0k (Y6 (Z3 13)) (Z2o (.nm 21) (Q9 (Z3 3)) (U1 (Z3b Q5 Z4w (Z3 16) (Z0 (Y0 (Y9 4 (X5 [] (callP g_carry_steps))) (Z0 (Z3 0) (Z0 (Z3 1) (Z0 (Z3 21) (Z0 (Z3 14) (Z7)))))) (Z7))))) (W7)) (X6 (Z3 16)))))))))
def g_editions_to:List D→PR:=Z50 23 Z72
include Fx in
theorem Y56 (K_whose_then:Kept P HasW.w K mg base 2 (He.ga K "whose_then") (spP K 3 g_whose_then)) (K_Step_init:Kept P HasW.w K mg base 1 (He.ma K (He.ga K "Step") "__init__") (spE K 5 Z0f)) (K_Tool_becomes:Kept P HasW.w K mg base 3 (He.ma K (He.ga K "Tool") "becomes") (spP K 3 U5)) (K_Tool_row_for:Kept P HasW.w K mg base 2 (He.ma K (He.ga K "Tool") "row_for") (spP K 3 U9)) (K_carry_steps:Kept P HasW.w K mg base 4 (He.ga K "carry_steps") (spP K 4 g_carry_steps)) (F:FunD K "editions_to" "editions_to" (defArgs Z0y) (defBody Z0y) (defScope Z0y) dl [] f fd):FnG P HasW.w K mg base 5 f fd ["tool", "lets", "standing", "sources", "here", "others"] (spP K 6 g_editions_to):=fnP F Y6f fun cdv A outer s H E gu room=>by
  have h:Here (cxB P HasW.w K mg base Z4r "editions_to" (defScope Z0y) f cdv A outer s H E) (wxE E) 4:=U8 gu room
  unfold Z72
  exact Z9 (Z9e (Z4 2) (Z6t rfl (W9 (W0 (i:=6) V3 rfl (by first | exact Or.inl rfl | exact Or.inr rfl)) (W9 (W0 (i:=7) V3 rfl (by first | exact Or.inl rfl | exact Or.inr rfl)) (W9 (W0 (i:=8) V3 rfl (by first | exact Or.inl rfl | exact Or.inr rfl)) (W9 (W0 (i:=9) V3 rfl (by first | exact Or.inl rfl | exact Or.inr rfl)) (W9 (W0 (i:=10) V3 rfl (by first | exact Or.inl rfl | exact Or.inr rfl)) (W9 (W0 (i:=11) V3 rfl (by first | exact Or.inl rfl | exact Or.inr rfl)) (Z4k))))))))) (Z9 (Y4u rfl V3 (i:=12) (j:=13) rfl rfl (by decide) rfl rfl (Z1 (Y0w (Z4 8) (Z3m (Z4 9))) (Z1 (Y0w (Z4 4) (Z3m (Z4 5))) (Z8)))) (Z9 (Q6 (i:=14) V3 rfl (by first | exact Or.inl rfl | exact Or.inr rfl) (Q1 (Z1 (Z4 4) (Z1 (Z4 5) (Z1 (Y0w (Z4 10) (Z3m (Z4 4))) (Z1 (Y0w (Z4 11) (Z3m (Z4 5))) (Z8))))))) (Z9 (Q6 (i:=15) V3 rfl (by first | exact Or.inl rfl | exact Or.inr rfl) (Y0w (Z2r h.in_ (Y8) (Z4 1)) (Z3m (Z2r h.in_ (Y8) (Z4 1))))) (Z9 (Z0b (Z0c h.eq (Z4 12) (Z4 13)) (Z9 (Q6 (i:=17) V3 rfl (by first | exact Or.inl rfl | exact Or.inr rfl) (X7 (h.callP K_whose_then (by decide)) rfl Fx.g_whose_then K_whose_then.kp (Z1 (Z4 7) (Z1 (Z4 5) (Z1 (Z4 15) (Z8)))))) (Y3 (W3 (Z7o (own:=[("one",22)]) (t:=(.nm 22)) rfl V3 (Z1c (Z4 17)) (blkOk_by (N:=Z4r) (sc:=defScope Z0y) (by decide +kernel)) (by decide) (fun _ _ _ _ _=>W0 (i:=22) V3 rfl (by first | exact Or.inl rfl | exact Or.inr rfl)) (fun _ _ _ _ _=>Z33) (fun _ _ _ _ _=>X7 ((h.blk _ _ _ _ _).make Y9s (n:=4) Fx.M_Step K_Step_init (by decide)) rfl Fx.g_Step Fx.M_Step.kp (Z1 (Q1 (Z1 (Y8) (Z1 (Y8) (Z8)))) (Z1 (Q1 (Z1 (Z4 6) (Z1 (Z4 22) (Z5c (Z4 14) (Z8))))) (Z1 (Z35) (Z1 (Z35) (Z8)))))))))) (W5)) (Z9 (Z0b (Z0c h.ne (Z4 6) (V5 ["Tool"] Fx.at_Tool_blank (Z4 0))) (Z9 (Q6 (i:=18) V3 rfl (by first | exact Or.inl rfl | exact Or.inr rfl) (Y3j (X9 (Z4 12)) (Y8) (Y8))) (Z9 (Q6 (i:=19) V3 rfl (by first | exact Or.inl rfl | exact Or.inr rfl) (Z13 (Z4x (h.callP K_Tool_becomes (by decide)) Fx.c_Tool Fx.m_Tool_becomes (Z4 0) (Z1 (Z4 18) (Z1 (Z4 6) (Z8)))) (V1))) (Z9 (Q6 (i:=17) V3 rfl (by first | exact Or.inl rfl | exact Or.inr rfl) (Y3j (Z0c h.eq (Z4 19) (V5 ["Tool"] Fx.at_Tool_blank (Z4 0))) (Z0o (Z1 (Z3e rfl Fx.s_NOBODY) (Z8))) (X7 (h.callP K_whose_then (by decide)) rfl Fx.g_whose_then K_whose_then.kp (Z1 (Z4 7) (Z1 (Z4 5) (Z1 (Z4 15) (Z8))))))) (Z9 (Q6 (i:=20) V3 rfl (by first | exact Or.inl rfl | exact Or.inr rfl) (Z4x (h.callP K_Tool_row_for (by decide)) Fx.c_Tool Fx.m_Tool_row_for (Z4 0) (Z1 (Z4 18) (Z1 (Z4 6) (Z8))))) (Y3 (W3 (Z7o (own:=[("one",22)]) (t:=(.nm 22)) rfl V3 (Z1c (Z4 17)) (blkOk_by (N:=Z4r) (sc:=defScope Z0y) (by decide +kernel)) (by decide) (fun _ _ _ _ _=>W0 (i:=22) V3 rfl (by first | exact Or.inl rfl | exact Or.inr rfl)) (fun _ _ _ _ _=>Z33) (fun _ _ _ _ _=>X7 ((h.blk _ _ _ _ _).make Y9s (n:=4) Fx.M_Step K_Step_init (by decide)) rfl Fx.g_Step Fx.M_Step.kp (Z1 (Q1 (Z1 (Y8) (Z1 (Z4 18) (Z8)))) (Z1 (Q1 (Z1 (Z4 19) (Z1 (Z4 22) (Z5c (Z4 14) (Z8))))) (Z1 (Z35) (Z1 (Z4 20) (Z8))))))))))))) (W5)) (Z9 (Q6 (i:=16) V3 rfl (by first | exact Or.inl rfl | exact Or.inr rfl) (Z5d (Z1 (X7 (h.make Y9s (n:=4) Fx.M_Step K_Step_init (by decide)) rfl Fx.g_Step Fx.M_Step.kp (Z1 (Q1 (Z1 (Y8) (Z1 (Y8) (Z8)))) (Z1 (Q1 (Z1 (Z4 6) (Z1 (Z3e rfl Fx.s_NOBODY) (Z5c (Z4 14) (Z8))))) (Z1 (Z35) (Z1 (Z35) (Z8)))))) (Z8)))) (Z9 (Z0b (X9 (Z4 13)) (Y3 (Z46 Z38 rfl (Z1c (Z4 3)) (W0 (i:=21) V3 rfl (by first | exact Or.inl rfl | exact Or.inr rfl)) (Y3 (Z1k (Z7p PySem.F.slot_list_extend PySem.F.type_list_extend mt_extend Y7t (Z4 16) (Z1 (X7 (h.callP K_carry_steps (by decide)) rfl Fx.g_carry_steps K_carry_steps.kp (Z1 (Z4 0) (Z1 (Z4 1) (Z1 (Z4 21) (Z1 (Z4 14) (Z8)))))) (Z8))))))) (W5)) (Y3 (W3 (Z4 16))))))))))
def Z6c:List Str:=["tool", "lets", "standing", "sources", "found", "here", "others"]
theorem Z4c:Z6c.Nodup:=by decide +kernel
theorem Y3p:FnScope Z6c ["tool", "lets", "standing", "sources"] (defScope Z04):=⟨rfl,rfl,rfl,Z4c,rfl,by decide +kernel,by decide +kernel⟩
def Z6e:MS:=Y2 (V6 4 (Q8 (Z7))) (Y2 (Z2o (.nm 5) (Q9 (V4 (Z0 (m_c (.bl false)) (Z0 (m_c (.bl true)) (Z7))))) (Z2o (.nm 6) (Q9 (V4 (Z0 (m_c (.bl false)) (Z0 (m_c (.bl true)) (Z7))))) (Z0k (Y6 (Y0 (Y9 4 (X5 [] (callP g_is_let))) (Z0 (Z3 1) (Z0 (Z3 2) (Z0 (Z3 5) (Z0 (Z3 6) (Z7))))))) (U1 (Z3b Q5 Z4w (Z3 4) (Z0 (Y0 (Y9 6 (X5 [] (callP g_editions_to))) (Z0 (Z3 0) (Z0 (Z3 1) (Z0 (Z3 2) (Z0 (Z3 3) (Z0 (Z3 5) (Z0 (Z3 6) (Z7)))))))) (Z7)))) (W7)))) (X6 (Z3 4)))
def g_edition_steps:List D→PR:=Z50 7 Z6e
include Fx in
theorem Y3m (K_is_let:Kept P HasW.w K mg base 1 (He.ga K "is_let") (spP K 4 g_is_let)) (K_editions_to:Kept P HasW.w K mg base 5 (He.ga K "editions_to") (spP K 6 g_editions_to)) (F:FunD K "edition_steps" "edition_steps" (defArgs Z04) (defBody Z04) (defScope Z04) dl [] f fd):FnG P HasW.w K mg base 6 f fd ["tool", "lets", "standing", "sources"] (spP K 4 g_edition_steps):=fnP F Y3p fun cdv A outer s H E gu room=>by
  have h:Here (cxB P HasW.w K mg base Z6c "edition_steps" (defScope Z04) f cdv A outer s H E) (wxE E) 5:=U8 gu room
  unfold Z6e
  exact Z9 (Q6 (i:=4) Z4c rfl (by first | exact Or.inl rfl | exact Or.inr rfl) (Z5d (Z8))) (Z9 (Z46 Z38 rfl (Z1c (Q1 (Z1 (V0) (Z1 (V0) (Z8))))) (W0 (i:=5) Z4c rfl (by first | exact Or.inl rfl | exact Or.inr rfl)) (Y3 (Z46 Z38 rfl (Z1c (Q1 (Z1 (V0) (Z1 (V0) (Z8))))) (W0 (i:=6) Z4c rfl (by first | exact Or.inl rfl | exact Or.inr rfl)) (Y3 (Z0b (X9 (X7 (h.callP K_is_let (by decide)) rfl Fx.g_is_let K_is_let.kp (Z1 (Z4 1) (Z1 (Z4 2) (Z1 (Z4 5) (Z1 (Z4 6) (Z8))))))) (Y3 (Z1k (Z7p PySem.F.slot_list_extend PySem.F.type_list_extend mt_extend Y7t (Z4 4) (Z1 (X7 (h.callP K_editions_to (by decide)) rfl Fx.g_editions_to K_editions_to.kp (Z1 (Z4 0) (Z1 (Z4 1) (Z1 (Z4 2) (Z1 (Z4 3) (Z1 (Z4 5) (Z1 (Z4 6) (Z8)))))))) (Z8))))) (W5)))))) (Y3 (W3 (Z4 4))))
def Y0e:List Str:=["tool", "lets", "standing", "sources"]
theorem Y9u:Y0e.Nodup:=by decide +kernel
theorem X0s:FnScope Y0e ["tool", "lets", "standing", "sources"] (defScope Z2w):=⟨rfl,rfl,rfl,Y9u,rfl,by decide +kernel,by decide +kernel⟩
def Y0k:MS:=X6 (Q7 (Z0a (Y0 (Y9 3 (X5 [] (callP g_delivery_steps))) (Z0 (Z3 0) (Z0 (Z3 1) (Z0 (Z3 2) (Z7))))) (Z0a (Y0 (Y9 2 (X5 [] (callP g_look_steps))) (Z0 (Z3 0) (Z0 (Z3 2) (Z7)))) (Z0a (Y0 (Y9 4 (X5 [] (callP g_edition_steps))) (Z0 (Z3 0) (Z0 (Z3 1) (Z0 (Z3 2) (Z0 (Z3 3) (Z7)))))) (Z7)))))
def g_all_steps:List D→PR:=Z50 4 Y0k
include Fx in
theorem X0c (K_delivery_steps:Kept P HasW.w K mg base 5 (He.ga K "delivery_steps") (spP K 3 g_delivery_steps)) (K_look_steps:Kept P HasW.w K mg base 5 (He.ga K "look_steps") (spP K 2 g_look_steps)) (K_edition_steps:Kept P HasW.w K mg base 6 (He.ga K "edition_steps") (spP K 4 g_edition_steps)) (F:FunD K "all_steps" "all_steps" (defArgs Z2w) (defBody Z2w) (defScope Z2w) dl [] f fd):FnG P HasW.w K mg base 7 f fd ["tool", "lets", "standing", "sources"] (spP K 4 g_all_steps):=fnP F X0s fun cdv A outer s H E gu room=>by
  have h:Here (cxB P HasW.w K mg base Y0e "all_steps" (defScope Z2w) f cdv A outer s H E) (wxE E) 6:=U8 gu room
  unfold Y0k
  exact Y3 (W3 (Z0o (Z5c (X7 (h.callP K_delivery_steps (by decide)) rfl Fx.g_delivery_steps K_delivery_steps.kp (Z1 (Z4 0) (Z1 (Z4 1) (Z1 (Z4 2) (Z8))))) (Z5c (X7 (h.callP K_look_steps (by decide)) rfl Fx.g_look_steps K_look_steps.kp (Z1 (Z4 0) (Z1 (Z4 2) (Z8)))) (Z5c (X7 (h.callP K_edition_steps (by decide)) rfl Fx.g_edition_steps K_edition_steps.kp (Z1 (Z4 0) (Z1 (Z4 1) (Z1 (Z4 2) (Z1 (Z4 3) (Z8)))))) (Z8))))))
def Z47:List Str:=["self", "standing", "sources", "other"]
theorem Z6u:Z47.Nodup:=by decide +kernel
theorem Y1q:FnScope Z47 ["self", "standing", "sources"] (defScope Z0p):=⟨rfl,rfl,rfl,Z6u,rfl,by decide +kernel,by decide +kernel⟩
def Z3t:MS:=Y2 (U1 (Z1n "Closure" "note" (Y9 3 (X5 [] Z1s)) (Z3 0) (Z0 (Z3 1) (Z0 (Y0 (Y9 4 (X5 [] (callP g_all_steps))) (Z0 (X4 ["Closure"] "maker" (Z3 0)) (Z0 (X4 ["Closure"] "lets" (Z3 0)) (Z0 (Z3 1) (Z0 (Z3 2) (Z7)))))) (Z7))))) (Y2 (Z2o (.nm 3) (Q9 (X4 ["Closure"] "resting" (Z3 0))) (U1 (Z1n "Closure" "note" (Y9 3 (X5 [] Z1s)) (Z3 0) (Z0 (Z3 3) (Z0 (Y0 (Y9 4 (X5 [] (callP g_edition_steps))) (Z0 (X4 ["Closure"] "maker" (Z3 0)) (Z0 (X4 ["Closure"] "lets" (Z3 0)) (Z0 (Z3 3) (Z0 (Q7 (Z0 (Z3 1) (Z7))) (Z7)))))) (Z7)))))) (Z0k (Q3 (Z0d (Y5 eqD (Z1m (Z3 1) (m_c (.int 0))) (X4 ["Tool"] "blank" (X4 ["Closure"] "maker" (Z3 0))))) (Q3 (W8 (Y6 (Z1m (Z3 1) (m_c (.int 2))))) (W8 (Y6 (Z1m (Z3 1) (m_c (.int 3))))))) (U1 (Z3b Q5 Q0 (X4 ["Closure"] "resting" (Z3 0)) (Z0 (Z3 1) (Z7)))) (W7)))
def Z2m:List X→Sto→R X:=X2f 4 Z3t
include Fx in
theorem Y1p (K_Closure_note:Kept P HasW.w K mg base 1 (He.ma K (He.ga K "Closure") "note") (spE K 3 Z1s)) (K_all_steps:Kept P HasW.w K mg base 7 (He.ga K "all_steps") (spP K 4 g_all_steps)) (K_edition_steps:Kept P HasW.w K mg base 6 (He.ga K "edition_steps") (spP K 4 g_edition_steps)) (F:FunD K "go_from" "Closure.go_from" (defArgs Z0p) (defBody Z0p) (defScope Z0p) dl [] f fd):FnG P HasW.w K mg base 8 f fd ["self", "standing", "sources"] (spE K 3 Z2m):=fnE F Y1q fun cdv A outer s H E gu room=>by
  have h:Here (cxB P HasW.w K mg base Z47 "Closure.go_from" (defScope Z0p) f cdv A outer s H E) (wxE E) 7:=U8 gu room
  unfold Z3t
  exact Z9 (Z1k (Z4x (h.callE K_Closure_note (by decide)) Fx.c_Closure Fx.m_Closure_note (Z4 0) (Z1 (Z4 1) (Z1 (X7 (h.callP K_all_steps (by decide)) rfl Fx.g_all_steps K_all_steps.kp (Z1 (V5 ["Closure"] Fx.at_Closure_maker (Z4 0)) (Z1 (V5 ["Closure"] Fx.at_Closure_lets (Z4 0)) (Z1 (Z4 1) (Z1 (Z4 2) (Z8)))))) (Z8))))) (Z9 (Z46 Z38 rfl (Z1c (V5 ["Closure"] Fx.at_Closure_resting (Z4 0))) (W0 (i:=3) Z6u rfl (by first | exact Or.inl rfl | exact Or.inr rfl)) (Y3 (Z1k (Z4x (h.callE K_Closure_note (by decide)) Fx.c_Closure Fx.m_Closure_note (Z4 0) (Z1 (Z4 3) (Z1 (X7 (h.callP K_edition_steps (by decide)) rfl Fx.g_edition_steps K_edition_steps.kp (Z1 (V5 ["Closure"] Fx.at_Closure_maker (Z4 0)) (Z1 (V5 ["Closure"] Fx.at_Closure_lets (Z4 0)) (Z1 (Z4 3) (Z1 (Z0o (Z1 (Z4 1) (Z8))) (Z8)))))) (Z8))))))) (Y3 (Z0b (Z6p (Z3z (Z0c h.eq (Z13 (Z4 1) (V1)) (V5 ["Tool"] Fx.at_Tool_blank (V5 ["Closure"] Fx.at_Closure_maker (Z4 0)))) (Z3z (Z0q (X9 (Z13 (Z4 1) (V1)))) (Z26 (Z0q (X9 (Z13 (Z4 1) (V1)))))))) (Y3 (Z1k (Z7p PySem.F.slot_list_append PySem.F.type_list_append mt_append Z2k (V5 ["Closure"] Fx.at_Closure_resting (Z4 0)) (Z1 (Z4 1) (Z8))))) (W5))))
def Z61:List Str:=["self", "tool", "lets", "begin", "at"]
theorem Z4z:Z61.Nodup:=by decide +kernel
theorem Y5d:FnScope Z61 ["self", "tool", "lets"] (defScope Z1e):=⟨rfl,rfl,rfl,Z4z,rfl,by decide +kernel,by decide +kernel⟩
def Z5h:MS:=Y2 (Z0s ["Closure"] "maker" (Z3 0) (Z3 1)) (Y2 (Z0s ["Closure"] "lets" (Z3 0) (Z3 2)) (Y2 (V6 3 (Y0 (Y9 1 (X5 [] (callP g_begun))) (Z0 (Z3 1) (Z7)))) (Y2 (Z0s ["Closure"] "order" (Z3 0) (Q8 (Z0 (Z3 3) (Z7)))) (Y2 (Z0s ["Closure"] "ahead" (Z3 0) (Y4q (Z3 3) (m_c .non))) (Y2 (Z0s ["Closure"] "rows_done" (Z3 0) (X1x)) (Y2 (Z0s ["Closure"] "resting" (Z3 0) (Q8 (Z7))) (Y2 (V6 4 (m_c (.int 0))) (Z7e (Z0d (Y5 ltD (Z3 4) (Y0 Z3i (Z0 (X4 ["Closure"] "order" (Z3 0)) (Z7))))) (Y2 (U1 (Z1n "Closure" "go_from" (Y9 3 (X5 [] Z2m)) (Z3 0) (Z0 (Z1m (X4 ["Closure"] "order" (Z3 0)) (Z3 4)) (Z0 (V8 (X4 ["Closure"] "order" (Z3 0)) (Z5n) (Q4 (Y5 Z8j (Z3 4) (m_c (.int 1))))) (Z7))))) (X2g 4 W98 (m_c (.int 1))))))))))))
def Z0w:List X→Sto→R X:=W94 5 Z5h
include Fx in
theorem Y42 (K_begun:Kept P HasW.w K mg base 1 (He.ga K "begun") (spP K 1 g_begun)) (K_Closure_go_from:Kept P HasW.w K mg base 8 (He.ma K (He.ga K "Closure") "go_from") (spE K 3 Z2m)) (F:FunD K "__init__" "Closure.__init__" (defArgs Z1e) (defBody Z1e) (defScope Z1e) dl [] f fd):FnG P HasW.w K mg base 9 f fd ["self", "tool", "lets"] (spE K 3 Z0w):=fnR F Y5d fun cdv A outer s H E gu room=>by
  have h:Here (cxB P HasW.w K mg base Z61 "Closure.__init__" (defScope Z1e) f cdv A outer s H E) (wxE E) 8:=U8 gu room
  unfold Z5h
  exact Z9 (Z4y ["Closure"] Fx.at_Closure_maker (Z4 0) (Z4 1)) (Z9 (Z4y ["Closure"] Fx.at_Closure_lets (Z4 0) (Z4 2)) (Z9 (Q6 (i:=3) Z4z rfl (by first | exact Or.inl rfl | exact Or.inr rfl) (X7 (h.callP K_begun (by decide)) rfl Fx.g_begun K_begun.kp (Z1 (Z4 1) (Z8)))) (Z9 (Z4y ["Closure"] Fx.at_Closure_order (Z4 0) (Z5d (Z1 (Z4 3) (Z8)))) (Z9 (Z4y ["Closure"] Fx.at_Closure_ahead (Z4 0) (X3w rfl h.u1 (Z4 3) (Z35))) (Z9 (Z4y ["Closure"] Fx.at_Closure_rows_done (Z4 0) (W0x)) (Z9 (Z4y ["Closure"] Fx.at_Closure_resting (Z4 0) (Z5d (Z8))) (Z9 (Q6 (i:=4) Z4z rfl (by first | exact Or.inl rfl | exact Or.inr rfl) (V1)) (Y3 (Y8d Z38 (Z0c h.lt (Z4 4) (Z2i Y0r Y0n rfl Fx.f_len (Z1 (V5 ["Closure"] Fx.at_Closure_order (Z4 0)) (Z8)))) (Z9 (Z1k (Z4x (h.callE K_Closure_go_from (by decide)) Fx.c_Closure Fx.m_Closure_go_from (Z4 0) (Z1 (Z13 (V5 ["Closure"] Fx.at_Closure_order (Z4 0)) (Z4 4)) (Z1 (Z16 (V5 ["Closure"] Fx.at_Closure_order (Z4 0)) (Z32) (Z3c (Z88 h.add (Z4 4) (V1)))) (Z8))))) (Y3 (W8j (i:=4) Z4z rfl (by first | exact Or.inl rfl | exact Or.inr rfl) (V1) ip_add W8s))))))))))))
def Z6d:List Str:=["lets", "one"]
theorem Z5q:Z6d.Nodup:=by decide +kernel
theorem X0v:FnScope Z6d ["lets"] (defScope Z1w):=⟨rfl,rfl,rfl,Z5q,rfl,by decide +kernel,by decide +kernel⟩
def Y0o:MS:=Y2 (Z0k (Z0i (W8 (Y6 (Y0 (Y9 1 (X5 [] (callP g_is_sequence))) (Z0 (Z3 0) (Z7))))) (Z0i (W8 (Y6 (Y0 (Y3q fun l=>l.all id) (Z0 (Z4p (.nm 1) (Q9 (Z3 0)) (Z0n) (Y0 (Y9 2 (X5 [] (callP g_is_word))) (Z0 (Z3 1) (Z0 (m_c (.tup ((["alike", "back", "late", "near"]:List Str).map D.str))) (Z7)))) [1]) (Z7))))) (W8 (Y6 (Y0 (Y9 1 (X5 [] (callP g_are_unlike))) (Z0 (Z3 0) (Z7))))))) (Z44) (W7)) (X6 (Y0 Y5r (Z0 (Z4p (.nm 1) (Q9 (m_c (.tup ((["alike", "back", "late", "near"]:List Str).map D.str)))) (Z0d (Y5 inD (Z3 1) (Z3 0))) (Z3 1) [1]) (Z7))))
def g_need_lets:List D→PR:=Z50 2 Y0o
include Fx in
theorem X0f (K_is_sequence:Kept P HasW.w K mg base 1 (He.ga K "is_sequence") (spP K 1 g_is_sequence)) (K_is_word:Kept P HasW.w K mg base 1 (He.ga K "is_word") (spP K 2 g_is_word)) (K_are_unlike:Kept P HasW.w K mg base 1 (He.ga K "are_unlike") (spP K 1 g_are_unlike)) (F:FunD K "need_lets" "need_lets" (defArgs Z1w) (defBody Z1w) (defScope Z1w) dl [] f fd):FnG P HasW.w K mg base 2 f fd ["lets"] (spP K 1 g_need_lets):=fnP F X0v fun cdv A outer s H E gu room=>by
  have h:Here (cxB P HasW.w K mg base Z6d "need_lets" (defScope Z1w) f cdv A outer s H E) (wxE E) 1:=U8 gu room
  unfold Y0o
  exact Z9 (Z0b (Z6p (Z36 (Z0q (X9 (X7 (h.callP K_is_sequence (by decide)) rfl Fx.g_is_sequence K_is_sequence.kp (Z1 (Z4 0) (Z8))))) (Z36 (Z0q (X9 (Z2i (cr_all rfl) Y5z rfl Fx.f_all (Z1 (Z7o (own:=[("one",1)]) (t:=(.nm 1)) rfl Z5q (Z1c (Z4 0)) (blkOk_by (N:=Z6d) (sc:=defScope Z1w) (by decide +kernel)) (by decide) (fun _ _ _ _ _=>W0 (i:=1) Z5q rfl (by first | exact Or.inl rfl | exact Or.inr rfl)) (fun _ _ _ _ _=>Z33) (fun _ _ _ _ _=>X7 ((h.blk _ _ _ _ _).callP K_is_word (by decide)) rfl Fx.g_is_word K_is_word.kp (Z1 (Z4 1) (Z1 (Y1d rfl Fx.g_LETS Fx.v_LETS) (Z8))))) (Z8))))) (Z2n (Z0q (X9 (X7 (h.callP K_are_unlike (by decide)) rfl Fx.g_are_unlike K_are_unlike.kp (Z1 (Z4 0) (Z8))))))))) (Y3 (Z5p)) (W5)) (Y3 (W3 (Z5o call_tuple_of Y86 rfl Fx.f_tuple (Z1 (Z7o (own:=[("one",1)]) (t:=(.nm 1)) rfl Z5q (Z1c (Y1d rfl Fx.g_LETS Fx.v_LETS)) (blkOk_by (N:=Z6d) (sc:=defScope Z1w) (by decide +kernel)) (by decide) (fun _ _ _ _ _=>W0 (i:=1) Z5q rfl (by first | exact Or.inl rfl | exact Or.inr rfl)) (fun _ _ _ _ _=>Y2m (Z0c (h.blk _ _ _ _ _).in_ (Z4 1) (Z4 0))) (fun _ _ _ _ _=>Z4 1)) (Z8)))))
def Y0h:List Str:=["tool", "lets"]
theorem Y9z:Y0h.Nodup:=by decide +kernel
theorem X0x:FnScope Y0h ["tool", "lets"] (defScope Z2z):=⟨rfl,rfl,rfl,Y9z,rfl,by decide +kernel,by decide +kernel⟩
def Y0q:MS:=X6 (Y0 Y5r (Z0 (Y0 Z89 (Z0 (X4 ["Closure"] "order" (Y0 (Y9 2 (X5 [] (made "Closure" mkM Z0w))) (Z0 (Z3 0) (Z0 (Y0 (Y9 1 (X5 [] (callP g_need_lets))) (Z0 (Z3 1) (Z7))) (Z7))))) (Z7))) (Z7)))
def g_standings:List D→PR:=Z50 2 Y0q
include Fx in
theorem X0h (K_Closure_init:Kept P HasW.w K mg base 9 (He.ma K (He.ga K "Closure") "__init__") (spE K 3 Z0w)) (K_need_lets:Kept P HasW.w K mg base 2 (He.ga K "need_lets") (spP K 1 g_need_lets)) (F:FunD K "standings" "standings" (defArgs Z2z) (defBody Z2z) (defScope Z2z) dl [] f fd):FnG P HasW.w K mg base 11 f fd ["tool", "lets"] (spP K 2 g_standings):=fnP F X0x fun cdv A outer s H E gu room=>by
  have h:Here (cxB P HasW.w K mg base Y0h "standings" (defScope Z2z) f cdv A outer s H E) (wxE E) 10:=U8 gu room
  unfold Y0q
  exact Y3 (W3 (Z5o call_tuple_of Y86 rfl Fx.f_tuple (Z1 (Z2i (X4u h.u65) X59 rfl Fx.f_sorted (Z1 (V5 ["Closure"] Fx.at_Closure_order (X7 (h.make W8i (n:=2) Fx.M_Closure K_Closure_init (by decide)) rfl Fx.g_Closure Fx.M_Closure.kp (Z1 (Z4 0) (Z1 (X7 (h.callP K_need_lets (by decide)) rfl Fx.g_need_lets K_need_lets.kp (Z1 (Z4 1) (Z8))) (Z8))))) (Z8))) (Z8))))
def Z8w:List Str:=["fault"]
theorem Y8g:Z8w.Nodup:=by decide +kernel
theorem Y8x:FnScope Z8w ["fault"] (defScope Z2e):=⟨rfl,rfl,rfl,Y8g,rfl,by decide +kernel,by decide +kernel⟩
def Z82:MS:=Z0k (W8 (Y6 (Y0 (Y9 2 (X5 [] (callP g_is_word))) (Z0 (Z3 0) (Z0 (m_c (.tup ((["again", "fallen", "lost", "strange", "stuck", "vain"]:List Str).map D.str))) (Z7)))))) (Z44) (W7)
def g_need_fault:List D→PR:=Z50 1 Z82
include Fx in
theorem Y8n (K_is_word:Kept P HasW.w K mg base 1 (He.ga K "is_word") (spP K 2 g_is_word)) (F:FunD K "need_fault" "need_fault" (defArgs Z2e) (defBody Z2e) (defScope Z2e) dl [] f fd):FnG P HasW.w K mg base 2 f fd ["fault"] (spP K 1 g_need_fault):=fnP F Y8x fun cdv A outer s H E gu room=>by
  have h:Here (cxB P HasW.w K mg base Z8w "need_fault" (defScope Z2e) f cdv A outer s H E) (wxE E) 1:=U8 gu room
  unfold Z82
  exact Y3 (Z0b (Z0q (X9 (X7 (h.callP K_is_word (by decide)) rfl Fx.g_is_word K_is_word.kp (Z1 (Z4 0) (Z1 (Y1d rfl Fx.g_FAULTS Fx.v_FAULTS) (Z8)))))) (Y3 (Z5p)) (W5))
def Z54:List Str:=["tool", "value", "mark", "whose", "here", "others", "was", "were", "one"]
theorem Z08:Z54.Nodup:=by decide +kernel
theorem Y6h:FnScope Z54 ["tool", "value"] (defScope Z1a):=⟨rfl,rfl,rfl,Z08,rfl,by decide +kernel,by decide +kernel⟩
def Z73:MS:=Y2 (Z0k (Z0i (W8 (Y6 (Z57 (Z7f "tuple") [("Row",false),("Tool",false)] (Z3 1)))) (Z0d (Y5 neD (Y0 Z3i (Z0 (Z3 1) (Z7))) (m_c (.int 6))))) (X6 (m_c (.bl false))) (W7)) (Y2 (Z14 (.tp [(.nm 2),(.nm 3),(.nm 4),(.nm 5),(.nm 6),(.nm 7)]) (Z3 1)) (Y2 (Z0k (Z0i (W8 (Y6 (Z57 (Z7f "str") [("Row",false),("Tool",false)] (Z3 2)))) (Z0i (Z0d (Y5 Y90 (Z3 2) (X4 ["Tool"] "marks" (Z3 0)))) (Z0i (W8 (Y6 (Z57 (Z7f "str") [("Row",false),("Tool",false)] (Z3 3)))) (Z0d (Y5 Y90 (Z3 3) (m_c (.tup ((["none", "mine", "theirs", "other"]:List Str).map D.str)))))))) (X6 (m_c (.bl false))) (W7)) (Y2 (Z0k (W8 (Y6 (Y0 (Y3q fun l=>l.all id) (Z0 (Z4p (.nm 8) (Q9 (V4 (Z0 (Z3 4) (Z0 (Z3 5) (Z0 (Z3 6) (Z0 (Z3 7) (Z7))))))) (Z0n) (Z57 (Z7f "bool") [("Row",false),("Tool",false)] (Z3 8)) [8]) (Z7))))) (X6 (m_c (.bl false))) (W7)) (Y2 (Z0k (Z0i (Z0d (Y5 neD (Y5 eqD (Z3 2) (X4 ["Tool"] "blank" (Z3 0))) (Y5 eqD (Z3 3) (m_c (.str "none"))))) (Q3 (Z0d (Y5 eqD (Z3 3) (m_c (.str "theirs")))) (W8 (Y6 (Z3 5))))) (X6 (m_c (.bl false))) (W7)) (X6 (Z1y (Z5k (Z3 6) (Z3h (Z3 4))) (Z5k (Z3 7) (Z3h (Z3 5)))))))))
def g_is_standing:List D→PR:=Z50 9 Z73
include Fx in
theorem Y58  (F:FunD K "is_standing" "is_standing" (defArgs Z1a) (defBody Z1a) (defScope Z1a) dl [] f fd):FnG P HasW.w K mg base 1 f fd ["tool", "value"] (spP K 2 g_is_standing):=fnP F Y6h fun cdv A outer s H E gu room=>by
  have h:Here (cxB P HasW.w K mg base Z54 "is_standing" (defScope Z1a) f cdv A outer s H E) (wxE E) 0:=U8 gu room
  unfold Z73
  exact Z9 (Z0b (Z6p (Z36 (Z0q (X9 (Z98 rfl Fx.f_isinstance (Z4 1) (X78 rfl Fx.f_tuple) Fx.is_tuple (.ty _)))) (Z2n (Z0c h.ne (Z2i Y0r Y0n rfl Fx.f_len (Z1 (Z4 1) (Z8))) (W2g rfl Fx.i_PARTS))))) (Y3 (W3 (V0))) (W5)) (Z9 (Z9e (Z4 1) (Z6t rfl (W9 (W0 (i:=2) Z08 rfl (by first | exact Or.inl rfl | exact Or.inr rfl)) (W9 (W0 (i:=3) Z08 rfl (by first | exact Or.inl rfl | exact Or.inr rfl)) (W9 (W0 (i:=4) Z08 rfl (by first | exact Or.inl rfl | exact Or.inr rfl)) (W9 (W0 (i:=5) Z08 rfl (by first | exact Or.inl rfl | exact Or.inr rfl)) (W9 (W0 (i:=6) Z08 rfl (by first | exact Or.inl rfl | exact Or.inr rfl)) (W9 (W0 (i:=7) Z08 rfl (by first | exact Or.inl rfl | exact Or.inr rfl)) (Z4k))))))))) (Z9 (Z0b (Z6p (Z36 (Z0q (X9 (Z98 rfl Fx.f_isinstance (Z4 2) (X78 rfl Fx.f_str) Fx.is_str (.ty _)))) (Z36 (Z0c h.nin (Z4 2) (V5 ["Tool"] Fx.at_Tool_marks (Z4 0))) (Z36 (Z0q (X9 (Z98 rfl Fx.f_isinstance (Z4 3) (X78 rfl Fx.f_str) Fx.is_str (.ty _)))) (Z2n (Z0c h.nin (Z4 3) (Y1d rfl Fx.g_WHOSE Fx.v_WHOSE))))))) (Y3 (W3 (V0))) (W5)) (Z9 (Z0b (Z0q (X9 (Z2i (cr_all rfl) Y5z rfl Fx.f_all (Z1 (Z7o (own:=[("one",8)]) (t:=(.nm 8)) rfl Z08 (Z1c (Q1 (Z1 (Z4 4) (Z1 (Z4 5) (Z1 (Z4 6) (Z1 (Z4 7) (Z8))))))) (blkOk_by (N:=Z54) (sc:=defScope Z1a) (by decide +kernel)) (by decide) (fun _ _ _ _ _=>W0 (i:=8) Z08 rfl (by first | exact Or.inl rfl | exact Or.inr rfl)) (fun _ _ _ _ _=>Z33) (fun _ _ _ _ _=>Z98 rfl Fx.f_isinstance (Z4 8) (X78 rfl Fx.f_bool) Fx.is_bool (.ty _))) (Z8))))) (Y3 (W3 (V0))) (W5)) (Z9 (Z0b (Z6p (Z36 (Z0c h.ne (Z2r h.eq (Z4 2) (V5 ["Tool"] Fx.at_Tool_blank (Z4 0))) (Z2r h.eq (Z4 3) (Y8))) (Z2n (Z6p (Z3z (Z0c h.eq (Z4 3) (Y8)) (Z26 (Z0q (X9 (Z4 5))))))))) (Y3 (W3 (V0))) (W5)) (Y3 (W3 (Z9d (Y0w (Z4 6) (Z3m (Y9r (Z4 4)))) (Z3m (Y0w (Z4 7) (Z3m (Y9r (Z4 5))))))))))))
def Y0f:List Str:=["tool", "lets", "known", "sources", "standing", "step"]
theorem Z6v:Y0f.Nodup:=by decide +kernel
theorem X0u:FnScope Y0f ["tool", "lets", "known"] (defScope Z2x):=⟨rfl,rfl,rfl,Z6v,rfl,by decide +kernel,by decide +kernel⟩
def Y0m:MS:=Y2 (V6 3 (Y0 Y2a (Z0 (Z3 2) (Z7)))) (Y2 (Z2o (.nm 4) (Y4j (Z3 2)) (Z2o (.nm 5) (Q9 (Y0 (Y9 4 (X5 [] (callP g_all_steps))) (Z0 (Z3 0) (Z0 (Z3 1) (Z0 (Z3 4) (Z0 (Z3 3) (Z7))))))) (Z0k (Z0d (Y2i true (X4 ["Step"] "later" (Z3 5)) (Z3 2))) (Z2h (m_c (.bl false))) (W7)))) (Z2h (m_c (.bl true))))
def g_is_closed:List X→Sto→R X:=X2f 6 Y0m
include Fx in
theorem X0e (K_all_steps:Kept P HasW.w K mg base 7 (He.ga K "all_steps") (spP K 4 g_all_steps)) (F:FunD K "is_closed" "is_closed" (defArgs Z2x) (defBody Z2x) (defScope Z2x) dl [] f fd):FnG P HasW.w K mg base 8 f fd ["tool", "lets", "known"] (spE K 3 g_is_closed):=fnE F X0u fun cdv A outer s H E gu room=>by
  have h:Here (cxB P HasW.w K mg base Y0f "is_closed" (defScope Z2x) f cdv A outer s H E) (wxE E) 7:=U8 gu room
  unfold Y0m
  exact Z9 (Q6 (i:=3) Z6v rfl (by first | exact Or.inl rfl | exact Or.inr rfl) (Z5o (X25 rfl rfl) X57 rfl Fx.f_list (Z1 (Z4 2) (Z8)))) (Z9 (Z46 Z38 rfl (W0y (Z4 2)) (W0 (i:=4) Z6v rfl (by first | exact Or.inl rfl | exact Or.inr rfl)) (Y3 (Z46 Z38 rfl (Z1c (X7 (h.callP K_all_steps (by decide)) rfl Fx.g_all_steps K_all_steps.kp (Z1 (Z4 0) (Z1 (Z4 1) (Z1 (Z4 4) (Z1 (Z4 3) (Z8))))))) (W0 (i:=5) Z6v rfl (by first | exact Or.inl rfl | exact Or.inr rfl)) (Y3 (Z0b (Y8e rfl h.u1 (V5 ["Step"] Fx.at_Step_later (Z4 5)) (Z4 2)) (Y3 (Y61 (V0))) (W5)))))) (Y3 (Y61 (V0))))
def Y0g:List Str:=["tool", "mark", "whose"]
theorem Y9y:Y0g.Nodup:=by decide +kernel
theorem X0w:FnScope Y0g ["tool", "mark", "whose"] (defScope Z2y):=⟨rfl,rfl,rfl,Y9y,rfl,by decide +kernel,by decide +kernel⟩
def Y0p:MS:=X6 (Z1y (Y5 inD (Z3 1) (X4 ["Tool"] "shown" (Z3 0))) (Y5 eqD (Z3 2) (m_c (.str "mine"))))
def g_shows_own:List D→PR:=Z50 3 Y0p
include Fx in
theorem X0g  (F:FunD K "shows_own" "shows_own" (defArgs Z2y) (defBody Z2y) (defScope Z2y) dl [] f fd):FnG P HasW.w K mg base 1 f fd ["tool", "mark", "whose"] (spP K 3 g_shows_own):=fnP F X0w fun cdv A outer s H E gu room=>by
  have h:Here (cxB P HasW.w K mg base Y0g "shows_own" (defScope Z2y) f cdv A outer s H E) (wxE E) 0:=U8 gu room
  unfold Y0p
  exact Y3 (W3 (Z9d (Z2r h.in_ (Z4 1) (V5 ["Tool"] Fx.at_Tool_shown (Z4 0))) (Z3m (Z2r h.eq (Z4 2) (Z3e rfl Fx.s_MINE)))))
def Y12:List Str:=["tool", "mark", "whose", "known", "waiting", "one", "text", "standing", "some", "step", "pair"]
theorem Z3n:Y12.Nodup:=by decide +kernel
theorem X2l:FnScope Y12 ["tool", "mark", "whose"] (defScope Z3r):=⟨rfl,rfl,rfl,Z3n,rfl,by decide +kernel,by decide +kernel⟩
def Y16:MS:=Y2 (Z2j 3 4 (Z0 (Y4q (V4 (Z0 (Z3 1) (Z0 (Z3 2) (Z7)))) (m_c (.bl true))) (Z0 (Q8 (Z0 (V4 (Z0 (Z3 1) (Z0 (Z3 2) (Z7)))) (Z7))) (Z7)))) (Y2 (Z7e (Z0d (Y5 gtD (Y0 Z3i (Z0 (Z3 4) (Z7))) (m_c (.int 0)))) (Y2 (Z14 (.tp [(.nm 5),(.nm 6)]) (Z3b Q5 Z8n (Z3 4) Z7)) (Y2 (Z0k (Y6 (Y0 (Y9 3 (X5 [] (callP g_shows_own))) (Z0 (Z3 0) (Z0 (Z3 5) (Z0 (Z3 6) (Z7)))))) (X6 (m_c (.bl false))) (W7)) (Y2 (V6 7 (V4 (Z0 (Z3 5) (Z0 (Z3 6) (Z0 (m_c (.bl true)) (Z0 (m_c (.bl false)) (Z0 (m_c (.bl true)) (Z0 (m_c (.bl false)) (Z7))))))))) (Y2 (V6 8 (Q8 (Z0 (Y0 (Y9 4 (X5 [] (callP g_given_step))) (Z0 (Z3 0) (Z0 (Z3 7) (Z0 (V4 (Z7)) (Z0 (m_c (.str "mine")) (Z7)))))) (Z7)))) (Y2 (Z0k (Z0d (Y5 neD (Z3 5) (X4 ["Tool"] "blank" (Z3 0)))) (U1 (Z3b Q5 Q0 (Z3 8) (Z0 (Y0 (Y9 4 (X5 [] (callP g_looked_step))) (Z0 (Z3 0) (Z0 (Z3 7) (Z0 (V4 (Z7)) (Z0 (Y5 eqD (Z3 6) (m_c (.str "mine"))) (Z7)))))) (Z7)))) (W7)) (Z2o (.nm 9) (Q9 (Z3 8)) (Y2 (V6 10 (V8 (X4 ["Step"] "later" (Z3 9)) (Z5n) (Q4 (m_c (.int 2))))) (Z0k (Z0d (Y2i true (Z3 10) (Z3 3))) (Y2 (Y5c (Z3 3) (Z3 10) (m_c (.bl true))) (U1 (Z3b Q5 Q0 (Z3 4) (Z0 (Z3 10) (Z7))))) (W7)))))))))) (X6 (m_c (.bl true))))
def g_is_stuck:List D→PR:=Z50 11 Y16
include Fx in
theorem X2c (K_shows_own:Kept P HasW.w K mg base 1 (He.ga K "shows_own") (spP K 3 g_shows_own)) (K_given_step:Kept P HasW.w K mg base 4 (He.ga K "given_step") (spP K 4 g_given_step)) (K_looked_step:Kept P HasW.w K mg base 4 (He.ga K "looked_step") (spP K 4 g_looked_step)) (F:FunD K "is_stuck" "is_stuck" (defArgs Z3r) (defBody Z3r) (defScope Z3r) dl [] f fd):FnG P HasW.w K mg base 5 f fd ["tool", "mark", "whose"] (spP K 3 g_is_stuck):=fnP F X2l fun cdv A outer s H E gu room=>by
  have h:Here (cxB P HasW.w K mg base Y12 "is_stuck" (defScope Z3r) f cdv A outer s H E) (wxE E) 4:=U8 gu room
  unfold Y16
  exact Z9 (Y4u rfl Z3n (i:=3) (j:=4) rfl rfl (by decide) rfl rfl (Z1 (X3w rfl h.u1 (Q1 (Z1 (Z4 1) (Z1 (Z4 2) (Z8)))) (V0)) (Z1 (Z5d (Z1 (Q1 (Z1 (Z4 1) (Z1 (Z4 2) (Z8)))) (Z8))) (Z8)))) (Z9 (Y8d Z38 (Z0c h.gt (Z2i Y0r Y0n rfl Fx.f_len (Z1 (Z4 4) (Z8))) (V1)) (Z9 (Z9e (X7p PySem.F.slot_list_pop PySem.F.type_list_pop mt_pop X58 (Z4 4)) (Z6t rfl (W9 (W0 (i:=5) Z3n rfl (by first | exact Or.inl rfl | exact Or.inr rfl)) (W9 (W0 (i:=6) Z3n rfl (by first | exact Or.inl rfl | exact Or.inr rfl)) (Z4k))))) (Z9 (Z0b (X9 (X7 (h.callP K_shows_own (by decide)) rfl Fx.g_shows_own K_shows_own.kp (Z1 (Z4 0) (Z1 (Z4 5) (Z1 (Z4 6) (Z8)))))) (Y3 (W3 (V0))) (W5)) (Z9 (Q6 (i:=7) Z3n rfl (by first | exact Or.inl rfl | exact Or.inr rfl) (Q1 (Z1 (Z4 5) (Z1 (Z4 6) (Z1 (V0) (Z1 (V0) (Z1 (V0) (Z1 (V0) (Z8))))))))) (Z9 (Q6 (i:=8) Z3n rfl (by first | exact Or.inl rfl | exact Or.inr rfl) (Z5d (Z1 (X7 (h.callP K_given_step (by decide)) rfl Fx.g_given_step K_given_step.kp (Z1 (Z4 0) (Z1 (Z4 7) (Z1 (Q1 (Z8)) (Z1 (Z3e rfl Fx.s_MINE) (Z8)))))) (Z8)))) (Z9 (Z0b (Z0c h.ne (Z4 5) (V5 ["Tool"] Fx.at_Tool_blank (Z4 0))) (Y3 (Z1k (Z7p PySem.F.slot_list_append PySem.F.type_list_append mt_append Z2k (Z4 8) (Z1 (X7 (h.callP K_looked_step (by decide)) rfl Fx.g_looked_step K_looked_step.kp (Z1 (Z4 0) (Z1 (Z4 7) (Z1 (Q1 (Z8)) (Z1 (Z2r h.eq (Z4 6) (Z3e rfl Fx.s_MINE)) (Z8)))))) (Z8))))) (W5)) (Y3 (Z46 Z38 rfl (Z1c (Z4 8)) (W0 (i:=9) Z3n rfl (by first | exact Or.inl rfl | exact Or.inr rfl)) (Z9 (Q6 (i:=10) Z3n rfl (by first | exact Or.inl rfl | exact Or.inr rfl) (Z16 (V5 ["Step"] Fx.at_Step_later (Z4 9)) (Z32) (Z3c (V1)))) (Y3 (Z0b (Y8e rfl h.u1 (Z4 10) (Z4 3)) (Z9 (X7y rfl h.u1 (Z4 3) (Z4 10) (V0)) (Y3 (Z1k (Z7p PySem.F.slot_list_append PySem.F.type_list_append mt_append Z2k (Z4 4) (Z1 (Z4 10) (Z8)))))) (W5)))))))))))) (Y3 (W3 (V0))))
def Z7x:List Str:=["tool", "fault", "standing", "mark", "whose", "here"]
theorem Z5l:Z7x.Nodup:=by decide +kernel
theorem Y6k:FnScope Z7x ["tool", "fault", "standing"] (defScope Z1x):=⟨rfl,rfl,rfl,Z5l,rfl,by decide +kernel,by decide +kernel⟩
def Z76:MS:=Y2 (Z14 (.tp [(.nm 3),(.nm 4),(.nm 5)]) (V8 (Z3 2) (Z5n) (Q4 (m_c (.int 3))))) (Y2 (Z0k (W8 (Y6 (Z3 5))) (X6 (m_c (.bl false))) (W7)) (Y2 (Z0k (Z0d (Y5 eqD (Z3 1) (m_c (.str "strange")))) (X6 (Z1y (Y5 inD (Z3 3) (X4 ["Tool"] "shown" (Z3 0))) (Y0 (Y9 1 (X5 [] (callP g_is_of_others))) (Z0 (Z3 4) (Z7))))) (W7)) (Y2 (Z0k (Z0d (Y5 eqD (Z3 1) (m_c (.str "again")))) (X6 (Z1y (Y5 inD (Z3 3) (X4 ["Tool"] "asked" (Z3 0))) (Y5 eqD (Z3 4) (m_c (.str "mine"))))) (W7)) (X6 (Z1y (Y5 eqD (Z3 1) (m_c (.str "stuck"))) (Y0 (Y9 3 (X5 [] (callP g_is_stuck))) (Z0 (Z3 0) (Z0 (Z3 3) (Z0 (Z3 4) (Z7))))))))))
def g_shows_fault:List D→PR:=Z50 6 Z76
include Fx in
theorem Y6b (K_is_of_others:Kept P HasW.w K mg base 1 (He.ga K "is_of_others") (spP K 1 g_is_of_others)) (K_is_stuck:Kept P HasW.w K mg base 5 (He.ga K "is_stuck") (spP K 3 g_is_stuck)) (F:FunD K "shows_fault" "shows_fault" (defArgs Z1x) (defBody Z1x) (defScope Z1x) dl [] f fd):FnG P HasW.w K mg base 6 f fd ["tool", "fault", "standing"] (spP K 3 g_shows_fault):=fnP F Y6k fun cdv A outer s H E gu room=>by
  have h:Here (cxB P HasW.w K mg base Z7x "shows_fault" (defScope Z1x) f cdv A outer s H E) (wxE E) 5:=U8 gu room
  unfold Z76
  exact Z9 (Z9e (Z16 (Z4 2) (Z32) (Z3c (V1))) (Z6t rfl (W9 (W0 (i:=3) Z5l rfl (by first | exact Or.inl rfl | exact Or.inr rfl)) (W9 (W0 (i:=4) Z5l rfl (by first | exact Or.inl rfl | exact Or.inr rfl)) (W9 (W0 (i:=5) Z5l rfl (by first | exact Or.inl rfl | exact Or.inr rfl)) (Z4k)))))) (Z9 (Z0b (Z0q (X9 (Z4 5))) (Y3 (W3 (V0))) (W5)) (Z9 (Z0b (Z0c h.eq (Z4 1) (Y8)) (Y3 (W3 (Z9d (Z2r h.in_ (Z4 3) (V5 ["Tool"] Fx.at_Tool_shown (Z4 0))) (Z3m (X7 (h.callP K_is_of_others (by decide)) rfl Fx.g_is_of_others K_is_of_others.kp (Z1 (Z4 4) (Z8))))))) (W5)) (Z9 (Z0b (Z0c h.eq (Z4 1) (Y8)) (Y3 (W3 (Z9d (Z2r h.in_ (Z4 3) (V5 ["Tool"] Fx.at_Tool_asked (Z4 0))) (Z3m (Z2r h.eq (Z4 4) (Z3e rfl Fx.s_MINE)))))) (W5)) (Y3 (W3 (Z9d (Z2r h.eq (Z4 1) (Y8)) (Z3m (X7 (h.callP K_is_stuck (by decide)) rfl Fx.g_is_stuck K_is_stuck.kp (Z1 (Z4 0) (Z1 (Z4 3) (Z1 (Z4 4) (Z8))))))))))))
def Z39:List Str:=["tool", "lets", "fault", "standing", "mark", "whose", "here", "some", "step"]
theorem Z0j:Z39.Nodup:=by decide +kernel
theorem Y2v:FnScope Z39 ["tool", "lets", "fault", "standing"] (defScope Z0l):=⟨rfl,rfl,rfl,Z0j,rfl,by decide +kernel,by decide +kernel⟩
def Z5x:MS:=Y2 (Z14 (.tp [(.nm 4),(.nm 5),(.nm 6)]) (V8 (Z3 3) (Z5n) (Q4 (m_c (.int 3))))) (Y2 (Z0k (W8 (Y6 (Z3 6))) (X6 (Q7 (Z7))) (W7)) (Y2 (V6 7 (Q7 (Z7))) (Y2 (Z0k (Z0d (Y5 eqD (Z3 2) (m_c (.str "vain")))) (V6 7 (Q7 (Z0 (Y0 (Y9 4 (X5 [] (callP g_given_step))) (Z0 (Z3 0) (Z0 (Z3 3) (Z0 (V4 (Z0 (m_c (.str "give")) (Z0 (m_c (.str "mine")) (Z7)))) (Z0 (m_c (.str "mine")) (Z7)))))) (Z7)))) (Z0k (Q3 (Z0d (Y5 eqD (Z3 2) (m_c (.str "fallen")))) (Y6 (Y0 (Y9 3 (X5 [] (callP g_shows_own))) (Z0 (Z3 0) (Z0 (Z3 4) (Z0 (Z3 5) (Z7))))))) (V6 7 (Y5 Z8j (Y0 (Y9 3 (X5 [] (callP g_delivery_steps))) (Z0 (Z3 0) (Z0 (Z3 1) (Z0 (Z3 3) (Z7))))) (Y0 (Y9 2 (X5 [] (callP g_look_steps))) (Z0 (Z3 0) (Z0 (Z3 3) (Z7)))))) (W7))) (X6 (Z4p (.nm 8) (Q9 (Z3 7)) (W8 (Y6 (Y0 (Y9 3 (X5 [] (callP g_shows_own))) (Z0 (Z3 0) (Z0 (Z1m (X4 ["Step"] "later" (Z3 8)) (m_c (.int 0))) (Z0 (Z1m (X4 ["Step"] "later" (Z3 8)) (m_c (.int 1))) (Z7))))))) (Z3 8) [8])))))
def g_steps_to_fault:List D→PR:=Z50 9 Z5x
include Fx in
theorem Y2p (K_given_step:Kept P HasW.w K mg base 4 (He.ga K "given_step") (spP K 4 g_given_step)) (K_shows_own:Kept P HasW.w K mg base 1 (He.ga K "shows_own") (spP K 3 g_shows_own)) (K_delivery_steps:Kept P HasW.w K mg base 5 (He.ga K "delivery_steps") (spP K 3 g_delivery_steps)) (K_look_steps:Kept P HasW.w K mg base 5 (He.ga K "look_steps") (spP K 2 g_look_steps)) (F:FunD K "steps_to_fault" "steps_to_fault" (defArgs Z0l) (defBody Z0l) (defScope Z0l) dl [] f fd):FnG P HasW.w K mg base 6 f fd ["tool", "lets", "fault", "standing"] (spP K 4 g_steps_to_fault):=fnP F Y2v fun cdv A outer s H E gu room=>by
  have h:Here (cxB P HasW.w K mg base Z39 "steps_to_fault" (defScope Z0l) f cdv A outer s H E) (wxE E) 5:=U8 gu room
  unfold Z5x
  exact Z9 (Z9e (Z16 (Z4 3) (Z32) (Z3c (V1))) (Z6t rfl (W9 (W0 (i:=4) Z0j rfl (by first | exact Or.inl rfl | exact Or.inr rfl)) (W9 (W0 (i:=5) Z0j rfl (by first | exact Or.inl rfl | exact Or.inr rfl)) (W9 (W0 (i:=6) Z0j rfl (by first | exact Or.inl rfl | exact Or.inr rfl)) (Z4k)))))) (Z9 (Z0b (Z0q (X9 (Z4 6))) (Y3 (W3 (Z0o (Z8)))) (W5)) (Z9 (Q6 (i:=7) Z0j rfl (by first | exact Or.inl rfl | exact Or.inr rfl) (Z0o (Z8))) (Z9 (Z0b (Z0c h.eq (Z4 2) (Y8)) (Y3 (Q6 (i:=7) Z0j rfl (by first | exact Or.inl rfl | exact Or.inr rfl) (Z0o (Z1 (X7 (h.callP K_given_step (by decide)) rfl Fx.g_given_step K_given_step.kp (Z1 (Z4 0) (Z1 (Z4 3) (Z1 (Q1 (Z1 (Y8) (Z1 (Y8) (Z8)))) (Z1 (Z3e rfl Fx.s_MINE) (Z8)))))) (Z8))))) (Y3 (Z0b (Z6p (Z3z (Z0c h.eq (Z4 2) (Y8)) (Z26 (X9 (X7 (h.callP K_shows_own (by decide)) rfl Fx.g_shows_own K_shows_own.kp (Z1 (Z4 0) (Z1 (Z4 4) (Z1 (Z4 5) (Z8))))))))) (Y3 (Q6 (i:=7) Z0j rfl (by first | exact Or.inl rfl | exact Or.inr rfl) (Z88 h.add (X7 (h.callP K_delivery_steps (by decide)) rfl Fx.g_delivery_steps K_delivery_steps.kp (Z1 (Z4 0) (Z1 (Z4 1) (Z1 (Z4 3) (Z8))))) (X7 (h.callP K_look_steps (by decide)) rfl Fx.g_look_steps K_look_steps.kp (Z1 (Z4 0) (Z1 (Z4 3) (Z8))))))) (W5)))) (Y3 (W3 (Z7o (own:=[("step",8)]) (t:=(.nm 8)) rfl Z0j (Z1c (Z4 7)) (blkOk_by (N:=Z39) (sc:=defScope Z0l) (by decide +kernel)) (by decide) (fun _ _ _ _ _=>W0 (i:=8) Z0j rfl (by first | exact Or.inl rfl | exact Or.inr rfl)) (fun _ _ _ _ _=>Y2m (Z0q (X9 (X7 ((h.blk _ _ _ _ _).callP K_shows_own (by decide)) rfl Fx.g_shows_own K_shows_own.kp (Z1 (Z4 0) (Z1 (Z13 (V5 ["Step"] Fx.at_Step_later (Z4 8)) (V1)) (Z1 (Z13 (V5 ["Step"] Fx.at_Step_later (Z4 8)) (V1)) (Z8)))))))) (fun _ _ _ _ _=>Z4 8)))))))
def Z65:List Str:=["tool", "lets", "standing", "mark", "whose", "here"]
theorem Z41:Z65.Nodup:=by decide +kernel
theorem Y5h:FnScope Z65 ["tool", "lets", "standing"] (defScope Z1i):=⟨rfl,rfl,rfl,Z41,rfl,by decide +kernel,by decide +kernel⟩
def Z68:MS:=Y2 (Z14 (.tp [(.nm 3),(.nm 4),(.nm 5)]) (V8 (Z3 2) (Z5n) (Q4 (m_c (.int 3))))) (Y2 (Z0k (Z0i (W8 (Y6 (Z3 5))) (Z0d (Y5 neD (Z3 4) (m_c (.str "mine"))))) (X6 (m_c (.bl false))) (W7)) (X6 (Z5k (Y5 inD (m_c (.str "alike")) (Z3 1)) (Z5k (Y5 inD (m_c (.str "near")) (Z3 1)) (Y5 eqD (Z1m (Z1n "Tool" "becomes" (Y9 3 (X5 [] (callP U5))) (Z3 0) (Z0 (m_c (.str "carry")) (Z0 (Z3 3) (Z7)))) (m_c (.int 0))) (X4 ["Tool"] "blank" (Z3 0)))))))
def g_is_lost_from:List D→PR:=Z50 6 Z68
include Fx in
theorem Y46 (K_Tool_becomes:Kept P HasW.w K mg base 3 (He.ma K (He.ga K "Tool") "becomes") (spP K 3 U5)) (F:FunD K "is_lost_from" "is_lost_from" (defArgs Z1i) (defBody Z1i) (defScope Z1i) dl [] f fd):FnG P HasW.w K mg base 4 f fd ["tool", "lets", "standing"] (spP K 3 g_is_lost_from):=fnP F Y5h fun cdv A outer s H E gu room=>by
  have h:Here (cxB P HasW.w K mg base Z65 "is_lost_from" (defScope Z1i) f cdv A outer s H E) (wxE E) 3:=U8 gu room
  unfold Z68
  exact Z9 (Z9e (Z16 (Z4 2) (Z32) (Z3c (V1))) (Z6t rfl (W9 (W0 (i:=3) Z41 rfl (by first | exact Or.inl rfl | exact Or.inr rfl)) (W9 (W0 (i:=4) Z41 rfl (by first | exact Or.inl rfl | exact Or.inr rfl)) (W9 (W0 (i:=5) Z41 rfl (by first | exact Or.inl rfl | exact Or.inr rfl)) (Z4k)))))) (Z9 (Z0b (Z6p (Z36 (Z0q (X9 (Z4 5))) (Z2n (Z0c h.ne (Z4 4) (Z3e rfl Fx.s_MINE))))) (Y3 (W3 (V0))) (W5)) (Y3 (W3 (Y0w (Z2r h.in_ (Y8) (Z4 1)) (Y0w (Z2r h.in_ (Y8) (Z4 1)) (Z3m (Z2r h.eq (Z13 (Z4x (h.callP K_Tool_becomes (by decide)) Fx.c_Tool Fx.m_Tool_becomes (Z4 0) (Z1 (Y8) (Z1 (Z4 3) (Z8)))) (V1)) (V5 ["Tool"] Fx.at_Tool_blank (Z4 0)))))))))
def Y7m:List Str:=["tool", "lets", "fault", "standings", "standing"]
theorem Y9w:Y7m.Nodup:=by decide +kernel
theorem X8o:FnScope Y7m ["tool", "lets", "fault", "standings"] (defScope Z5t):=⟨rfl,rfl,rfl,Y9w,rfl,by decide +kernel,by decide +kernel⟩
def Y7v:MS:=Y2 (Z2o (.nm 4) (Q9 (Z3 3)) (Y2 (Z0k (Z0i (Y6 (Y0 (Y9 3 (X5 [] (callP g_shows_fault))) (Z0 (Z3 0) (Z0 (Z3 2) (Z0 (Z3 4) (Z7)))))) (Z0d (Y5 gtD (Y0 Z3i (Z0 (Y0 (Y9 4 (X5 [] (callP g_steps_to_fault))) (Z0 (Z3 0) (Z0 (Z3 1) (Z0 (Z3 2) (Z0 (Z3 4) (Z7)))))) (Z7))) (m_c (.int 0))))) (X6 (m_c (.bl true))) (W7)) (Z0k (Q3 (Z0d (Y5 eqD (Z3 2) (m_c (.str "lost")))) (Y6 (Y0 (Y9 3 (X5 [] (callP g_is_lost_from))) (Z0 (Z3 0) (Z0 (Z3 1) (Z0 (Z3 4) (Z7))))))) (X6 (m_c (.bl true))) (W7)))) (X6 (m_c (.bl false)))
def g_is_met:List D→PR:=Z50 5 Y7v
include Fx in
theorem X75 (K_shows_fault:Kept P HasW.w K mg base 6 (He.ga K "shows_fault") (spP K 3 g_shows_fault)) (K_steps_to_fault:Kept P HasW.w K mg base 6 (He.ga K "steps_to_fault") (spP K 4 g_steps_to_fault)) (K_is_lost_from:Kept P HasW.w K mg base 4 (He.ga K "is_lost_from") (spP K 3 g_is_lost_from)) (F:FunD K "is_met" "is_met" (defArgs Z5t) (defBody Z5t) (defScope Z5t) dl [] f fd):FnG P HasW.w K mg base 7 f fd ["tool", "lets", "fault", "standings"] (spP K 4 g_is_met):=fnP F X8o fun cdv A outer s H E gu room=>by
  have h:Here (cxB P HasW.w K mg base Y7m "is_met" (defScope Z5t) f cdv A outer s H E) (wxE E) 6:=U8 gu room
  unfold Y7v
  exact Z9 (Z46 Z38 rfl (Z1c (Z4 3)) (W0 (i:=4) Y9w rfl (by first | exact Or.inl rfl | exact Or.inr rfl)) (Z9 (Z0b (Z6p (Z36 (X9 (X7 (h.callP K_shows_fault (by decide)) rfl Fx.g_shows_fault K_shows_fault.kp (Z1 (Z4 0) (Z1 (Z4 2) (Z1 (Z4 4) (Z8)))))) (Z2n (Z0c h.gt (Z2i Y0r Y0n rfl Fx.f_len (Z1 (X7 (h.callP K_steps_to_fault (by decide)) rfl Fx.g_steps_to_fault K_steps_to_fault.kp (Z1 (Z4 0) (Z1 (Z4 1) (Z1 (Z4 2) (Z1 (Z4 4) (Z8)))))) (Z8))) (V1))))) (Y3 (W3 (V0))) (W5)) (Y3 (Z0b (Z6p (Z3z (Z0c h.eq (Z4 2) (Y8)) (Z26 (X9 (X7 (h.callP K_is_lost_from (by decide)) rfl Fx.g_is_lost_from K_is_lost_from.kp (Z1 (Z4 0) (Z1 (Z4 1) (Z1 (Z4 4) (Z8))))))))) (Y3 (W3 (V0))) (W5))))) (Y3 (W3 (V0)))
def Z4s:List Str:=["tool", "lets", "fault", "value", "kept", "known", "standing", "one"]
theorem Z29:Z4s.Nodup:=by decide +kernel
theorem Y6j:FnScope Z4s ["tool", "lets", "fault", "value"] (defScope Z0z):=⟨rfl,rfl,rfl,Z29,rfl,by decide +kernel,by decide +kernel⟩
def Z75:MS:=Y2 (V6 4 (Y0 (Y9 1 (X5 [] (callP g_need_lets))) (Z0 (Z3 1) (Z7)))) (Y2 (U1 (Y0 (Y9 1 (X5 [] (callP g_need_fault))) (Z0 (Z3 2) (Z7)))) (Y2 (Z0k (Z0i (W8 (Y6 (Z57 (Z7f "tuple") [("Row",false),("Tool",false)] (Z3 3)))) (W8 (Y6 (Y0 (Y3q fun l=>l.all id) (Z0 (Z4p (.nm 7) (Q9 (Z3 3)) (Z0n) (Y0 (Y9 2 (X5 [] (callP g_is_standing))) (Z0 (Z3 0) (Z0 (Z3 7) (Z7)))) [7]) (Z7)))))) (X6 (m_c (.bl false))) (W7)) (Y2 (V6 5 (X7k (.nm 6) (Q9 (Z3 3)) (Z0n) (Z3 6) (m_c (.bl true)) [6])) (Y2 (Z0k (Z0i (Z0d (Y2i true (Y0 (Y9 1 (X5 [] (callP g_begun))) (Z0 (Z3 0) (Z7))) (Z3 5))) (W8 (Y6 (Y0 (Y9 3 (X5 [] g_is_closed)) (Z0 (Z3 0) (Z0 (Z3 4) (Z0 (Z3 5) (Z7)))))))) (X6 (m_c (.bl false))) (W7)) (X6 (Z3h (Y0 (Y9 4 (X5 [] (callP g_is_met))) (Z0 (Z3 0) (Z0 (Z3 4) (Z0 (Z3 2) (Z0 (Y0 Y2a (Z0 (Z3 5) (Z7))) (Z7))))))))))))
def g_paper_holds:List D→PR:=Z50 8 Z75
include Fx in
theorem Y6a (K_need_lets:Kept P HasW.w K mg base 2 (He.ga K "need_lets") (spP K 1 g_need_lets)) (K_need_fault:Kept P HasW.w K mg base 2 (He.ga K "need_fault") (spP K 1 g_need_fault)) (K_is_standing:Kept P HasW.w K mg base 1 (He.ga K "is_standing") (spP K 2 g_is_standing)) (K_begun:Kept P HasW.w K mg base 1 (He.ga K "begun") (spP K 1 g_begun)) (K_is_closed:Kept P HasW.w K mg base 8 (He.ga K "is_closed") (spE K 3 g_is_closed)) (K_is_met:Kept P HasW.w K mg base 7 (He.ga K "is_met") (spP K 4 g_is_met)) (F:FunD K "paper_holds" "paper_holds" (defArgs Z0z) (defBody Z0z) (defScope Z0z) dl [] f fd):FnG P HasW.w K mg base 9 f fd ["tool", "lets", "fault", "value"] (spP K 4 g_paper_holds):=fnP F Y6j fun cdv A outer s H E gu room=>by
  have h:Here (cxB P HasW.w K mg base Z4s "paper_holds" (defScope Z0z) f cdv A outer s H E) (wxE E) 8:=U8 gu room
  unfold Z75
  exact Z9 (Q6 (i:=4) Z29 rfl (by first | exact Or.inl rfl | exact Or.inr rfl) (X7 (h.callP K_need_lets (by decide)) rfl Fx.g_need_lets K_need_lets.kp (Z1 (Z4 1) (Z8)))) (Z9 (Z1k (X7 (h.callP K_need_fault (by decide)) rfl Fx.g_need_fault K_need_fault.kp (Z1 (Z4 2) (Z8)))) (Z9 (Z0b (Z6p (Z36 (Z0q (X9 (Z98 rfl Fx.f_isinstance (Z4 3) (X78 rfl Fx.f_tuple) Fx.is_tuple (.ty _)))) (Z2n (Z0q (X9 (Z2i (cr_all rfl) Y5z rfl Fx.f_all (Z1 (Z7o (own:=[("one",7)]) (t:=(.nm 7)) rfl Z29 (Z1c (Z4 3)) (blkOk_by (N:=Z4s) (sc:=defScope Z0z) (by decide +kernel)) (by decide) (fun _ _ _ _ _=>W0 (i:=7) Z29 rfl (by first | exact Or.inl rfl | exact Or.inr rfl)) (fun _ _ _ _ _=>Z33) (fun _ _ _ _ _=>X7 ((h.blk _ _ _ _ _).callP K_is_standing (by decide)) rfl Fx.g_is_standing K_is_standing.kp (Z1 (Z4 0) (Z1 (Z4 7) (Z8))))) (Z8)))))))) (Y3 (W3 (V0))) (W5)) (Z9 (X7x (i:=5) (own:=[("standing",6)]) (t:=(.nm 6)) rfl h.u1 rfl Z29 rfl rfl (W6p rfl rfl rfl (by decide +kernel)) (Z1c (Z4 3)) (blkOk_by (N:=Z4s) (sc:=defScope Z0z) (by decide +kernel)) (by decide) (fun _ _ _ _ _=>W0 (i:=6) Z29 rfl (by first | exact Or.inl rfl | exact Or.inr rfl)) (fun _ _ _ _ _=>Z33) (fun _ _ _ _ _=>Z4 6) (fun _ _ _ _ _=>V0)) (Z9 (Z0b (Z6p (Z36 (Y8e rfl h.u1 (X7 (h.callP K_begun (by decide)) rfl Fx.g_begun K_begun.kp (Z1 (Z4 0) (Z8))) (Z4 5)) (Z2n (Z0q (X9 (X7 (h.callE K_is_closed (by decide)) rfl Fx.g_is_closed K_is_closed.kp (Z1 (Z4 0) (Z1 (Z4 4) (Z1 (Z4 5) (Z8)))))))))) (Y3 (W3 (V0))) (W5)) (Y3 (W3 (Y9r (X7 (h.callP K_is_met (by decide)) rfl Fx.g_is_met K_is_met.kp (Z1 (Z4 0) (Z1 (Z4 4) (Z1 (Z4 2) (Z1 (Z5o (X25 rfl rfl) X57 rfl Fx.f_list (Z1 (Z4 5) (Z8))) (Z8)))))))))))))
def X1c:List Str:=["tool", "lets", "fault", "kept", "found"]
theorem Y8h:X1c.Nodup:=by decide +kernel
theorem W12:FnScope X1c ["tool", "lets", "fault"] (defScope Z6y):=⟨rfl,rfl,rfl,Y8h,rfl,by decide +kernel,by decide +kernel⟩
def X1i:MS:=Y2 (V6 3 (Y0 (Y9 1 (X5 [] (callP g_need_lets))) (Z0 (Z3 1) (Z7)))) (Y2 (U1 (Y0 (Y9 1 (X5 [] (callP g_need_fault))) (Z0 (Z3 2) (Z7)))) (Y2 (V6 4 (X4 ["Closure"] "order" (Y0 (Y9 2 (X5 [] (made "Closure" mkM Z0w))) (Z0 (Z3 0) (Z0 (Z3 3) (Z7)))))) (X6 (Z56 (Y6 (Y0 (Y9 4 (X5 [] (callP g_is_met))) (Z0 (Z3 0) (Z0 (Z3 3) (Z0 (Z3 2) (Z0 (Z3 4) (Z7))))))) (m_c .non) (Y0 Y5r (Z0 (Z3 4) (Z7)))))))
def g_paper:List D→PR:=Z50 5 X1i
include Fx in
theorem W1m (K_need_lets:Kept P HasW.w K mg base 2 (He.ga K "need_lets") (spP K 1 g_need_lets)) (K_need_fault:Kept P HasW.w K mg base 2 (He.ga K "need_fault") (spP K 1 g_need_fault)) (K_Closure_init:Kept P HasW.w K mg base 9 (He.ma K (He.ga K "Closure") "__init__") (spE K 3 Z0w)) (K_is_met:Kept P HasW.w K mg base 7 (He.ga K "is_met") (spP K 4 g_is_met)) (F:FunD K "paper" "paper" (defArgs Z6y) (defBody Z6y) (defScope Z6y) dl [] f fd):FnG P HasW.w K mg base 11 f fd ["tool", "lets", "fault"] (spP K 3 g_paper):=fnP F W12 fun cdv A outer s H E gu room=>by
  have h:Here (cxB P HasW.w K mg base X1c "paper" (defScope Z6y) f cdv A outer s H E) (wxE E) 10:=U8 gu room
  unfold X1i
  exact Z9 (Q6 (i:=3) Y8h rfl (by first | exact Or.inl rfl | exact Or.inr rfl) (X7 (h.callP K_need_lets (by decide)) rfl Fx.g_need_lets K_need_lets.kp (Z1 (Z4 1) (Z8)))) (Z9 (Z1k (X7 (h.callP K_need_fault (by decide)) rfl Fx.g_need_fault K_need_fault.kp (Z1 (Z4 2) (Z8)))) (Z9 (Q6 (i:=4) Y8h rfl (by first | exact Or.inl rfl | exact Or.inr rfl) (V5 ["Closure"] Fx.at_Closure_order (X7 (h.make W8i (n:=2) Fx.M_Closure K_Closure_init (by decide)) rfl Fx.g_Closure Fx.M_Closure.kp (Z1 (Z4 0) (Z1 (Z4 3) (Z8)))))) (Y3 (W3 (Y3j (X9 (X7 (h.callP K_is_met (by decide)) rfl Fx.g_is_met K_is_met.kp (Z1 (Z4 0) (Z1 (Z4 3) (Z1 (Z4 2) (Z1 (Z4 4) (Z8))))))) (Z35) (Z5o call_tuple_of Y86 rfl Fx.f_tuple (Z1 (Z4 4) (Z8))))))))
def X9l:List Str:=["_law_script", "_law_deal", "_law_a", "_law_b", "_law_c", "_law_tool", "_law_spots", "_law_value", "_law_fault", "_law_more", "_law_lets", "_law_wider", "_law_wide", "_law_spot"]
theorem Z51:X9l.Nodup:=by decide +kernel
theorem W9b:FnScope X9l ["_law_script"] (defScope Y1r):=⟨rfl,rfl,rfl,Z51,rfl,by decide +kernel,by decide +kernel⟩
def W3y:MS:=Y2 (V6 1 (Y0 (Y9 2 (X5 [] g__law_source)) (Z0 (Z3 0) (Z0 (m_c (.int 0)) (Z7))))) (Y2 (W10 [(.nm 2),(.nm 3),(.nm 4)] (V8 (Y0 (Y9 2 (X5 [] g__law_shuffled)) (Z0 (Z3 1) (Z0 (Q7 (Z0 (m_c (.str "none")) (Z0 (m_c (.str "doubt")) (Z0 (m_c (.str "good")) (Z0 (m_c (.str "a")) (Z0 (m_c (.str "back")) (Z0 (m_c (.str "zz")) (Z7)))))))) (Z7)))) (Z5n) (Q4 (m_c (.int 3))))) (Y2 (Z14 (.tp [(.nm 5),(.nm 6)]) (V4 (Z0 (Y0 (Y9 3 (X5 [] (callP g__law_plain))) (Z0 (Z3 2) (Z0 (Z3 3) (Z0 (Z3 4) (Z7))))) (Z0 (Y0 (Y9 3 (X5 [] (callP g__law_thirteen))) (Z0 (Z3 2) (Z0 (Z3 3) (Z0 (Z3 4) (Z7))))) (Z7))))) (Y2 (V6 7 (Y0 Y5r (Z0 (Y0 (Y9 2 (X5 [] g__law_shuffled)) (Z0 (Z3 1) (Z0 (Z3 6) (Z7)))) (Z7)))) (Y2 (Z0k (Z0i (Z0d (Y5 neD (Y0 Z3i (Z0 (Y0 (Y9 2 (X5 [] (callP g_standings))) (Z0 (Z3 5) (Z0 (Q7 (Z7)) (Z7)))) (Z7))) (m_c (.int 13)))) (Z0d (Y5 neD (Z4p (.nm 13) (Q9 (Y0 (Y9 2 (X5 [] (callP g_standings))) (Z0 (Z3 5) (Z0 (V4 (Z7)) (Z7))))) (Z0d (Y5 Y90 (Z3 13) (Z3 6))) (Z3 13) [13]) (Q7 (Z7))))) (X6 (m_c (.bl false))) (W7)) (Y2 (Z2o (.nm 8) (Q9 (V4 (Z0 (m_c (.str "again")) (Z0 (m_c (.str "fallen")) (Z0 (m_c (.str "lost")) (Z0 (m_c (.str "strange")) (Z0 (m_c (.str "stuck")) (Z0 (m_c (.str "vain")) (Z7))))))))) (Y2 (Z0k (Z0i (Z0d (Y5 Bv.isnB (Y0 (Y9 4 (X5 [] (callP g_paper_holds))) (Z0 (Z3 5) (Z0 (Q7 (Z7)) (Z0 (Z3 8) (Z0 (Z3 7) (Z7)))))) (m_c (.bl true)))) (Z0d (Y5 Bv.isnB (Y0 (Y9 4 (X5 [] (callP g_paper_holds))) (Z0 (Z3 5) (Z0 (V4 (Z7)) (Z0 (Z3 8) (Z0 (V8 (Z3 7) (Q4 (m_c (.int 1))) (Z5n)) (Z7)))))) (m_c (.bl false))))) (X6 (m_c (.bl false))) (W7)) (Y2 (Z0k (Z0i (Y6 (Y0 (Y9 4 (X5 [] (callP g_paper_holds))) (Z0 (Z3 5) (Z0 (Q7 (Z0 (m_c (.str "back")) (Z7))) (Z0 (Z3 8) (Z0 (Z3 7) (Z7))))))) (Y6 (Y0 (Y9 4 (X5 [] (callP g_paper_holds))) (Z0 (Z3 5) (Z0 (Q7 (Z0 (m_c (.str "alike")) (Z7))) (Z0 (Z3 8) (Z0 (Z3 7) (Z7)))))))) (X6 (m_c (.bl false))) (W7)) (Y2 (Z0k (Z0i (Z0d (Y5 isD (Y0 (Y9 3 (X5 [] (callP g_paper))) (Z0 (Z3 5) (Z0 (Q7 (Z7)) (Z0 (Z3 8) (Z7))))) (m_c .non))) (Z0d (Y5 neD (Y5 isD (Y0 (Y9 3 (X5 [] (callP g_paper))) (Z0 (Z3 5) (Z0 (Q7 (Z0 (m_c (.str "back")) (Z7))) (Z0 (Z3 8) (Z7))))) (m_c .non)) (Y5 eqD (Z3 8) (m_c (.str "strange")))))) (X6 (m_c (.bl false))) (W7)) (Z0k (Z0d (Y5 neD (Y5 isD (Y0 (Y9 3 (X5 [] (callP g_paper))) (Z0 (Z3 5) (Z0 (Q7 (Z0 (m_c (.str "near")) (Z7))) (Z0 (Z3 8) (Z7))))) (m_c .non)) (Y5 eqD (Z3 8) (m_c (.str "lost"))))) (X6 (m_c (.bl false))) (W7)))))) (Y2 (Z0k (Z0i (Z0d (Y5 isD (Y0 (Y9 3 (X5 [] (callP g_paper))) (Z0 (Z3 5) (Z0 (Q7 (Z0 (m_c (.str "late")) (Z0 (m_c (.str "near")) (Z7)))) (Z0 (m_c (.str "strange")) (Z7))))) (m_c .non))) (Z0d (Y5 W62 (Y0 (Y9 3 (X5 [] (callP g_paper))) (Z0 (Z3 5) (Z0 (Q7 (Z0 (m_c (.str "alike")) (Z7))) (Z0 (m_c (.str "strange")) (Z7))))) (m_c .non)))) (X6 (m_c (.bl false))) (W7)) (Y2 (V6 9 (Y5 Z8j (Z3 7) (V4 (Z0 (V4 (Z0 (Z3 3) (Z0 (m_c (.str "mine")) (Z0 (m_c (.bl false)) (Z0 (m_c (.bl true)) (Z0 (m_c (.bl false)) (Z0 (m_c (.bl true)) (Z7)))))))) (Z7))))) (Y2 (Z2o (.nm 10) (Q9 (V4 (Z0 (Q7 (Z7)) (Z0 (Q7 (Z0 (m_c (.str "near")) (Z7))) (Z0 (Q7 (Z0 (m_c (.str "late")) (Z7))) (Z0 (Q7 (Z0 (m_c (.str "back")) (Z7))) (Z7))))))) (Z0k (Z0d (Y5 Bv.isnB (Y0 (Y9 4 (X5 [] (callP g_paper_holds))) (Z0 (Z3 5) (Z0 (Z3 10) (Z0 (m_c (.str "strange")) (Z0 (Z3 9) (Z7)))))) (m_c (.bl false)))) (X6 (m_c (.bl false))) (W7))) (Y2 (V6 11 (Y5 Z8j (Z3 7) (V4 (Z0 (V4 (Z0 (Z3 4) (Z0 (m_c (.str "mine")) (Z0 (m_c (.bl false)) (Z0 (m_c (.bl false)) (Z0 (m_c (.bl true)) (Z0 (m_c (.bl true)) (Z7)))))))) (Z0 (V4 (Z0 (Z3 3) (Z0 (m_c (.str "mine")) (Z0 (m_c (.bl false)) (Z0 (m_c (.bl false)) (Z0 (m_c (.bl true)) (Z0 (m_c (.bl true)) (Z7)))))))) (Z7)))))) (Y2 (Z0k (Z0i (Z0d (Y5 Bv.isnB (Y0 (Y9 4 (X5 [] (callP g_paper_holds))) (Z0 (Z3 5) (Z0 (Q7 (Z7)) (Z0 (m_c (.str "strange")) (Z0 (Z3 11) (Z7)))))) (m_c (.bl true)))) (Y6 (Y0 (Y9 4 (X5 [] (callP g_paper_holds))) (Z0 (Z3 5) (Z0 (Q7 (Z0 (m_c (.str "late")) (Z7))) (Z0 (m_c (.str "strange")) (Z0 (Z3 11) (Z7)))))))) (X6 (m_c (.bl false))) (W7)) (Y2 (V6 12 (Y5 Z8j (Z3 7) (V4 (Z0 (V4 (Z0 (Z3 4) (Z0 (m_c (.str "mine")) (Z0 (m_c (.bl false)) (Z0 (m_c (.bl false)) (Z0 (m_c (.bl true)) (Z0 (m_c (.bl true)) (Z7)))))))) (Z0 (V4 (Z0 (Z3 3) (Z0 (m_c (.str "other")) (Z0 (m_c (.bl false)) (Z0 (m_c (.bl false)) (Z0 (m_c (.bl true)) (Z0 (m_c (.bl true)) (Z7)))))))) (Z7)))))) (Y2 (Z2o (.nm 8) (Q9 (V4 (Z0 (m_c (.str "again")) (Z0 (m_c (.str "fallen")) (Z0 (m_c (.str "lost")) (Z0 (m_c (.str "strange")) (Z0 (m_c (.str "stuck")) (Z0 (m_c (.str "vain")) (Z7))))))))) (Z0k (Z0i (Z0d (Y5 Bv.isnB (Y0 (Y9 4 (X5 [] (callP g_paper_holds))) (Z0 (Z3 5) (Z0 (Q7 (Z7)) (Z0 (Z3 8) (Z0 (Z3 12) (Z7)))))) (m_c (.bl true)))) (Z0d (Y5 Bv.isnB (Y0 (Y9 4 (X5 [] (callP g_paper_holds))) (Z0 (Z3 5) (Z0 (Q7 (Z0 (m_c (.str "back")) (Z7))) (Z0 (Z3 8) (Z0 (Z3 12) (Z7)))))) (m_c (.bl false))))) (X6 (m_c (.bl false))) (W7))) (X6 (Y5 Bv.isB (Y0 (Y9 4 (X5 [] (callP g_paper_holds))) (Z0 (Z3 5) (Z0 (Q7 (Z7)) (Z0 (m_c (.str "strange")) (Z0 (Y5 Z8j (Z3 7) (V8 (Z3 7) (Z5n) (Q4 (m_c (.int 3))))) (Z7)))))) (m_c (.bl true))))))))))))))))
def g_law:List D→PR:=Z50 14 W3y
include Fx in
theorem W8w (K__law_source:Kept P HasW.w K mg base 1 (He.ga K "_law_source") (spE K 2 g__law_source)) (K__law_shuffled:Kept P HasW.w K mg base 2 (He.ga K "_law_shuffled") (spE K 2 g__law_shuffled)) (K__law_plain:Kept P HasW.w K mg base 6 (He.ga K "_law_plain") (spP K 3 g__law_plain)) (K__law_thirteen:Kept P HasW.w K mg base 1 (He.ga K "_law_thirteen") (spP K 3 g__law_thirteen)) (K_standings:Kept P HasW.w K mg base 11 (He.ga K "standings") (spP K 2 g_standings)) (K_paper_holds:Kept P HasW.w K mg base 9 (He.ga K "paper_holds") (spP K 4 g_paper_holds)) (K_paper:Kept P HasW.w K mg base 11 (He.ga K "paper") (spP K 3 g_paper)) (F:FunD K "law" "law" (defArgs Y1r) (defBody Y1r) (defScope Y1r) dl [] f fd):FnG P HasW.w K mg base 12 f fd ["_law_script"] (spP K 1 g_law):=fnP F W9b fun cdv A outer s H E gu room=>by
  have h:Here (cxB P HasW.w K mg base X9l "law" (defScope Y1r) f cdv A outer s H E) (wxE E) 11:=U8 gu room
  unfold W3y
  exact Z9 (Q6 (i:=1) Z51 rfl (by first | exact Or.inl rfl | exact Or.inr rfl) (X7 (h.callE K__law_source (by decide)) rfl Fx.g__law_source K__law_source.kp (Z1 (Z4 0) (Z1 (V1) (Z8))))) (Z9 (W8k rfl (Z16 (X7 (h.callE K__law_shuffled (by decide)) rfl Fx.g__law_shuffled K__law_shuffled.kp (Z1 (Z4 1) (Z1 (Z0o (Z1 (Y8) (Z1 (Y8) (Z1 (Y8) (Z1 (Y8) (Z1 (Y8) (Z1 (Y8) (Z8)))))))) (Z8)))) (Z32) (Z3c (V1))) (W9 (W0 (i:=2) Z51 rfl (by first | exact Or.inl rfl | exact Or.inr rfl)) (W9 (W0 (i:=3) Z51 rfl (by first | exact Or.inl rfl | exact Or.inr rfl)) (W9 (W0 (i:=4) Z51 rfl (by first | exact Or.inl rfl | exact Or.inr rfl)) (Z4k))))) (Z9 (Z9e (Q1 (Z1 (X7 (h.callP K__law_plain (by decide)) rfl Fx.g__law_plain K__law_plain.kp (Z1 (Z4 2) (Z1 (Z4 3) (Z1 (Z4 4) (Z8))))) (Z1 (X7 (h.callP K__law_thirteen (by decide)) rfl Fx.g__law_thirteen K__law_thirteen.kp (Z1 (Z4 2) (Z1 (Z4 3) (Z1 (Z4 4) (Z8))))) (Z8)))) (Z6t rfl (W9 (W0 (i:=5) Z51 rfl (by first | exact Or.inl rfl | exact Or.inr rfl)) (W9 (W0 (i:=6) Z51 rfl (by first | exact Or.inl rfl | exact Or.inr rfl)) (Z4k))))) (Z9 (Q6 (i:=7) Z51 rfl (by first | exact Or.inl rfl | exact Or.inr rfl) (Z5o call_tuple_of Y86 rfl Fx.f_tuple (Z1 (X7 (h.callE K__law_shuffled (by decide)) rfl Fx.g__law_shuffled K__law_shuffled.kp (Z1 (Z4 1) (Z1 (Z4 6) (Z8)))) (Z8)))) (Z9 (Z0b (Z6p (Z36 (Z0c h.ne (Z2i Y0r Y0n rfl Fx.f_len (Z1 (X7 (h.callP K_standings (by decide)) rfl Fx.g_standings K_standings.kp (Z1 (Z4 5) (Z1 (Z0o (Z8)) (Z8)))) (Z8))) (V1)) (Z2n (Z0c h.ne (Z7o (own:=[("_law_spot",13)]) (t:=(.nm 13)) rfl Z51 (Z1c (X7 (h.callP K_standings (by decide)) rfl Fx.g_standings K_standings.kp (Z1 (Z4 5) (Z1 (Q1 (Z8)) (Z8))))) (blkOk_by (N:=X9l) (sc:=defScope Y1r) (by decide +kernel)) (by decide) (fun _ _ _ _ _=>W0 (i:=13) Z51 rfl (by first | exact Or.inl rfl | exact Or.inr rfl)) (fun _ _ _ _ _=>Y2m (Z0c (h.blk _ _ _ _ _).nin (Z4 13) (Z4 6))) (fun _ _ _ _ _=>Z4 13)) (Z0o (Z8)))))) (Y3 (W3 (V0))) (W5)) (Z9 (Z46 Z38 rfl (Z1c (Q1 (Z1 (Y8) (Z1 (Y8) (Z1 (Y8) (Z1 (Y8) (Z1 (Y8) (Z1 (Y8) (Z8))))))))) (W0 (i:=8) Z51 rfl (by first | exact Or.inl rfl | exact Or.inr rfl)) (Z9 (Z0b (Z6p (Z36 (Z0c h.isnB (X7 (h.callP K_paper_holds (by decide)) rfl Fx.g_paper_holds K_paper_holds.kp (Z1 (Z4 5) (Z1 (Z0o (Z8)) (Z1 (Z4 8) (Z1 (Z4 7) (Z8)))))) (V0)) (Z2n (Z0c h.isnB (X7 (h.callP K_paper_holds (by decide)) rfl Fx.g_paper_holds K_paper_holds.kp (Z1 (Z4 5) (Z1 (Q1 (Z8)) (Z1 (Z4 8) (Z1 (Z16 (Z4 7) (Z3c (V1)) (Z32)) (Z8)))))) (V0))))) (Y3 (W3 (V0))) (W5)) (Z9 (Z0b (Z6p (Z36 (X9 (X7 (h.callP K_paper_holds (by decide)) rfl Fx.g_paper_holds K_paper_holds.kp (Z1 (Z4 5) (Z1 (Z0o (Z1 (Y8) (Z8))) (Z1 (Z4 8) (Z1 (Z4 7) (Z8))))))) (Z2n (X9 (X7 (h.callP K_paper_holds (by decide)) rfl Fx.g_paper_holds K_paper_holds.kp (Z1 (Z4 5) (Z1 (Z0o (Z1 (Y8) (Z8))) (Z1 (Z4 8) (Z1 (Z4 7) (Z8)))))))))) (Y3 (W3 (V0))) (W5)) (Z9 (Z0b (Z6p (Z36 (Z0c h.is_ (X7 (h.callP K_paper (by decide)) rfl Fx.g_paper K_paper.kp (Z1 (Z4 5) (Z1 (Z0o (Z8)) (Z1 (Z4 8) (Z8))))) (Z35)) (Z2n (Z0c h.ne (Z2r h.is_ (X7 (h.callP K_paper (by decide)) rfl Fx.g_paper K_paper.kp (Z1 (Z4 5) (Z1 (Z0o (Z1 (Y8) (Z8))) (Z1 (Z4 8) (Z8))))) (Z35)) (Z2r h.eq (Z4 8) (Y8)))))) (Y3 (W3 (V0))) (W5)) (Y3 (Z0b (Z0c h.ne (Z2r h.is_ (X7 (h.callP K_paper (by decide)) rfl Fx.g_paper K_paper.kp (Z1 (Z4 5) (Z1 (Z0o (Z1 (Y8) (Z8))) (Z1 (Z4 8) (Z8))))) (Z35)) (Z2r h.eq (Z4 8) (Y8))) (Y3 (W3 (V0))) (W5))))))) (Z9 (Z0b (Z6p (Z36 (Z0c h.is_ (X7 (h.callP K_paper (by decide)) rfl Fx.g_paper K_paper.kp (Z1 (Z4 5) (Z1 (Z0o (Z1 (Y8) (Z1 (Y8) (Z8)))) (Z1 (Y8) (Z8))))) (Z35)) (Z2n (Z0c h.isn (X7 (h.callP K_paper (by decide)) rfl Fx.g_paper K_paper.kp (Z1 (Z4 5) (Z1 (Z0o (Z1 (Y8) (Z8))) (Z1 (Y8) (Z8))))) (Z35))))) (Y3 (W3 (V0))) (W5)) (Z9 (Q6 (i:=9) Z51 rfl (by first | exact Or.inl rfl | exact Or.inr rfl) (Z88 h.add (Z4 7) (Q1 (Z1 (Q1 (Z1 (Z4 3) (Z1 (Y8) (Z1 (V0) (Z1 (V0) (Z1 (V0) (Z1 (V0) (Z8)))))))) (Z8))))) (Z9 (Z46 Z38 rfl (Z1c (Q1 (Z1 (Z0o (Z8)) (Z1 (Z0o (Z1 (Y8) (Z8))) (Z1 (Z0o (Z1 (Y8) (Z8))) (Z1 (Z0o (Z1 (Y8) (Z8))) (Z8))))))) (W0 (i:=10) Z51 rfl (by first | exact Or.inl rfl | exact Or.inr rfl)) (Y3 (Z0b (Z0c h.isnB (X7 (h.callP K_paper_holds (by decide)) rfl Fx.g_paper_holds K_paper_holds.kp (Z1 (Z4 5) (Z1 (Z4 10) (Z1 (Y8) (Z1 (Z4 9) (Z8)))))) (V0)) (Y3 (W3 (V0))) (W5)))) (Z9 (Q6 (i:=11) Z51 rfl (by first | exact Or.inl rfl | exact Or.inr rfl) (Z88 h.add (Z4 7) (Q1 (Z1 (Q1 (Z1 (Z4 4) (Z1 (Y8) (Z1 (V0) (Z1 (V0) (Z1 (V0) (Z1 (V0) (Z8)))))))) (Z1 (Q1 (Z1 (Z4 3) (Z1 (Y8) (Z1 (V0) (Z1 (V0) (Z1 (V0) (Z1 (V0) (Z8)))))))) (Z8)))))) (Z9 (Z0b (Z6p (Z36 (Z0c h.isnB (X7 (h.callP K_paper_holds (by decide)) rfl Fx.g_paper_holds K_paper_holds.kp (Z1 (Z4 5) (Z1 (Z0o (Z8)) (Z1 (Y8) (Z1 (Z4 11) (Z8)))))) (V0)) (Z2n (X9 (X7 (h.callP K_paper_holds (by decide)) rfl Fx.g_paper_holds K_paper_holds.kp (Z1 (Z4 5) (Z1 (Z0o (Z1 (Y8) (Z8))) (Z1 (Y8) (Z1 (Z4 11) (Z8)))))))))) (Y3 (W3 (V0))) (W5)) (Z9 (Q6 (i:=12) Z51 rfl (by first | exact Or.inl rfl | exact Or.inr rfl) (Z88 h.add (Z4 7) (Q1 (Z1 (Q1 (Z1 (Z4 4) (Z1 (Y8) (Z1 (V0) (Z1 (V0) (Z1 (V0) (Z1 (V0) (Z8)))))))) (Z1 (Q1 (Z1 (Z4 3) (Z1 (Y8) (Z1 (V0) (Z1 (V0) (Z1 (V0) (Z1 (V0) (Z8)))))))) (Z8)))))) (Z9 (Z46 Z38 rfl (Z1c (Q1 (Z1 (Y8) (Z1 (Y8) (Z1 (Y8) (Z1 (Y8) (Z1 (Y8) (Z1 (Y8) (Z8))))))))) (W0 (i:=8) Z51 rfl (by first | exact Or.inl rfl | exact Or.inr rfl)) (Y3 (Z0b (Z6p (Z36 (Z0c h.isnB (X7 (h.callP K_paper_holds (by decide)) rfl Fx.g_paper_holds K_paper_holds.kp (Z1 (Z4 5) (Z1 (Z0o (Z8)) (Z1 (Z4 8) (Z1 (Z4 12) (Z8)))))) (V0)) (Z2n (Z0c h.isnB (X7 (h.callP K_paper_holds (by decide)) rfl Fx.g_paper_holds K_paper_holds.kp (Z1 (Z4 5) (Z1 (Z0o (Z1 (Y8) (Z8))) (Z1 (Z4 8) (Z1 (Z4 12) (Z8)))))) (V0))))) (Y3 (W3 (V0))) (W5)))) (Y3 (W3 (Z2r h.isB (X7 (h.callP K_paper_holds (by decide)) rfl Fx.g_paper_holds K_paper_holds.kp (Z1 (Z4 5) (Z1 (Z0o (Z8)) (Z1 (Y8) (Z1 (Z88 h.add (Z4 7) (Z16 (Z4 7) (Z32) (Z3c (V1)))) (Z8)))))) (V0))))))))))))))))
end
end Lw
set_option maxHeartbeats 0
namespace Lw
open PySem PySem.Spec L2 Bv
open PyProof.Rows hiding St
theorem V0w {K:PySem.W.Frag} {h:Heap} {mg:Str→Option Value} (X:K.In h) (G:h.Ns mainGlobals mg) (c:Y7p tsL dsL K):Facts K mg:=⟨
  Z3f X G (c.test 0 rfl),
  Z3f X G (c.test 1 rfl),
  U7 X G (c.test 2 rfl),
  Z3f X G (c.test 3 rfl),
  Z3f X G (c.test 4 rfl),
  Z3f X G (c.test 5 rfl),
  U7 X G (c.test 6 rfl),
  U7 X G (c.test 7 rfl),
  c.test 8 rfl,
  U7 X G (c.test 9 rfl),
  Z3f X G (c.test 10 rfl),
  Z3f X G (c.test 11 rfl),
  X3n (u:=fun K=>(.type "str")) (c.test 12 rfl),
  Z3f X G (c.test 13 rfl),
  c.test 14 rfl,
  U7 X G (c.test 15 rfl),
  X68 X G (c.test 16 rfl),
  Y5s X G (c.test 17 rfl),
  Z3f X G (c.test 18 rfl),
  U7 X G (c.test 19 rfl),
  U7 X G (c.test 20 rfl),
  c.test 21 rfl,
  U7 X G (c.test 22 rfl),
  c.test 23 rfl,
  U7 X G (c.test 24 rfl),
  U7 X G (c.test 25 rfl),
  X3n (u:=fun K=>(.type "bool")) (c.test 26 rfl),
  Z3f X G (c.test 27 rfl),
  Z23 (c.test 28 rfl),
  Z23 (c.test 29 rfl),
  Z23 (c.test 30 rfl),
  Z23 (c.test 31 rfl),
  Y8b (c.test 32 rfl),
  U7 X G (c.test 33 rfl),
  W7m (c.test 34 rfl),
  W4u (c.test 35 rfl),
  Z3f X G (c.test 36 rfl),
  U7 X G (c.test 37 rfl),
  Z3f X G (c.test 38 rfl),
  U7 X G (c.test 39 rfl),
  U7 X G (c.test 40 rfl),
  X3n (u:=fun K=>(.ref (He.ga K "Row"))) (c.test 41 rfl),
  Z3f X G (c.test 42 rfl),
  Z23 (c.test 43 rfl),
  Z23 (c.test 44 rfl),
  Z23 (c.test 45 rfl),
  Z23 (c.test 46 rfl),
  Z23 (c.test 47 rfl),
  Y8b (c.test 48 rfl),
  U7 X G (c.test 49 rfl),
  W7m (c.test 50 rfl),
  U7 X G (c.test 51 rfl),
  U7 X G (c.test 52 rfl),
  Z23 (c.test 53 rfl),
  Z23 (c.test 54 rfl),
  Y5s X G (c.test 55 rfl),
  U7 X G (c.test 56 rfl),
  Z23 (c.test 57 rfl),
  Z23 (c.test 58 rfl),
  Z23 (c.test 59 rfl),
  Z23 (c.test 60 rfl),
  Z23 (c.test 61 rfl),
  Z23 (c.test 62 rfl),
  He.cls_ok (c.test 63 rfl),
  He.meth_ok (c.test 64 rfl),
  He.cls_ok (c.test 65 rfl),
  He.meth_ok (c.test 66 rfl),
  He.cls_ok (c.test 67 rfl),
  He.meth_ok (c.test 68 rfl),
  He.meth_ok (c.test 69 rfl),
  Z23 (c.test 70 rfl),
  Z23 (c.test 71 rfl),
  Y8b (c.test 72 rfl),
  U7 X G (c.test 73 rfl),
  Y5s X G (c.test 74 rfl),
  U7 X G (c.test 75 rfl),
  Y5s X G (c.test 76 rfl),
  Y5s X G (c.test 77 rfl),
  U7 X G (c.test 78 rfl),
  U7 X G (c.test 79 rfl),
  U7 X G (c.test 80 rfl),
  U7 X G (c.test 81 rfl),
  U7 X G (c.test 82 rfl),
  U7 X G (c.test 83 rfl),
  U7 X G (c.test 84 rfl),
  U7 X G (c.test 85 rfl),
  U7 X G (c.test 86 rfl),
  U7 X G (c.test 87 rfl),
  U7 X G (c.test 88 rfl),
  He.meth_ok (c.test 89 rfl),
  c.test 90 rfl,
  U7 X G (c.test 91 rfl),
  U7 X G (c.test 92 rfl),
  Y8b (c.test 93 rfl),
  U7 X G (c.test 94 rfl),
  Z3f X G (c.test 95 rfl),
  U7 X G (c.test 96 rfl),
  c.test 97 rfl,
  U7 X G (c.test 98 rfl),
  U7 X G (c.test 99 rfl),
  X3n (u:=fun K=>(.type "tuple")) (c.test 100 rfl),
  X68 X G (c.test 101 rfl),
  c.test 102 rfl,
  U7 X G (c.test 103 rfl),
  U7 X G (c.test 104 rfl),
  U7 X G (c.test 105 rfl),
  U7 X G (c.test 106 rfl),
  U7 X G (c.test 107 rfl),
  U7 X G (c.test 108 rfl),
  U7 X G (c.test 109 rfl),
  U7 X G (c.test 110 rfl),
  U7 X G (c.test 111 rfl),
  U7 X G (c.test 112 rfl),
  U7 X G (c.test 113 rfl),
  U7 X G (c.test 114 rfl)⟩
theorem all [HasW] {P:Program} {K:PySem.W.Frag} {h:Heap} {mg:Str→Option Value} {f:Addr} (X:K.In h) (G:h.Ns mainGlobals mg) (cx:X9n tsL dsL xsL K) (hP:P.main.file=PySem.Challenge.pw_wordingkept_k45_papers_known_by_hand.main.file) (hT:(P.main.scope.names.lookup ("super" : Str)).isSome=false) (hf:mg "law" = some (.ref f)) :
    ∃ fd:FuncData,(∀ (s:Shared) (v:Value),BindsTo s fd ⟨[v],[]⟩ [("_law_script",v)])∧∀ base:Heap,K.In base→base.Ns mainGlobals mg→FnG P HasW.w K mg base 12 f fd ["_law_script"] (spP K 1 g_law):=by
  have c:=cx.toB
  have Fx:=V0w X G c
  have e0:=hf.symm.trans (U7 X G (c.test 114 rfl))
  cases e0
  obtain ⟨fd_Step_init,F_Step_init⟩:=c.fun 0 (d:=Y34) rfl
  obtain ⟨fd_begun,F_begun⟩:=c.fun 1 (d:=X6j) rfl
  obtain ⟨fd_is_of_others,F_is_of_others⟩:=c.fun 2 (d:=Z97) rfl
  obtain ⟨fd_shows_own,F_shows_own⟩:=c.fun 3 (d:=Y4b) rfl
  obtain ⟨fd_is_let,F_is_let⟩:=c.fun 4 (d:=X28) rfl
  obtain ⟨fd_movers,F_movers⟩:=c.fun 5 (d:=X3a) rfl
  obtain ⟨fd_Closure_note,F_Closure_note⟩:=c.fun 6 (d:=Z93) rfl
  obtain ⟨fd_is_name,F_is_name⟩:=c.fun 7 (d:=Y89) rfl
  obtain ⟨fd_is_sequence,F_is_sequence⟩:=c.fun 8 (d:=Y08) rfl
  obtain ⟨fd_are_unlike,F_are_unlike⟩:=c.fun 9 (d:=Y22) rfl
  obtain ⟨fd_is_word,F_is_word⟩:=c.fun 10 (d:=Y9a) rfl
  obtain ⟨fd_is_standing,F_is_standing⟩:=c.fun 11 (d:=Y09) rfl
  obtain ⟨fd_Row_fits,F_Row_fits⟩:=c.fun 12 (d:=Y6q) rfl
  obtain ⟨fd__law_source,F__law_source⟩:=c.fun 13 (d:=Y05) rfl
  obtain ⟨fd__law_draw,F__law_draw⟩:=c.fun 14 (d:=Y36) rfl
  obtain ⟨fd__law_thirteen,F__law_thirteen⟩:=c.fun 15 (d:=Z85) rfl
  obtain ⟨fd_whose_then,F_whose_then⟩:=c.fun 16 (d:=Y26) rfl
  obtain ⟨fd_need_lets,F_need_lets⟩:=c.fun 17 (d:=Y4a) rfl
  obtain ⟨fd_need_fault,F_need_fault⟩:=c.fun 18 (d:=Y25) rfl
  obtain ⟨fd_Row_init,F_Row_init⟩:=c.fun 19 (d:=Y18) rfl
  obtain ⟨fd_are_names,F_are_names⟩:=c.fun 20 (d:=Y38) rfl
  obtain ⟨fd_names_in,F_names_in⟩:=c.fun 21 (d:=Y6t) rfl
  obtain ⟨fd_Tool_row_for,F_Tool_row_for⟩:=c.fun 22 (d:=Z95) rfl
  obtain ⟨fd__law_shuffled,F__law_shuffled⟩:=c.fun 23 (d:=Z84) rfl
  obtain ⟨fd_Tool_init,F_Tool_init⟩:=c.fun 24 (d:=Y0t) rfl
  obtain ⟨fd_Tool_becomes,F_Tool_becomes⟩:=c.fun 25 (d:=Z94) rfl
  obtain ⟨fd_given_step,F_given_step⟩:=c.fun 26 (d:=Y23) rfl
  obtain ⟨fd_looked_step,F_looked_step⟩:=c.fun 27 (d:=Y1a) rfl
  obtain ⟨fd_carry_steps,F_carry_steps⟩:=c.fun 28 (d:=Y06) rfl
  obtain ⟨fd_is_lost_from,F_is_lost_from⟩:=c.fun 29 (d:=Z96) rfl
  obtain ⟨fd_Row_read,F_Row_read⟩:=c.fun 30 (d:=Y6r) rfl
  obtain ⟨fd_delivery_steps,F_delivery_steps⟩:=c.fun 31 (d:=Z8k) rfl
  obtain ⟨fd_look_steps,F_look_steps⟩:=c.fun 32 (d:=Y24) rfl
  obtain ⟨fd_editions_to,F_editions_to⟩:=c.fun 33 (d:=Y07) rfl
  obtain ⟨fd_is_stuck,F_is_stuck⟩:=c.fun 34 (d:=Y6s) rfl
  obtain ⟨fd_Tool_read,F_Tool_read⟩:=c.fun 35 (d:=Y35) rfl
  obtain ⟨fd_edition_steps,F_edition_steps⟩:=c.fun 36 (d:=Z86) rfl
  obtain ⟨fd_shows_fault,F_shows_fault⟩:=c.fun 37 (d:=Y1c) rfl
  obtain ⟨fd_steps_to_fault,F_steps_to_fault⟩:=c.fun 38 (d:=Z8l) rfl
  obtain ⟨fd__law_plain,F__law_plain⟩:=c.fun 39 (d:=Y21) rfl
  obtain ⟨fd_all_steps,F_all_steps⟩:=c.fun 40 (d:=Y37) rfl
  obtain ⟨fd_is_met,F_is_met⟩:=c.fun 41 (d:=X29) rfl
  obtain ⟨fd_Closure_go_from,F_Closure_go_from⟩:=c.fun 42 (d:=Z7j) rfl
  obtain ⟨fd_is_closed,F_is_closed⟩:=c.fun 43 (d:=Y39) rfl
  obtain ⟨fd_Closure_init,F_Closure_init⟩:=c.fun 44 (d:=Z92) rfl
  obtain ⟨fd_paper_holds,F_paper_holds⟩:=c.fun 45 (d:=Y1b) rfl
  obtain ⟨fd_paper,F_paper⟩:=c.fun 46 (d:=X6k) rfl
  obtain ⟨fd_standings,F_standings⟩:=c.fun 47 (d:=Y4c) rfl
  obtain ⟨fd_law,F_law⟩:=c.fun 48 (d:=W7o) rfl
  have b0:=F_law.bindsA (ps:=["_law_script"]) fun _ _ _ _ _ _ us hl=>match us,hl with | [_],_=>rfl
  refine ⟨fd_law,fun s v=>b0 s [v] rfl,fun base _ _=>?_⟩
  have K_Step_init:=Z12 F_Step_init (Y98 (P:=P) (base:=base) Fx  F_Step_init) fun _ _ _ _ _ _ us hl=>match us,hl with | [_,_,_,_,_],_=>rfl
  have K_begun:=Z12 F_begun (W1l (P:=P) (base:=base) Fx  F_begun) fun _ _ _ _ _ _ us hl=>match us,hl with | [_],_=>rfl
  have K_is_of_others:=Z12 F_is_of_others (Y47 (P:=P) (base:=base) Fx  F_is_of_others) fun _ _ _ _ _ _ us hl=>match us,hl with | [_],_=>rfl
  have K_shows_own:=Z12 F_shows_own (X0g (P:=P) (base:=base) Fx  F_shows_own) fun _ _ _ _ _ _ us hl=>match us,hl with | [_,_,_],_=>rfl
  have K_is_let:=Z12 F_is_let (X74 (P:=P) (base:=base) Fx  F_is_let) fun _ _ _ _ _ _ us hl=>match us,hl with | [_,_,_,_],_=>rfl
  have K_movers:=Z12 F_movers (X76 (P:=P) (base:=base) Fx  F_movers) fun _ _ _ _ _ _ us hl=>match us,hl with | [_,_,_,_],_=>rfl
  have K_Closure_note:=Z12 F_Closure_note (Y43 (P:=P) (base:=base) Fx  F_Closure_note) fun _ _ _ _ _ _ us hl=>match us,hl with | [_,_,_],_=>rfl
  have K_is_name:=Z12 F_is_name (X5a (P:=P) (base:=base) Fx  F_is_name) fun _ _ _ _ _ _ us hl=>match us,hl with | [_],_=>rfl
  have K_is_sequence:=Z12 F_is_sequence (Y57 (P:=P) (base:=base) Fx  F_is_sequence) fun _ _ _ _ _ _ us hl=>match us,hl with | [_],_=>rfl
  have K_are_unlike:=Z12 F_are_unlike (Y8k (P:=P) (base:=base) Fx  F_are_unlike) fun _ _ _ _ _ _ us hl=>match us,hl with | [_],_=>rfl
  have K_is_word:=Z12 F_is_word (X5b (P:=P) (base:=base) Fx  F_is_word) fun _ _ _ _ _ _ us hl=>match us,hl with | [_,_],_=>rfl
  have K_is_standing:=Z12 F_is_standing (Y58 (P:=P) (base:=base) Fx  F_is_standing) fun _ _ _ _ _ _ us hl=>match us,hl with | [_,_],_=>rfl
  have K_Row_fits:=Z12 F_Row_fits (X19 (P:=P) (base:=base) Fx  F_Row_fits) fun _ _ _ _ _ _ us hl=>match us,hl with | [_,_,_],_=>rfl
  have K__law_source:=Z12 F__law_source (Y54 (P:=P) (base:=base) Fx  F__law_source) fun _ _ _ _ _ _ us hl=>match us,hl with | [_,_],_=>rfl
  have K__law_draw:=Z12 F__law_draw (X0b (P:=P) (base:=base) Fx  F__law_draw) fun _ _ _ _ _ _ us hl=>match us,hl with | [_,_],_=>rfl
  have K__law_thirteen:=Z12 F__law_thirteen (Y3l (P:=P) (base:=base) Fx  F__law_thirteen) fun _ _ _ _ _ _ us hl=>match us,hl with | [_,_,_],_=>rfl
  have K_whose_then:=Z12 F_whose_then (Y8o (P:=P) (base:=base) Fx K_is_of_others F_whose_then) fun _ _ _ _ _ _ us hl=>match us,hl with | [_,_,_],_=>rfl
  have K_need_lets:=Z12 F_need_lets (X0f (P:=P) (base:=base) Fx K_is_sequence K_is_word K_are_unlike F_need_lets) fun _ _ _ _ _ _ us hl=>match us,hl with | [_],_=>rfl
  have K_need_fault:=Z12 F_need_fault (Y8n (P:=P) (base:=base) Fx K_is_word F_need_fault) fun _ _ _ _ _ _ us hl=>match us,hl with | [_],_=>rfl
  have K_Row_init:=W76 F_Row_init (X2a (P:=P) (base:=base) Fx K_is_word K_is_name F_Row_init) (by simp [DefB.dvs,Y18]) fun _ _ _ _ _ _ _ us its hl hi=>match us,its,hl,hi with | [_,_,_,_,_],[_],_,_=>⟨_,rfl,rfl⟩
  have K_are_names:=Z12 F_are_names (X0d (P:=P) (base:=base) Fx K_is_sequence K_is_name K_are_unlike F_are_names) fun _ _ _ _ _ _ us hl=>match us,hl with | [_],_=>rfl
  have K_names_in:=Z12 F_names_in (X2d (P:=P) (base:=base) Fx K_is_name F_names_in) fun _ _ _ _ _ _ us hl=>match us,hl with | [_,_],_=>rfl
  have K_Tool_row_for:=Z12 F_Tool_row_for (Y45 (P:=P) (base:=base) Fx K_Row_fits F_Tool_row_for) fun _ _ _ _ _ _ us hl=>match us,hl with | [_,_,_],_=>rfl
  have K__law_shuffled:=Z12 F__law_shuffled (Y3k (P:=P) (base:=base) Fx K__law_draw F__law_shuffled) fun _ _ _ _ _ _ us hl=>match us,hl with | [_,_],_=>rfl
  have K_Tool_init:=W76 F_Tool_init (Y99 (P:=P) (base:=base) Fx K_are_names K_is_sequence F_Tool_init) (by simp [DefB.dvs,Y0t]) fun _ _ _ _ _ _ _ us its hl hi=>match us,its,hl,hi with | [_,_,_,_,_],[_],_,_=>⟨_,rfl,rfl⟩
  have K_Tool_becomes:=Z12 F_Tool_becomes (Y44 (P:=P) (base:=base) Fx K_Tool_row_for F_Tool_becomes) fun _ _ _ _ _ _ us hl=>match us,hl with | [_,_,_],_=>rfl
  have K_given_step:=Z12 F_given_step (Y8l (P:=P) (base:=base) Fx K_Tool_becomes K_Step_init K_Tool_row_for F_given_step) fun _ _ _ _ _ _ us hl=>match us,hl with | [_,_,_,_],_=>rfl
  have K_looked_step:=Z12 F_looked_step (Y59 (P:=P) (base:=base) Fx K_Tool_becomes K_Step_init K_Tool_row_for F_looked_step) fun _ _ _ _ _ _ us hl=>match us,hl with | [_,_,_,_],_=>rfl
  have K_carry_steps:=Z12 F_carry_steps (Y55 (P:=P) (base:=base) Fx K_Tool_becomes K_Tool_row_for K_whose_then K_movers K_Step_init F_carry_steps) fun _ _ _ _ _ _ us hl=>match us,hl with | [_,_,_,_],_=>rfl
  have K_is_lost_from:=Z12 F_is_lost_from (Y46 (P:=P) (base:=base) Fx K_Tool_becomes F_is_lost_from) fun _ _ _ _ _ _ us hl=>match us,hl with | [_,_,_],_=>rfl
  have K_Row_read:=Z12 F_Row_read (X2b (P:=P) (base:=base) Fx K_Row_init F_Row_read) fun _ _ _ _ _ _ us hl=>match us,hl with | [_,_],_=>rfl
  have K_delivery_steps:=Z12 F_delivery_steps (Y2o (P:=P) (base:=base) Fx K_given_step F_delivery_steps) fun _ _ _ _ _ _ us hl=>match us,hl with | [_,_,_],_=>rfl
  have K_look_steps:=Z12 F_look_steps (Y8m (P:=P) (base:=base) Fx K_looked_step F_look_steps) fun _ _ _ _ _ _ us hl=>match us,hl with | [_,_],_=>rfl
  have K_editions_to:=Z12 F_editions_to (Y56 (P:=P) (base:=base) Fx K_whose_then K_Step_init K_Tool_becomes K_Tool_row_for K_carry_steps F_editions_to) fun _ _ _ _ _ _ us hl=>match us,hl with | [_,_,_,_,_,_],_=>rfl
  have K_is_stuck:=Z12 F_is_stuck (X2c (P:=P) (base:=base) Fx K_shows_own K_given_step K_looked_step F_is_stuck) fun _ _ _ _ _ _ us hl=>match us,hl with | [_,_,_],_=>rfl
  have K_Tool_read:=Z12 F_Tool_read (X0a (P:=P) (base:=base) Fx K_names_in K_Row_read K_Tool_init F_Tool_read) fun _ _ _ _ _ _ us hl=>match us,hl with | [_,_],_=>rfl
  have K_edition_steps:=Z12 F_edition_steps (Y3m (P:=P) (base:=base) Fx K_is_let K_editions_to F_edition_steps) fun _ _ _ _ _ _ us hl=>match us,hl with | [_,_,_,_],_=>rfl
  have K_shows_fault:=Z12 F_shows_fault (Y6b (P:=P) (base:=base) Fx K_is_of_others K_is_stuck F_shows_fault) fun _ _ _ _ _ _ us hl=>match us,hl with | [_,_,_],_=>rfl
  have K_steps_to_fault:=Z12 F_steps_to_fault (Y2p (P:=P) (base:=base) Fx K_given_step K_shows_own K_delivery_steps K_look_steps F_steps_to_fault) fun _ _ _ _ _ _ us hl=>match us,hl with | [_,_,_,_],_=>rfl
  have K__law_plain:=Z12 F__law_plain (Y8j (P:=P) (base:=base) Fx K_Tool_read F__law_plain) fun _ _ _ _ _ _ us hl=>match us,hl with | [_,_,_],_=>rfl
  have K_all_steps:=Z12 F_all_steps (X0c (P:=P) (base:=base) Fx K_delivery_steps K_look_steps K_edition_steps F_all_steps) fun _ _ _ _ _ _ us hl=>match us,hl with | [_,_,_,_],_=>rfl
  have K_is_met:=Z12 F_is_met (X75 (P:=P) (base:=base) Fx K_shows_fault K_steps_to_fault K_is_lost_from F_is_met) fun _ _ _ _ _ _ us hl=>match us,hl with | [_,_,_,_],_=>rfl
  have K_Closure_go_from:=Z12 F_Closure_go_from (Y1p (P:=P) (base:=base) Fx K_Closure_note K_all_steps K_edition_steps F_Closure_go_from) fun _ _ _ _ _ _ us hl=>match us,hl with | [_,_,_],_=>rfl
  have K_is_closed:=Z12 F_is_closed (X0e (P:=P) (base:=base) Fx K_all_steps F_is_closed) fun _ _ _ _ _ _ us hl=>match us,hl with | [_,_,_],_=>rfl
  have K_Closure_init:=Z12 F_Closure_init (Y42 (P:=P) (base:=base) Fx K_begun K_Closure_go_from F_Closure_init) fun _ _ _ _ _ _ us hl=>match us,hl with | [_,_,_],_=>rfl
  have K_paper_holds:=Z12 F_paper_holds (Y6a (P:=P) (base:=base) Fx K_need_lets K_need_fault K_is_standing K_begun K_is_closed K_is_met F_paper_holds) fun _ _ _ _ _ _ us hl=>match us,hl with | [_,_,_,_],_=>rfl
  have K_paper:=Z12 F_paper (W1m (P:=P) (base:=base) Fx K_need_lets K_need_fault K_Closure_init K_is_met F_paper) fun _ _ _ _ _ _ us hl=>match us,hl with | [_,_,_],_=>rfl
  have K_standings:=Z12 F_standings (X0h (P:=P) (base:=base) Fx K_Closure_init K_need_lets F_standings) fun _ _ _ _ _ _ us hl=>match us,hl with | [_,_],_=>rfl
  exact W8w (P:=P) (base:=base) Fx K__law_source K__law_shuffled K__law_plain K__law_thirteen K_standings K_paper_holds K_paper F_law
end Lw
set_option maxHeartbeats 4000000
namespace Bv
open PySem PySem.Spec L2
open PyProof.Rows hiding St
variable [HasW]
theorem X3i {t:Tg} {body:MS} (I:Nat→Ev→Sto→Prop):∀ {xs:List X} {k:Nat} {e:Ev} {S:Sto},I k e S→(∀ i x,xs[i]?=some x→∀ e S,I (k + i) e S→∃ e1 e2 S2,t.asg S x e=some e1∧body e1 S = .go (.nx e2) S2∧I (k + i + 1) e2 S2)→∃ e2 S2,Z8r t .free body xs e S = .go (.nx e2) S2∧I (k + xs.length) e2 S2
  | [],k,e,S,h,_=>⟨e,S,by simp [Z8r,Lk.ok],h⟩
  | x :: xs,k,e,S,h,step=>by
    obtain ⟨e1,e2,S2,h1,h2,h3⟩:=step 0 x rfl e S h
    obtain ⟨e3,S3,h4,h5⟩:=X3i I (xs:=xs) (k:=k + 1) h3 fun i y hy e S hI=>by
      have:=step (i + 1) y (by simpa using hy) e S (by rw [show k + (i + 1)=k + 1 + i by omega]; exact hI)
      rw [show k + (i + 1) + 1=k + 1 + i + 1 by omega] at this
      exact this
    exact ⟨e3,S3,by simp [Z8r,Lk.ok,h1,h2,h4],by rw [List.length_cons,show k + (xs.length + 1)=k + 1 + xs.length by omega]; exact h5⟩
theorem Y8s {t:Tg} {mi:MIt} {body:MS} {e:Ev} {S S1:Sto} {xs:List X} {l:Lk} (h:mi e S = .ok (xs,l) S1):Z2o t mi body e S=Z8r t l body xs e S1:=by
  unfold Z2o
  rw [h]
  rfl
theorem X65 {ms:MG (List X)} {e:Ev} {S S1:Sto} {n:Int} (h:ms e S = .ok [.d (.int n)] S1) (hs:Y7d n=true):Y9l ms e S = .ok (Bv.upTo 0 n.toNat, .free) S1:=by
  unfold Y9l
  rw [h]
  have e1:W1y [.d (.int n)]=if Y7d n then some (Bv.upTo 0 n.toNat, .free) else none:=rfl
  show Z5r (W1y [.d (.int n)]) S1=_
  rw [e1,if_pos hs]
  rfl
theorem X5g {n:Nat} (h:n < 1000):Y7d n=true:=by
  unfold Y7d
  simp
  omega
theorem Z9w {m1 m2:MS} {e e1:Ev} {S S1:Sto} (h:m1 e S = .go (.nx e1) S1):Y2 m1 m2 e S=m2 e1 S1:=by
  unfold Y2
  rw [h]
  rfl
theorem X8l {N:Nat} {mb:MS} {xs:List X} {S S1 T:Sto} {e:Ev} (h:mb (ev0 N xs) S = .go (.nx e) S1) (h2:cut S.length S1=some T):X2f N mb xs S = .ok (.d .non) T:=by
  unfold X2f
  rw [h]
  show (match Z3l S.length S1 (X.d .non),cut S.length S1 with
    | some y,some T=>R.ok y T
    | _,_=>R.ok (X.d .non) S1)=_
  rw [h2]
  rfl
theorem X7l {C:Str} {g:List X→Sto→R X} {xs:List X} {S S1 T:Sto} {d:D} (h:g (.r S.length :: xs) (S++[.ins C []]) = .ok (.d .non) S1) (h1:frz S1 S.length=some d) (h2:cut S.length S1=some T):made C mkF g xs S = .ok (.d d) T:=by
  unfold made
  rw [h]
  show (match frz S1 S.length,cut S.length S1 with
    | some d,some T=>R.ok (X.d d) T
    | _,_ => .bad)=_
  rw [h1,h2]
theorem X8m {N:Nat} {mb:MS} {xs:List X} {S S1 T:Sto} {x y:X} (h:mb (ev0 N xs) S = .go (.rt x) S1) (h1:Z3l S.length S1 x=some y) (h2:cut S.length S1=some T):X2f N mb xs S = .ok y T:=by
  unfold X2f
  rw [h]
  show (match Z3l S.length S1 x,cut S.length S1 with
    | some y,some T=>R.ok y T
    | _,_ => .ok x S1)=_
  rw [h1,h2]
def OkS (S:Sto):Prop:=S.all (okO S.length)=true
theorem OkS.cut0 {S:Sto} (h:OkS S):cut S.length S=some S:=by
  unfold cut
  rw [List.take_length,if_pos (show S.all (okO S.length)=true from h)]
theorem Z9u {k j:Nat} (h:k ≤ j) {x:X} (a:okX k x=true):okX j x=true:=by
  cases x with
  | d _=>rfl
  | r n=>exact decide_eq_true (Nat.lt_of_lt_of_le (of_decide_eq_true a) h)
theorem W1j {k j:Nat} (h:k ≤ j) {o:O} (a:okO k o=true):okO j o=true:=by
  cases o with
  | lst xs=>exact List.all_eq_true.mpr fun x m=>Z9u h (List.all_eq_true.mp (show xs.all (okX k)=true from a) x m)
  | dic kvs=>exact List.all_eq_true.mpr fun x m=>Z9u h (List.all_eq_true.mp (show (kvs.all fun p=>okX k p.2)=true from a) x m)
  | fdc kvs=>exact List.all_eq_true.mpr fun x m=>Z9u h (List.all_eq_true.mp (show (kvs.all fun p=>okX k p.2)=true from a) x m)
  | tdc kvs=>exact List.all_eq_true.mpr fun x m=>Z9u h (List.all_eq_true.mp (show (kvs.all fun p=>okX k p.2)=true from a) x m)
  | tfc kvs=>exact List.all_eq_true.mpr fun x m=>Z9u h (List.all_eq_true.mp (show (kvs.all fun p=>okX k p.2)=true from a) x m)
  | ins C fs=>exact List.all_eq_true.mpr fun x m=>Z9u h (List.all_eq_true.mp (show (fs.all fun p=>okX k p.2)=true from a) x m)
theorem OkS.cut {S T:Sto} (h:OkS S):Bv.cut S.length (S++T)=some S:=by
  unfold Bv.cut
  rw [List.take_left,if_pos (show S.all (okO S.length)=true from h)]
theorem OkS.set {S:Sto} (h:OkS S) {b:Nat} {o:O} (ho:okO S.length o=true):OkS (S.set b o):=by
  unfold OkS
  rw [List.length_set]
  refine List.all_eq_true.mpr fun x m=>?_
  rcases List.mem_or_eq_of_mem_set m with m | m
  · exact List.all_eq_true.mp h x m
  · rw [m]; exact ho
theorem OkS.push {S:Sto} (h:OkS S) {o:O} (ho:okO (S.length + 1) o=true):OkS (S++[o]):=by
  unfold OkS
  refine List.all_eq_true.mpr fun x m=>?_
  rw [List.length_append,List.length_singleton]
  rcases List.mem_append.mp m with m | m
  · exact W1j (Nat.le_succ _) (List.all_eq_true.mp h x m)
  · rw [List.mem_singleton.mp m]; exact ho
theorem Y0z:OkS []:=rfl
theorem W8m {i j:Int} (h:-(2 ^ 64) < j∧j < 2 ^ 64):X7z (.int i) (.int j)=some (.int (i * j)):=by
  show (if CMul i j then some (D.int (i * j)) else none)=_
  rw [if_pos (show CMul i j from .inr h)]
theorem V1g {i j:Int} (h:-(2 ^ 64) < i∧i < 2 ^ 64):X7z (.int i) (.int j)=some (.int (i * j)):=by
  show (if CMul i j then some (D.int (i * j)) else none)=_
  rw [if_pos (show CMul i j from .inl h)]
theorem X7v {i j:Int} (h:0 < j):X11 (.int i) (.int j)=some (.int (i % j)):=by
  show (if 0 < j then some (D.int (i % j)) else none)=_
  rw [if_pos h]
theorem W2n {i j:Int} (h:0 < j∧j < 1073741824):X1r (.int i) (.int j)=some (.int (i / j)):=by
  show (if CDiv i j then some (D.int (i / j)) else none)=_
  rw [if_pos (show CDiv i j from h)]
theorem Z30 {i j:Int}:Z8j (.int i) (.int j)=some (.int (i + j)):=rfl
theorem Z5g {i j:Int}:V3s (.int i) (.int j)=some (.int (i - j)):=rfl
theorem Y1i {i j:Int}:gtD (.int i) (.int j)=some (.bl (decide (j < i))):=rfl
theorem Y1x {i j:Int}:ltD (.int i) (.int j)=some (.bl (decide (i < j))):=rfl
theorem Y1v {i j:Int}:geD (.int i) (.int j)=some (.bl (decide (j ≤ i))):=rfl
theorem Y2d {i j:Int}:leD (.int i) (.int j)=some (.bl (decide (i ≤ j))):=rfl
theorem Y4f {a b:Str}:PyData.eqv (.str a) (.str b)=decide (a=b):=by
  rw [Bool.eq_iff_iff]
  simp [PyData.eqv]
theorem Z28 {a b:Str}:eqD (.str a) (.str b)=some (.bl (decide (a=b))):=by
  have h:eqD (.str a) (.str b)=some (.bl (PyData.eqv (.str a) (.str b))):=rfl
  rw [h,Y4f]
theorem Z7d {a b:Str}:neD (.str a) (.str b)=some (.bl (!decide (a=b))):=by
  have h:neD (.str a) (.str b)=some (.bl (!PyData.eqv (.str a) (.str b))):=rfl
  rw [h,Y4f]
theorem Y51 {i j:Int}:eqD (.int i) (.int j)=some (.bl (decide (i=j))):=by
  have h:eqD (.int i) (.int j)=some (.bl (i == j)):=by
    show some (D.bl (PyData.eqv (.int i) (.int j)))=_
    simp [PyData.eqv]
  rw [h]
  rfl
theorem Y4 {v:D} {S:Sto}:(X.d v).get S=some v:=rfl
theorem Y50 (l:List D):ds? (l.map X.d)=some l:=by
  induction l with
  | nil=>rfl
  | cons d r ih=>simp [ds?,ih]
theorem Y75 {α:Type} {t:Tg} {mt:MG Bool} {me:M} {e:Ev} {S:Sto} (x:α→X) (f:α→D) (c:α→Bool):∀ {l:List α},(∀ a ∈ l,∃ e1,t.asg S (x a) e=some e1∧mt e1 S = .ok (c a) S∧(c a=true→me e1 S = .ok (.d (f a)) S))→lcL t .free mt me e (l.map x) S = .ok ((l.filter c).map f) S
  | [],_=>by simp [lcL,Lk.ok]
  | a :: l,h=>by
    obtain ⟨e1,h1,h2,h3⟩:=h a (by simp)
    have ih:=Y75 (t:=t) (mt:=mt) (me:=me) (e:=e) (S:=S) x f c (l:=l) fun b hb=>h b (List.mem_cons_of_mem _ hb)
    cases hc:c a with
    | false=>simp [lcL,Lk.ok,h1,h2,hc,R.ne,R.bind,ih]
    | true=>simp [lcL,Lk.ok,h1,h2,hc,h3 hc,R.ne,R.bind,ih]
theorem Y1j {α:Type} {t:Tg} {mi:MIt} {me:M} {vs:List Nat} {e:Ev} {S:Sto} (x:α→X) (f:α→D) {l:List α} (hi:mi e S = .ok (l.map x, .free) S) (hl:l.length ≤ sizeLine) (h:∀ a ∈ l,∃ e1,t.asg S (x a) (Z05 e vs)=some e1∧me e1 S = .ok (.d (f a)) S) :
    Z4p t mi Z0n me vs e S = .ok (.d (.lst (l.map f))) S:=by
  have h1:=Y75 (t:=t) (mt:=Z0n) (me:=me) (e:=Z05 e vs) (S:=S) x f (fun _=>true) (l:=l) fun a ha=>by
    obtain ⟨e1,q1,q2⟩:=h a ha
    exact ⟨e1,q1,rfl,fun _=>q2⟩
  have e0:l.filter (fun _=>true)=l:=List.filter_eq_self.mpr fun _ _=>rfl
  rw [e0] at h1
  unfold Z4p
  rw [hi]
  show (lcL t .free Z0n me (Z05 e vs) (l.map x) S).bind Y3a=_
  rw [h1]
  show Y3a (l.map f) S=_
  unfold Y3a
  rw [if_pos (by rw [List.length_map]; exact hl)]
end Bv
namespace Bv
open PySem PySem.Spec L2
open PyProof.Rows hiding St
variable [HasW]
section
variable {e e1:Ev} {S S1 S2 S3 S4:Sto} {m ma mb mc mo mi mb':M} {ms:MG (List X)} {mt mt2:MG Bool} {x y z:X} {xs ys:List X} {d d1 d2:D} {r:R X} {rb:R Bool} {ro:RO} {b c:Bool} {i:Nat}
theorem Z6 (h:e[i]?=some (some x)):Z3 i e S = .ok x S:=by
  unfold Z3
  rw [h]
theorem V9:m_c d e S = .ok (.d d) S:=rfl
theorem Y1:Z7 e S = .ok [] S:=rfl
theorem Z5 (h1:m e S = .ok x S1) (h2:ms e S1 = .ok xs S2):Z0 m ms e S = .ok (x :: xs) S2:=by
  unfold Z0
  rw [h1]
  show (ms e S1).bind _=_
  rw [h2]
  rfl
theorem Z6g (h1:m e S = .ok x S1) (hi:items S1 x=some ys) (h2:ms e S1 = .ok xs S2):Z0a m ms e S = .ok (ys++xs) S2:=by
  unfold Z0a
  rw [h1]
  show (match items S1 x with
    | some ys=>(ms e S1).bind fun xs S2=>R.ok (ys++xs) S2
    | none => .bad)=_
  rw [hi]
  show (ms e S1).bind _=_
  rw [h2]
  rfl
theorem X8 {f:D→D→Option D} (h1:ma e S = .ok x S1) (h2:mb e S1 = .ok y S2) (h3:x.get S2=some d1) (h4:y.get S2=some d2) (h:f d1 d2=some d):Y5 f ma mb e S = .ok (.d d) S2:=by
  unfold Y5
  rw [h1]
  show (mb e S1).bind _=_
  rw [h2]
  show op2 f S2 x y=_
  unfold op2
  rw [h3,h4]
  show (match f d1 d2 with
    | some d=>R.ok (X.d d) S2
    | none => .bad)=_
  rw [h]
theorem Y7 {g:List X→Sto→R X} (h1:ms e S = .ok xs S1) (h:g xs S1=r):Y0 g ms e S=r:=by
  unfold Y0
  rw [h1]
  exact h
theorem W4 {n:Nat} {g:List X→Sto→R X} (hl:xs.length=n) (h:g xs S=r):Y9 n (X5 [] g) xs S=r:=by
  unfold Y9 X5
  rw [if_pos (decide_eq_true hl),List.map_nil,List.append_nil]
  exact h
theorem X62:∀ ds:List D,gets S (ds.map X.d)=some ds
  | []=>rfl
  | d :: ds=>by
    show (match (X.d d).get S,gets S (ds.map X.d) with
      | some d,some l=>some (d :: l)
      | _,_=>none)=_
    rw [X62 ds]
    rfl
theorem W2s:∀ ds:List D,(ds.map X.d).all X.isD=true
  | []=>rfl
  | d :: ds=>by
    rw [List.map_cons,List.all_cons,W2s ds]
    rfl
theorem W7s {g:List D→PR} {ds:List D} (hx:xs=ds.map X.d) (h:g ds = .ok d):callP g xs S = .ok (.d d) S:=by
  subst hx
  unfold callP
  rw [X62,W2s]
  show (match g ds with
    | .ok d=>if true || d.noL then R.ok (X.d d) S else .bad
    | .err C fs=>if true || D.noLf fs then .err C fs S else .bad
    | .bad => .bad)=_
  rw [h]
  rfl
theorem Y3g {g:List D→PR} (h:g [d1] = .ok d):callP g [.d d1] S = .ok (.d d) S:=W7s (ds:=[d1]) rfl h
theorem Y9f {g:List D→PR} (h:g [d1,d2] = .ok d):callP g [.d d1, .d d2] S = .ok (.d d) S:=W7s (ds:=[d1,d2]) rfl h
theorem Z49 {g:List D→PR} {d3:D} (h:g [d1,d2,d3] = .ok d):callP g [.d d1, .d d2, .d d3] S = .ok (.d d) S:=W7s (ds:=[d1,d2,d3]) rfl h
theorem W4i {g:List D→PR} {ds:List D} (hx:gets S xs=some ds) (h:g ds = .ok d) (hn:d.noL=true):callP g xs S = .ok (.d d) S:=by
  unfold callP
  rw [hx]
  show (match g ds with
    | .ok d=>if xs.all X.isD || d.noL then R.ok (X.d d) S else .bad
    | .err C fs=>if xs.all X.isD || D.noLf fs then .err C fs S else .bad
    | .bad => .bad)=_
  rw [h]
  show (if xs.all X.isD || d.noL then R.ok (X.d d) S else .bad)=_
  rw [hn,Bool.or_true]
  rfl
theorem Z3u {j:Int} (h1:ma e S = .ok x S1) (h2:mb e S1 = .ok (.d (.int j)) S2) (h:ixO S2 x j=some z):Z1m ma mb e S = .ok z S2:=by
  unfold Z1m
  rw [h1]
  show (mb e S1).bind _=_
  rw [h2]
  show Z5r ((Z8c (.d (.int j))).bind (ixO S2 x)) S2=_
  show Z5r (ixO S2 x j) S2=_
  rw [h]
  rfl
theorem U6 {Cs:List Str} {f:Str} (h1:m e S = .ok x S1) (h:Z3j Cs f S1 x=some z):X4 Cs f m e S = .ok z S1:=by
  unfold X4
  rw [h1]
  show Z5r (Z3j Cs f S1 x) S1=_
  rw [h]
  rfl
theorem W7p:∀ ds:List D,ds? (ds.map X.d)=some ds
  | []=>rfl
  | d :: ds=>by
    show (match X.d d,ds? (ds.map X.d) with
      | .d v,some l=>some (v :: l)
      | _,_=>none)=_
    rw [W7p ds]
theorem Z1r {ds:List D} (h1:ms e S = .ok xs S1) (hd:ds? xs=some ds) (hl:ds.length ≤ sizeLine):V4 ms e S = .ok (.d (.tup ds)) S1:=by
  unfold V4
  rw [h1]
  show Z4f xs S1=_
  unfold Z4f
  rw [hd]
  show (if ds.length ≤ sizeLine then _ else _)=_
  rw [if_pos hl]
theorem Z2l {ds:List D} (h1:ms e S = .ok xs S1) (hd:ds? xs=some ds) (hl:ds.length ≤ sizeLine):Q7 ms e S = .ok (.d (.lst ds)) S1:=by
  unfold Q7
  rw [h1]
  show Z4d xs S1=_
  unfold Z4d
  rw [hd]
  show (if ds.length ≤ sizeLine then _ else _)=_
  rw [if_pos hl]
theorem Z7b (h1:ms e S = .ok xs S1) (hl:xs.length ≤ sizeLine):Q8 ms e S = .ok (.r S1.length) (S1++[.lst xs]):=by
  unfold Q8
  rw [h1]
  show Z4e xs S1=_
  unfold Z4e
  rw [if_pos hl]
theorem Y4i:Z5n e S = .ok none S:=rfl
theorem Z5a {j:Int} (h:m e S = .ok (.d (.int j)) S1):Q4 m e S = .ok (some j) S1:=by
  unfold Q4
  rw [h]
  rfl
theorem Z4a {ml mh:MG (Option Int)} {lo hi:Option Int} (h1:m e S = .ok x S1) (h2:ml e S1 = .ok lo S2) (h3:mh e S2 = .ok hi S3) (h:slX S3 x lo hi=some z):V8 m ml mh e S = .ok z S3:=by
  unfold V8
  rw [h1]
  show (ml e S1).bind _=_
  rw [h2]
  show (mh e S2).bind _=_
  rw [h3]
  show Z5r (slX S3 x lo hi) S3=_
  rw [h]
  rfl
theorem Y1f {ty:Sto→X→Bool} {g:X→List X→Sto→R X} (h1:mo e S = .ok x S1) (ht:ty S1 x=true) (h2:ms e S1 = .ok xs S2) (h:g x xs S2=r):Z3b ty g mo ms e S=r:=by
  unfold Z3b
  rw [h1]
  show (if ty S1 x then (ms e S1).bind fun xs S2=>g x xs S2 else .bad)=_
  rw [ht,h2]
  exact h
theorem W2m {g:Str→X→Sto→R X} {a:Str} (h1:mo e S = .ok (.d (.str a)) S1) (h2:m e S1 = .ok y S2) (h:g a y S2=r):Z9y g mo m e S=r:=by
  unfold Z9y
  rw [h1]
  show (m e S1).bind _=_
  rw [h2]
  exact h
theorem Z5y {C f:Str} {g:List X→Sto→R X} (h1:mo e S = .ok x S1) (ho:isOf C f S1 x=true) (h2:ms e S1 = .ok xs S2) (h:g (x :: xs) S2=r):Z1n C f g mo ms e S=r:=by
  unfold Z1n
  rw [h1]
  show (if isOf C f S1 x then (ms e S1).bind fun xs S2=>g (x :: xs) S2 else .bad)=_
  rw [ho,h2]
  exact h
theorem X96 {C:Str} {g:List X→Sto→R X} (h1:mo e S = .ok (.d (.gl C)) S1) (h2:ms e S1 = .ok xs S2) (h:g (.d (.gl C) :: xs) S2=r):Z9c C g mo ms e S=r:=by
  unfold Z9c
  rw [h1]
  show (if decide (C=C) then (ms e S1).bind fun xs S2=>g (.d (.gl C) :: xs) S2 else .bad)=_
  rw [if_pos (decide_eq_true rfl),h2]
  exact h
theorem Y6x (h1:mt e S = .ok true S1) (h:ma e S1=r):Z56 mt ma mb e S=r:=by
  unfold Z56
  rw [h1]
  exact h
theorem Y6w (h1:mt e S = .ok false S1) (h:mb e S1=r):Z56 mt ma mb e S=r:=by
  unfold Z56
  rw [h1]
  exact h
theorem Z0v (h:m e S = .ok (.d (.bl b)) S1):Z0d m e S = .ok b S1:=by
  unfold Z0d
  rw [h]
  rfl
theorem W1 (h:m e S = .ok x S1) (ht:Z0e S1 x=some b):Y6 m e S = .ok b S1:=by
  unfold Y6
  rw [h]
  show (match Z0e S1 x with
    | some b=>R.ok b S1
    | none => .bad)=_
  rw [ht]
theorem Z4v (h:mt e S = .ok b S1):W8 mt e S = .ok (!b) S1:=by
  unfold W8
  rw [h]
  rfl
theorem Z3a (h:mt e S = .ok true S1):W8 mt e S = .ok false S1:=Z4v h
theorem X6x (h:mt e S = .ok true S1) (h2:mt2 e S1=rb):Q3 mt mt2 e S=rb:=by
  unfold Q3
  rw [h]
  exact h2
theorem X6w (h:mt e S = .ok false S1):Q3 mt mt2 e S = .ok false S1:=by
  unfold Q3
  rw [h]
  rfl
theorem W2l (h:mt e S = .ok true S1):Z0i mt mt2 e S = .ok true S1:=by
  unfold Z0i
  rw [h]
  rfl
theorem Z34 (h:mt e S = .ok false S1) (h2:mt2 e S1=rb):Z0i mt mt2 e S=rb:=by
  unfold Z0i
  rw [h]
  exact h2
theorem Z4g (h:mt e S = .ok b S) (h2:b=true→mt2 e S = .ok c S):Q3 mt mt2 e S = .ok (b && c) S:=by
  cases b with
  | true=>exact X6x h (h2 rfl)
  | false=>exact X6w h
theorem Y9h (h:mt e S = .ok b S) (h2:b=false→mt2 e S = .ok c S):Z0i mt mt2 e S = .ok (b || c) S:=by
  cases b with
  | true=>exact W2l h
  | false=>exact Z34 h (h2 rfl)
theorem V0v (h:mt e S = .ok b S1):Y0v mt e S = .ok (.d (.bl b)) S1:=by
  unfold Y0v
  rw [h]
  rfl
theorem Z6z {m1 m2:MS} (h1:m1 e S = .go (.nx e1) S1) (h2:m2 e1 S1=ro):Y2 m1 m2 e S=ro:=by
  unfold Y2
  rw [h1]
  exact h2
theorem Y7g:W7 e S = .go (.nx e) S:=rfl
theorem W9o (h:m e S = .ok x S1):V6 i m e S = .go (.nx (e.set i (some x))) S1:=by
  unfold V6
  rw [h]
  rfl
theorem W6e (h:m e S = .ok x S1):U1 m e S = .go (.nx e) S1:=by
  unfold U1
  rw [h]
  rfl
theorem W9n (h:m e S = .ok x S1):Z2h m e S = .go (.rt x) S1:=by
  unfold Z2h
  rw [h]
  rfl
theorem W6f (h:m e S = .ok x S1) (hg:x.get S1=some d):X6 m e S = .go (.rp d) S1:=by
  unfold X6
  rw [h]
  show (match x.get S1 with
    | some d=>RO.go (.rp d) S1
    | none => .bad)=_
  rw [hg]
theorem W6g {ds:List D} (h:ms e S = .ok xs S1) (hg:gets S1 xs=some ds) (hl:ds.length ≤ sizeLine):Z1d ms e S = .go (.rp (.tup ds)) S1:=by
  unfold Z1d
  rw [h]
  show (match gets S1 xs with
    | some ds=>if ds.length ≤ sizeLine then RO.go (.rp (.tup ds)) S1 else .bad
    | none => .bad)=_
  rw [hg]
  show (if ds.length ≤ sizeLine then _ else _)=_
  rw [if_pos hl]
theorem Y7f {m1 m2:MS} (h:mt e S = .ok false S1) (h1:m2 e S1=ro):Z0k mt m1 m2 e S=ro:=by
  unfold Z0k
  rw [h]
  exact h1
theorem W9j {t:Tg} (h:m e S = .ok x S1) (ha:t.asg S1 x e=some e1):Z14 t m e S = .go (.nx e1) S1:=by
  unfold Z14
  rw [h]
  show (match t.asg S1 x e with
    | some e1=>RO.go (.nx e1) S1
    | none => .bad)=_
  rw [ha]
theorem W9m {i j:Nat} (h:ms e S = .ok [x,y] S1):Z2j i j ms e S = .go (.nx ((e.set i (some x)).set j (some y))) S1:=by
  unfold Z2j
  rw [h]
  rfl
theorem Y5n {Cs:List Str} {f:Str} (h1:m e S = .ok y S1) (h2:mo e S1 = .ok x S2) (h:Z8a Cs f S2 x y=some S3):Z0s Cs f mo m e S = .go (.nx e) S3:=by
  unfold Z0s
  rw [h1]
  show (mo e S1).so e _=_
  rw [h2]
  show (match Z8a Cs f S2 x y with
    | some S3=>RO.go (.nx e) S3
    | none => .bad)=_
  rw [h]
theorem W9k {f:D→D→Option D} (h1:Z3 i e S = .ok (.d d1) S) (h2:m e S = .ok (.d d2) S1) (h:f d1 d2=some d):X2g i f m e S = .go (.nx (e.set i (some (.d d)))) S1:=by
  unfold X2g
  rw [h1]
  show (m e S).so e _=_
  rw [h2]
  show (op2 f S1 (.d d1) (.d d2)).so e _=_
  have:op2 f S1 (.d d1) (.d d2) = .ok (.d d) S1:=by
    show (match f d1 d2 with
      | some d=>R.ok (X.d d) S1
      | none => .bad)=_
    rw [h]
  rw [this]
  rfl
theorem Z10 {l:Lk} (h:m e S = .ok x S1) (hw:Y1u S1 x=some (xs,l)):Q9 m e S = .ok (xs,l) S1:=by
  unfold Q9
  rw [h]
  show Z5r (Y1u S1 x) S1=_
  rw [hw]
  rfl
theorem W9l {t:Tg} {mt:MIt} {body:MS} {l:Lk} (h:mt e S = .ok (xs,l) S1) (h2:Z8r t l body xs e S1=ro):Z2o t mt body e S=ro:=by
  unfold Z2o
  rw [h]
  exact h2
theorem W4o {t:Tg} {body:MS} {l:Lk} (h:l.ok S=true):Z8r t l body [] e S = .go (.nx e) S:=by
  unfold Z8r
  rw [if_pos h]
theorem Y9g {k:Bool} (h:m e S = .ok x S1) (ht:Z0e S1 x=some k):Z3h m e S = .ok (.d (.bl (!k))) S1:=V0v (Z4v (W1 h ht))
theorem Y71 (h:ma e S = .ok x S1) (ht:Z0e S1 x=some true) (h2:mb e S1=r):Z1y ma mb e S=r:=by
  unfold Z1y
  rw [h]
  show (match Z0e S1 x with
    | some true=>mb e S1
    | some false => .ok x S1
    | none => .bad)=_
  rw [ht]
  exact h2
theorem X3e (h:ma e S = .ok x S1) (ht:Z0e S1 x=some false):Z1y ma mb e S = .ok x S1:=by
  unfold Z1y
  rw [h]
  show (match Z0e S1 x with
    | some true=>mb e S1
    | some false => .ok x S1
    | none => .bad)=_
  rw [ht]
theorem W7t (h:ma e S = .ok x S1) (ht:Z0e S1 x=some true):Z5k ma mb e S = .ok x S1:=by
  unfold Z5k
  rw [h]
  show (match Z0e S1 x with
    | some true=>R.ok x S1
    | some false=>mb e S1
    | none => .bad)=_
  rw [ht]
theorem W4j (h:ma e S = .ok x S1) (ht:Z0e S1 x=some false) (h2:mb e S1=r):Z5k ma mb e S=r:=by
  unfold Z5k
  rw [h]
  show (match Z0e S1 x with
    | some true=>R.ok x S1
    | some false=>mb e S1
    | none => .bad)=_
  rw [ht]
  exact h2
theorem Z4h {p q:Bool} (h:ma e S = .ok (.d (.bl p)) S) (h2:mb e S = .ok (.d (.bl q)) S):Z5k ma mb e S = .ok (.d (.bl (p || q))) S:=by
  cases p with
  | true=>exact W7t h rfl
  | false=>exact W4j h rfl h2
theorem Y1e {p q:Bool} (h:ma e S = .ok (.d (.bl p)) S) (h2:mb e S = .ok (.d (.bl q)) S):Z1y ma mb e S = .ok (.d (.bl (p && q))) S:=by
  cases p with
  | true=>exact Y71 h rfl h2
  | false=>exact X3e h rfl
theorem Y4h {tab:List (String × Bool)} {own:List (Str × Bool)} (h:m e S = .ok x S1) (hi:isX tab own S1 x=some b):Z57 tab own m e S = .ok (.d (.bl b)) S1:=by
  unfold Z57
  rw [h]
  show Z5r ((isX tab own S1 x).map fun b=>X.d (.bl b)) S1=_
  rw [hi]
  rfl
section
variable {C p:Str} {fs:List (Str × D)} {v:D} {tab:List (Str × Bool)} {mb:MS} {j:Nat} {sx:SX}
theorem W6h {m1 m2:MS} {x:X} (h:m1 e S = .go (.rt x) S1):Y2 m1 m2 e S = .go (.rt x) S1:=by
  unfold Y2
  rw [h]
  rfl
theorem X80 {m1 m2:MS} {d:D} (h:m1 e S = .go (.rp d) S1):Y2 m1 m2 e S = .go (.rp d) S1:=by
  unfold Y2
  rw [h]
  rfl
end
end
section
variable {e e1:Ev} {S S1 S2 S3 S4:Sto} {m ma mb mo mi mx:M} {ms:MG (List X)} {x y z:X} {xs:List X} {d k:D} {i:Nat} {r:R X}
theorem X1p (h1:mo e S = .ok x S1) (h2:mi e S1 = .ok y S2) (h:X1o S2 x y=r):Y1l mo mi e S=r:=by
  unfold Y1l
  rw [h1]
  show (mi e S1).bind _=_
  rw [h2]
  exact h
theorem W6d {p:Nat × List (D × X) × D} (h1:m e S = .ok z S1) (h2:mo e S1 = .ok x S2) (h3:mi e S2 = .ok y S3) (h:Y8q S3 x y=some p):Y3e mo mi m e S = .go (.nx e) (S3.set p.1 (.dic (Y69 p.2.1 p.2.2 z))):=by
  unfold Y3e
  rw [h1]
  show (mo e S1).so e _=_
  rw [h2]
  show (mi e S2).so e _=_
  rw [h3]
  show (match Y8q S3 x y with
    | some p=>RO.go (.nx e) (S3.set p.1 (.dic (Y69 p.2.1 p.2.2 z)))
    | none => .bad)=_
  rw [h]
end
end Bv
namespace Bv
open PySem PySem.Spec L2
open PyProof.Rows hiding St
variable [HasW]
theorem hz4 {n:Nat} (h:n < 2000):n ≤ sizeLine:=by rw [sizeLine_eq]; omega
def W92:PR→D→Bool
  | .ok d,e=>decide (d=e)
  | _,_=>false
theorem X0j {ds:List D} {l:List PyData} (h:pys ds=some l):(D.lst ds).py=some (.list l):=by
  show (match pys ds with
    | some l=>some (PyData.list l)
    | none=>none)=_
  rw [h]
theorem X0k {ds:List D} {l:List PyData} (h:pys ds=some l):(D.tup ds).py=some (.tuple l):=by
  show (match pys ds with
    | some l=>some (PyData.tuple l)
    | none=>none)=_
  rw [h]
theorem Z9v {d:D} {ds:List D} {p:PyData} {l:List PyData} (h:d.py=some p) (h2:pys ds=some l):pys (d :: ds)=some (p :: l):=by
  show (match d.py,pys ds with
    | some p,some l=>some (p :: l)
    | _,_=>none)=_
  rw [h,h2]
theorem V0o {a b:D} {p q:PyData} (ha:a.py=some p) (hb:b.py=some q) (da:p.depth ≤ 64) (db:q.depth ≤ 64):eqD a b=some (.bl (PyData.eqv p q)):=by
  unfold eqD
  rw [ha,hb]
  show (if dOk p && dOk q then some (D.bl (PyData.eqv p q)) else none)=_
  rw [show dOk p=true from decide_eq_true da,show dOk q=true from decide_eq_true db]
  rfl
theorem V1h {a b:D} {p q:PyData} (ha:a.py=some p) (hb:b.py=some q) (da:p.depth ≤ 64) (db:q.depth ≤ 64):neD a b=some (.bl (!PyData.eqv p q)):=by
  unfold neD
  rw [ha,hb]
  show (if dOk p && dOk q then some (D.bl (!PyData.eqv p q)) else none)=_
  rw [show dOk p=true from decide_eq_true da,show dOk q=true from decide_eq_true db]
  rfl
theorem Y4n {α:Type} {t:Tg} {mi:MIt} {mt:MG Bool} {me:M} {vs:List Nat} {e:Ev} {S:Sto} (x:α→X) (f:α→D) (c:α→Bool) {l:List α} (hi:mi e S = .ok (l.map x, .free) S) (hl:l.length ≤ sizeLine) (h:∀ a ∈ l,∃ e1,t.asg S (x a) (Z05 e vs)=some e1∧mt e1 S = .ok (c a) S∧(c a=true→me e1 S = .ok (.d (f a)) S)) :
    Z4p t mi mt me vs e S = .ok (.d (.lst ((l.filter c).map f))) S:=by
  have h1:=Y75 (t:=t) (mt:=mt) (me:=me) (e:=Z05 e vs) (S:=S) x f c (l:=l) h
  unfold Z4p
  rw [hi]
  show (lcL t .free mt me (Z05 e vs) (l.map x) S).bind Y3a=_
  rw [h1]
  show Y3a ((l.filter c).map f) S=_
  unfold Y3a
  have:=List.length_filter_le c l
  rw [if_pos (by rw [List.length_map]; omega)]
theorem W06 {i j:Int}:neD (.int i) (.int j)=some (.bl (!decide (i=j))):=by
  have h:neD (.int i) (.int j)=some (.bl (!(i == j))):=by
    show some (D.bl (!PyData.eqv (.int i) (.int j)))=_
    simp [PyData.eqv]
  rw [h]
  rfl
section
variable {S:Sto} {n:Nat} {x:X} {xs:List X} {ds:List D}
theorem W9v (h:S[n]?=some (.lst (ds.map X.d))):Y5r [.r n] S = .ok (.d (.tup ds)) S:=by simp [Y5r,items,h,Y50]
theorem X3r (h:S[n]?=some (.lst xs)):Z3i [.r n] S = .ok (.d (.int xs.length)) S:=by simp [Z3i,Z7n,items,h]
theorem W78:Z3i [.d (.lst ds)] S = .ok (.d (.int ds.length)) S:=by simp [Z3i,Z7n,items]
theorem W44:Z3i [.d (.tup ds)] S = .ok (.d (.int ds.length)) S:=by simp [Z3i,Z7n,items]
theorem W6y:Y5r [.d (.lst ds)] S = .ok (.d (.tup ds)) S:=by simp [Y5r,items,Y50]
theorem Y03 (h:S[n]?=some (.lst xs)) (hl:xs.length < sizeLine):Q0 (.r n) [x] S = .ok (.d .non) (S.set n (.lst (xs++[x]))):=by simp [Q0,Z25,h,hl]
theorem Z4b (h:S[n]?=some (.lst xs)):Q5 S (.r n)=true:=by simp [Q5,h]
theorem Z6r (h:S[n]?=some (.lst (ds.map X.d))):(X.r n).get S=some (.lst ds):=by simp [X.get,h,Y50]
end
section
variable {α β:Type}
theorem W50:∀ {kvs:List (D × α)} {k:D} {v:α},(∀ p ∈ kvs,p.1 ≠ k)→Y69 kvs k v=kvs++[(k,v)]:=fun {kvs k v} h=>by
  unfold Y69
  rw [if_neg]
  intro z
  obtain ⟨p,hp,e⟩:=List.any_eq_true.mp z
  exact h p hp (of_decide_eq_true e)
theorem W51:∀ {kvs:List (D × α)} {k:D} {v:α},(∀ p ∈ kvs,p.1=k→p.2=v)→(∃ p ∈ kvs,p.1=k)→Y69 kvs k v=kvs:=fun {kvs k v} h ⟨p,hp,e⟩=>by
  unfold Y69
  rw [if_pos (List.any_eq_true.mpr ⟨p,hp,decide_eq_true e⟩)]
  have:∀ q ∈ kvs,(if q.1=k then (q.1,v) else q)=q:=fun q hq=>by
    split
    · rename_i c
      rw [← h q hq c]
    · rfl
  rw [List.map_congr_left this,List.map_id']
end
end Bv
namespace Bv
open PySem PySem.Spec L2
open PyProof.Rows hiding St
variable [HasW]
def Fw (r:RO) (Q:RO→Prop):Prop:=Q r
def Nx (P:Ev→Sto→Prop) (r:RO):Prop:=∃ e S,r = .go (.nx e) S∧P e S
section
variable {e e1 e2:Ev} {S S1 S2 S3 S4:Sto} {m ma mb mc mo mi mx:M} {ms:MG (List X)} {mt mt2:MG Bool} {x y z w:X} {xs ys:List X} {d d1 d2 d3 d4:D} {r:R X} {rb:R Bool} {ro:RO} {b c b1 b2:Bool} {i j l:Nat} {Q Q2:RO→Prop} {k k1 k2:MS}
theorem V0q {a b:Int} (h:a=b):eqD (.int a) (.int b)=some (.bl true):=by rw [Y51,decide_eq_true h]
theorem W2d {A B:List D} (h:A.length + B.length < 2000):Z8j (.lst A) (.lst B)=some (.lst (A++B)):=if_pos (hz4 (by omega))
theorem W7e {A B:List D} (h:A.length + B.length < 2000):Z8j (.tup A) (.tup B)=some (.tup (A++B)):=if_pos (hz4 (by omega))
theorem Fw.mono (h:Fw ro Q) (h2:∀ r,Q r→Q2 r):Fw ro Q2:=h2 _ h
theorem Fw.seq (h:k1 e S = .go (.nx e1) S1) (h2:Fw (k e1 S1) Q):Fw (Y2 k1 k e S) Q:=by
  unfold Fw
  rw [Z6z h rfl]
  exact h2
theorem Fw.seqN {P:Ev→Sto→Prop} (h:Fw (k1 e S) (Nx P)) (h2:∀ e1 S1,P e1 S1→Fw (k e1 S1) Q):Fw (Y2 k1 k e S) Q:=by
  obtain ⟨e1,S1,h3,h4⟩:=h
  exact Fw.seq h3 (h2 e1 S1 h4)
theorem Fw.one (h:Fw (Y2 k W7 e S) Q):Fw (k e S) Q:=by
  have q:Y2 k W7 e S=k e S:=by
    unfold Y2
    cases h:k e S with
    | go o T=>cases o <;> rfl
    | err C fs e T=>rfl
    | bad=>rfl
  unfold Fw at h ⊢
  rw [q] at h
  exact h
theorem Fw.nil (h:Q (.go (.nx e) S)):Fw (W7 e S) Q:=h
theorem Fw.seqNil (h:Fw (k e S) Q):Fw (Y2 W7 k e S) Q:=h
theorem Fw.seqSeq (h:Fw (Y2 k1 (Y2 k2 k) e S) Q):Fw (Y2 (Y2 k1 k2) k e S) Q:=by
  have q:Y2 (Y2 k1 k2) k e S=Y2 k1 (Y2 k2 k) e S:=by
    unfold Y2
    cases h:k1 e S with
    | go o T=>cases o <;> rfl
    | err C fs e T=>rfl
    | bad=>rfl
  unfold Fw at h ⊢
  rw [q]
  exact h
theorem Fw.set (h:m e S = .ok x S1) (h2:Fw (k (e.set i (some x)) S1) Q):Fw (Y2 (V6 i m) k e S) Q := .seq (W9o h) h2
theorem Fw.expr (h:m e S = .ok x S1) (h2:Fw (k e S1) Q):Fw (Y2 (U1 m) k e S) Q := .seq (W6e h) h2
theorem Fw.asg {t:Tg} (h:m e S = .ok x S1) (ha:t.asg S1 x e=some e1) (h2:Fw (k e1 S1) Q):Fw (Y2 (Z14 t m) k e S) Q := .seq (W9j h ha) h2
theorem Fw.par (h:ms e S = .ok [x,y] S1) (h2:Fw (k ((e.set i (some x)).set j (some y)) S1) Q):Fw (Y2 (Z2j i j ms) k e S) Q := .seq (W9m h) h2
theorem Fw.fld {Cs:List Str} {f:Str} (h1:m e S = .ok y S1) (h2:mo e S1 = .ok x S2) (h:Z8a Cs f S2 x y=some S3) (h3:Fw (k e S3) Q):Fw (Y2 (Z0s Cs f mo m) k e S) Q := .seq (Y5n h1 h2 h) h3
theorem Fw.dput {p:Nat × List (D × X) × D} (h1:m e S = .ok z S1) (h2:mo e S1 = .ok x S2) (h3:mi e S2 = .ok y S3) (h:Y8q S3 x y=some p) (h4:Fw (k e (S3.set p.1 (.dic (Y69 p.2.1 p.2.2 z)))) Q):Fw (Y2 (Y3e mo mi m) k e S) Q := .seq (W6d h1 h2 h3 h) h4
theorem Fw.aug {f:D→D→Option D} (h1:Z3 i e S = .ok (.d d1) S) (h2:m e S = .ok (.d d2) S1) (h:f d1 d2=some d) (h3:Fw (k (e.set i (some (.d d))) S1) Q):Fw (Y2 (X2g i f m) k e S) Q := .seq (W9k h1 h2 h) h3
theorem Fw.ret (h:m e S = .ok x S1) (h2:Q (.go (.rt x) S1)):Fw (Y2 (Z2h m) k e S) Q:=by
  unfold Fw
  rw [W6h (W9n h)]
  exact h2
theorem Fw.retP (h:m e S = .ok x S1) (hg:x.get S1=some d) (h2:Q (.go (.rp d) S1)):Fw (Y2 (X6 m) k e S) Q:=by
  unfold Fw
  rw [X80 (W6f h hg)]
  exact h2
theorem Fw.retT {ds:List D} (h:ms e S = .ok xs S1) (hg:gets S1 xs=some ds) (hl:ds.length ≤ sizeLine) (h2:Q (.go (.rp (.tup ds)) S1)):Fw (Y2 (Z1d ms) k e S) Q:=by
  unfold Fw
  rw [X80 (W6g h hg hl)]
  exact h2
theorem Fw.if_ (h:mt e S = .ok b S1) (h2:Fw (if b=true then Y2 k1 k e S1 else Y2 k2 k e S1) Q):Fw (Y2 (Z0k mt k1 k2) k e S) Q:=by
  have q:Y2 (Z0k mt k1 k2) k e S=if b=true then Y2 k1 k e S1 else Y2 k2 k e S1:=by
    have z:Z0k mt k1 k2 e S=if b=true then k1 e S1 else k2 e S1:=by unfold Z0k; rw [h]; rfl
    unfold Y2
    rw [z]
    cases b <;> rfl
  unfold Fw at h2 ⊢
  rw [q]
  exact h2
theorem Fw.ift (h:Fw (k1 e S) Q):Fw (if true=true then k1 e S else ro) Q:=h
theorem Fw.iff (h:Fw (k2 e S) Q):Fw (if false=true then ro else k2 e S) Q:=h
theorem Fw.ifc {r1 r2:RO} (h1:b=true→Fw r1 Q) (h2:b=false→Fw r2 Q):Fw (if b=true then r1 else r2) Q:=by
  cases b with
  | true=>exact h1 rfl
  | false=>exact h2 rfl
section
variable {t:Tg} {Cs:List Str} {f C:Str} {f2:D→D→Option D} {mit:MIt} {tab:List (Str × Bool)} {sx:SX} {mx2:Ev→SX}
end
inductive Trn (P P2:Ev→Sto→Prop) (Q:RO→Prop):RO→Prop where
  | nx {ε:Ev} {σ:Sto} (h:P ε σ):Trn P P2 Q (.go (.nx ε) σ)
  | ct {ε:Ev} {σ:Sto} (h:P ε σ):Trn P P2 Q (.go (.ct ε) σ)
  | bk {ε:Ev} {σ:Sto} (h:P2 ε σ):Trn P P2 Q (.go (.bk ε) σ)
  | rt {ξ:X} {σ:Sto} (h:Q (.go (.rt ξ) σ)):Trn P P2 Q (.go (.rt ξ) σ)
  | rp {δ:D} {σ:Sto} (h:Q (.go (.rp δ) σ)):Trn P P2 Q (.go (.rp δ) σ)
  | err {C:Str} {fs:List (Str × D)} {ε:Ev} {σ:Sto} (h:Q (.err C fs ε σ)):Trn P P2 Q (.err C fs ε σ)
theorem X4a (h:Y2 k1 k e S=k1 e S) (hq:Q (k1 e S)):Fw (Y2 k1 k e S) Q:=by
  unfold Fw
  rw [h]
  exact hq
theorem Y19 {α:Type} {t:Tg} {lk:Lk} {body:MS} (f:α→X) (I:List α→Ev→Sto→Prop) (P2:Ev→Sto→Prop) (hok:∀ l e S,I l e S→lk.ok S=true)
    (step:∀ a l e S,I (a :: l) e S→∃ e1,t.asg S (f a) e=some e1∧Fw (body e1 S) (Trn (I l) P2 Q)) :
    ∀ (l:List α) (e:Ev) (S:Sto),I l e S→(∃ e2 S2,Z8r t lk body (l.map f) e S = .go (.nx e2) S2∧(I [] e2 S2 ∨ P2 e2 S2)) ∨ ((∀ e2 S2,Z8r t lk body (l.map f) e S ≠ .go (.nx e2) S2)∧Q (Z8r t lk body (l.map f) e S))
  | [],e,S,h => .inl ⟨e,S,W4o (hok _ _ _ h), .inl h⟩
  | a :: l,e,S,h=>by
    obtain ⟨e1,h1,h2⟩:=step a l e S h
    have u:Z8r t lk body ((a :: l).map f) e S=(match body e1 S with
      | .go (.nx e2) S2=>Z8r t lk body (l.map f) e2 S2
      | .go (.ct e2) S2=>Z8r t lk body (l.map f) e2 S2
      | .go (.bk e2) S2 => .go (.nx e2) S2
      | r=>r):=by
      show Z8r t lk body (f a :: l.map f) e S=_
      rw [Z8r,if_pos (hok _ _ _ h),h1]
      try rfl
    rw [u]
    unfold Fw at h2
    generalize hb:body e1 S=r at h2
    cases h2 with
    | nx h=>exact Y19 f I P2 hok step l _ _ h
    | ct h=>exact Y19 f I P2 hok step l _ _ h
    | bk h=>exact .inl ⟨_,_,rfl, .inr h⟩
    | rt h=>exact .inr ⟨fun _ _ q=>(nomatch q),h⟩
    | rp h=>exact .inr ⟨fun _ _ q=>(nomatch q),h⟩
    | err h=>exact .inr ⟨fun _ _ q=>(nomatch q),h⟩
theorem Fw.for_ {α:Type} {t:Tg} {it:MIt} {lk:Lk} {body:MS} {f:α→X} {l:List α} (hi:it e S = .ok (l.map f,lk) S1) (I:List α→Ev→Sto→Prop) (P2:Ev→Sto→Prop) (h0:I l e S1) (hok:∀ l e S,I l e S→lk.ok S=true)
    (step:∀ a l e S,I (a :: l) e S→∃ e1,t.asg S (f a) e=some e1∧Fw (body e1 S) (Trn (I l) P2 Q)) (fin:∀ e2 S2,I [] e2 S2 ∨ P2 e2 S2→Fw (k e2 S2) Q):Fw (Y2 (Z2o t it body) k e S) Q:=by
  have z:Z2o t it body e S=Z8r t lk body (l.map f) e S1:=W9l hi rfl
  rcases Y19 f I P2 hok step l e S1 h0 with ⟨e2,S2,h,h2⟩ | ⟨h,h2⟩
  · exact .seq (z.trans h) (fin e2 S2 h2)
  · rw [← z] at h h2
    refine X4a ?_ h2
    unfold Y2
    cases q:Z2o t it body e S with
    | go o T=>cases o with
      | nx e2=>exact (h e2 T q).elim
      | _=>rfl
    | err C fs e T=>rfl
    | bad=>rfl
theorem Z9l {body:MS} (I:Nat→Ev→Sto→Prop) (P2:Ev→Sto→Prop)
    (step:∀ n e S,I n e S→∃ b S1,mt e S = .ok b S1∧(b=false→P2 e S1)∧(b=true→∃ n',n=n' + 1∧Fw (body e S1) (Trn (I n') P2 Q))) :
    ∀ (n N:Nat) (e:Ev) (S:Sto),n < N→I n e S→(∃ e2 S2,Z6o mt body N e S = .go (.nx e2) S2∧P2 e2 S2) ∨ ((∀ e2 S2,Z6o mt body N e S ≠ .go (.nx e2) S2)∧Q (Z6o mt body N e S))
  | n,0,e,S,h,_=>absurd h (Nat.not_lt_zero _)
  | n,N + 1,e,S,h,hI=>by
    obtain ⟨b,S1,h1,h2,h3⟩:=step n e S hI
    have u:Z6o mt body (N + 1) e S=if b then (match body e S1 with
      | .go (.nx e2) S2=>Z6o mt body N e2 S2
      | .go (.ct e2) S2=>Z6o mt body N e2 S2
      | .go (.bk e2) S2 => .go (.nx e2) S2
      | r=>r) else .go (.nx e) S1:=by
      rw [Z6o,h1]
      try rfl
    rw [u]
    cases b with
    | false=>exact .inl ⟨_,_,rfl,h2 rfl⟩
    | true =>
      obtain ⟨n',rfl,h4⟩:=h3 rfl
      rw [if_pos rfl]
      unfold Fw at h4
      generalize hb:body e S1=r at h4
      cases h4 with
      | nx h=>exact Z9l I P2 step n' N _ _ (by omega) h
      | ct h=>exact Z9l I P2 step n' N _ _ (by omega) h
      | bk h=>exact .inl ⟨_,_,rfl,h⟩
      | rt h=>exact .inr ⟨fun _ _ q=>(nomatch q),h⟩
      | rp h=>exact .inr ⟨fun _ _ q=>(nomatch q),h⟩
      | err h=>exact .inr ⟨fun _ _ q=>(nomatch q),h⟩
theorem Fw.while_ {body:MS} (n:Nat) (hn:n < 1000000) (I:Nat→Ev→Sto→Prop) (P2:Ev→Sto→Prop) (h0:I n e S)
    (step:∀ n e S,I n e S→∃ b S1,mt e S = .ok b S1∧(b=false→P2 e S1)∧(b=true→∃ n',n=n' + 1∧Fw (body e S1) (Trn (I n') P2 Q))) (fin:∀ e2 S2,P2 e2 S2→Fw (k e2 S2) Q):Fw (Y2 (Z7e mt body) k e S) Q:=by
  have z:Z7e mt body e S=Z6o mt body 1000000 e S:=rfl
  rcases Z9l I P2 step n 1000000 e S hn h0 with ⟨e2,S2,h,h2⟩ | ⟨h,h2⟩
  · exact .seq (z.trans h) (fin e2 S2 h2)
  · rw [← z] at h h2
    refine X4a ?_ h2
    unfold Y2
    cases q:Z7e mt body e S with
    | go o T=>cases o with
      | nx e2=>exact (h e2 T q).elim
      | _=>rfl
    | err C fs e T=>rfl
    | bad=>rfl
theorem Z00 {N:Nat} {mb:MS} {ds:List D} {p:PR} (h:Fw (mb (ev0 N (ds.map .d)) []) (fun r=>Z9q r=p)):Z50 N mb ds=p:=h
theorem W56 {N:Nat} {mb:MS} {xs:List X} {S:Sto} {P:R X→Prop} (h:Fw (mb (ev0 N xs) S) (fun r=>P (trunc S.length (Z8m r)))):P (X2f N mb xs S):=h
theorem Z9k {α:Type} {f:α→D} {l:List α}:Y1u S (.d (.lst (l.map f)))=some (l.map (fun a=>X.d (f a)), .free):=by
  show some ((l.map f).map X.d,Lk.free)=_
  rw [List.map_map]
  rfl
theorem Y00 {α:Type} {f:α→D} {l:List α}:Y1u S (.d (.tup (l.map f)))=some (l.map (fun a=>X.d (f a)), .free):=by
  show some ((l.map f).map X.d,Lk.free)=_
  rw [List.map_map]
  rfl
end
end Bv
namespace Bv
open PySem PySem.Spec L2
open PyProof.Rows hiding St
variable [HasW]
def fl:Nat→D→Bool
  | _, .non=>true
  | _, .int _=>true
  | _, .str _=>true
  | n + 1, .tup ds=>ds.all (fl n)
  | n + 1, .lst ds=>ds.all (fl n)
  | _,_=>false
theorem Z6h {n:Nat} (ih:∀ d,fl n d=true→∃ p,d.py=some p∧p.depth ≤ n):∀ {ds:List D},ds.all (fl n)=true→∃ l,pys ds=some l∧PyData.depthAll l ≤ n
  | [],_=>⟨[],rfl,by simp [PyData.depthAll]⟩
  | d :: r,h=>by
    obtain ⟨h1,h2⟩:=Bool.and_eq_true_iff.mp (show (fl n d && r.all (fl n))=true from h)
    obtain ⟨p,e1,l1⟩:=ih d h1
    obtain ⟨l,e2,l2⟩:=Z6h ih h2
    refine ⟨p :: l,Z9v e1 e2,?_⟩
    simp only [PyData.depthAll]
    omega
theorem Z8q:∀ {n:Nat} {d:D},fl n d=true→∃ p,d.py=some p∧p.depth ≤ n:=by
  intro n
  induction n with
  | zero =>
    intro d h
    cases d <;> first | (cases h; done) | exact ⟨_,rfl,by simp [PyData.depth]⟩
  | succ n ih =>
    intro d h
    cases d with
    | tup ds =>
      obtain ⟨l,e,hl⟩:=Z6h (fun d=>ih (d:=d)) (show ds.all (fl n)=true from h)
      exact ⟨_,X0k e,by simp only [PyData.depth]; omega⟩
    | lst ds =>
      obtain ⟨l,e,hl⟩:=Z6h (fun d=>ih (d:=d)) (show ds.all (fl n)=true from h)
      exact ⟨_,X0j e,by simp only [PyData.depth]; omega⟩
    | _=>first | (cases h; done) | exact ⟨_,rfl,by simp [PyData.depth]⟩
theorem X1s {n:Nat} (ih:∀ {a b:D} {p q:PyData},fl n a=true→fl n b=true→a.py=some p→b.py=some q→PyData.eqv p q=decide (a=b)):∀ {as bs:List D} {l m:List PyData},as.all (fl n)=true→bs.all (fl n)=true→pys as=some l→pys bs=some m→PyData.eqvAll l m=decide (as=bs)
  | [],[],_,_,_,_,e1,e2=>by cases e1; cases e2; simp [PyData.eqvAll]
  | [],b :: bs,_,_,_,h2,e1,e2=>by
    cases e1
    obtain ⟨h3,h4⟩:=Bool.and_eq_true_iff.mp (show (fl n b && bs.all (fl n))=true from h2)
    obtain ⟨p,q1,_⟩:=Z8q h3
    obtain ⟨r,q2,_⟩:=Z6h (fun d=>Z8q (n:=n)) h4
    rw [Z9v q1 q2] at e2
    cases e2
    simp [PyData.eqvAll]
  | a :: as,[],_,_,h1,_,e1,e2=>by
    cases e2
    obtain ⟨h3,h4⟩:=Bool.and_eq_true_iff.mp (show (fl n a && as.all (fl n))=true from h1)
    obtain ⟨p,q1,_⟩:=Z8q h3
    obtain ⟨r,q2,_⟩:=Z6h (fun d=>Z8q (n:=n)) h4
    rw [Z9v q1 q2] at e1
    cases e1
    simp [PyData.eqvAll]
  | a :: as,b :: bs,_,_,h1,h2,e1,e2=>by
    obtain ⟨h3,h4⟩:=Bool.and_eq_true_iff.mp (show (fl n a && as.all (fl n))=true from h1)
    obtain ⟨h5,h6⟩:=Bool.and_eq_true_iff.mp (show (fl n b && bs.all (fl n))=true from h2)
    obtain ⟨p,q1,_⟩:=Z8q h3
    obtain ⟨r,q2,_⟩:=Z6h (fun d=>Z8q (n:=n)) h4
    obtain ⟨p',q3,_⟩:=Z8q h5
    obtain ⟨r',q4,_⟩:=Z6h (fun d=>Z8q (n:=n)) h6
    rw [Z9v q1 q2] at e1
    rw [Z9v q3 q4] at e2
    cases e1
    cases e2
    have x1:=ih h3 h5 q1 q3
    have x2:=X1s ih h4 h6 q2 q4
    rw [PyData.eqvAll,x1,x2,Bool.eq_iff_iff]
    simp
theorem W7w:∀ {n:Nat} {a b:D} {p q:PyData},fl n a=true→fl n b=true→a.py=some p→b.py=some q→PyData.eqv p q=decide (a=b):=by
  intro n
  induction n with
  | zero =>
    intro a b p q h1 h2 e1 e2
    cases a <;> cases b <;> first | (cases h1; done) | (cases h2; done) | (cases e1; cases e2; rw [Bool.eq_iff_iff]; simp [PyData.eqv])
  | succ n ih =>
    intro a b p q h1 h2 e1 e2
    cases a with
    | tup as =>
      obtain ⟨l,q1,_⟩:=Z6h (fun d=>Z8q (n:=n)) (show as.all (fl n)=true from h1)
      rw [X0k q1] at e1
      cases e1
      cases b with
      | tup bs =>
        obtain ⟨m,q2,_⟩:=Z6h (fun d=>Z8q (n:=n)) (show bs.all (fl n)=true from h2)
        rw [X0k q2] at e2
        cases e2
        rw [PyData.eqv,X1s ih h1 h2 q1 q2,Bool.eq_iff_iff]
        simp
      | lst bs =>
        obtain ⟨m,q2,_⟩:=Z6h (fun d=>Z8q (n:=n)) (show bs.all (fl n)=true from h2)
        rw [X0j q2] at e2
        cases e2
        rw [Bool.eq_iff_iff]; simp [PyData.eqv]
      | _=>first | (cases h2; done) | (cases e2; rw [Bool.eq_iff_iff]; simp [PyData.eqv])
    | lst as =>
      obtain ⟨l,q1,_⟩:=Z6h (fun d=>Z8q (n:=n)) (show as.all (fl n)=true from h1)
      rw [X0j q1] at e1
      cases e1
      cases b with
      | tup bs =>
        obtain ⟨m,q2,_⟩:=Z6h (fun d=>Z8q (n:=n)) (show bs.all (fl n)=true from h2)
        rw [X0k q2] at e2
        cases e2
        rw [Bool.eq_iff_iff]; simp [PyData.eqv]
      | lst bs =>
        obtain ⟨m,q2,_⟩:=Z6h (fun d=>Z8q (n:=n)) (show bs.all (fl n)=true from h2)
        rw [X0j q2] at e2
        cases e2
        rw [PyData.eqv,X1s ih h1 h2 q1 q2,Bool.eq_iff_iff]
        simp
      | _=>first | (cases h2; done) | (cases e2; rw [Bool.eq_iff_iff]; simp [PyData.eqv])
    | _ =>
      first
      | (cases h1; done)
      | (cases b with
        | tup bs =>
          obtain ⟨m,q2,_⟩:=Z6h (fun d=>Z8q (n:=n)) (show bs.all (fl n)=true from h2)
          rw [X0k q2] at e2
          cases e1; cases e2
          rw [Bool.eq_iff_iff]; simp [PyData.eqv]
        | lst bs =>
          obtain ⟨m,q2,_⟩:=Z6h (fun d=>Z8q (n:=n)) (show bs.all (fl n)=true from h2)
          rw [X0j q2] at e2
          cases e1; cases e2
          rw [Bool.eq_iff_iff]; simp [PyData.eqv]
        | _=>first | (cases h2; done) | (cases e1; cases e2; rw [Bool.eq_iff_iff]; simp [PyData.eqv]))
theorem W8n {n:Nat} {a b:D} (h1:fl n a=true) (h2:fl n b=true) (hn:n ≤ 64):neD a b=some (.bl (!decide (a=b))):=by
  obtain ⟨p,e1,d1⟩:=Z8q h1
  obtain ⟨q,e2,d2⟩:=Z8q h2
  rw [V1h e1 e2 (by omega) (by omega),W7w h1 h2 e1 e2]
theorem X72 {n:Nat} {a:D} (h1:fl n a=true) (hn:n ≤ 64):neD a a=some (.bl false):=by
  rw [W8n h1 h1 hn]
  simp
theorem W8o {a b:Bool}:neD (.bl a) (.bl b)=some (.bl (a != b)):=by cases a <;> cases b <;> rfl
end Bv
namespace Bv
open PySem PySem.Spec L2
open PyProof.Rows hiding St
variable [HasW]
section
variable {T:Sto}
theorem W7j:∀ bs:List Bool,bls? ((bs.map D.bl).map X.d)=some bs
  | []=>rfl
  | b :: r=>by
    show (bls? ((r.map D.bl).map X.d)).map (b :: ·)=_
    rw [W7j r]
    rfl
theorem W31 {f:List Bool→Bool} {bs:List Bool}:Y3q f [.d (.lst (bs.map D.bl))] T = .ok (.d (.bl (f bs))) T:=by
  show (match (some ((bs.map D.bl).map X.d)).bind bls? with
    | some l=>R.ok (X.d (.bl (f l))) T
    | none => .bad)=_
  rw [Option.bind_some,W7j]
theorem X9o {α:Type} {l:List α} (h:l ≠ []):atI l (-1)=l.getLast?:=by
  have hl:0 < l.length:=List.length_pos_iff.mpr h
  have e:ixN l.length (-1)=some (l.length - 1):=by
    unfold ixN
    rw [if_neg (by decide),if_pos (by omega)]
    congr 1
    omega
  unfold atI
  rw [e,Option.bind_some,List.getLast?_eq_getElem?]
theorem W0h {S:Sto} {n:Nat} {xs:List X} {x:X} (hs:S[n]?=some (.lst xs)) (h:xs.getLast?=some x):ixO S (.r n) (-1)=some x:=by
  have hn:xs ≠ []:=fun z=>by rw [z] at h; cases h
  have e:items S (.r n)=some xs:=by simp [items,hs]
  unfold ixO
  rw [e]
  show atI xs (-1)=_
  rw [X9o hn,h]
end
end Bv
namespace Lw
open PySem PySem.Spec L2 Bv
open PyProof.Rows hiding St
variable [HasW]
def V3i:MS:=(V6 3 (Y5 X11 (Y0 Z7h (Z0 (Y5 Z8j (Y5 Z8j (Y5 X7z (Z3 3) (m_c (.int 30323))) (Y5 X11 (Y0 Z7h (Z0 (Z3 4) Z7)) (m_c (.int 2147483477)))) (m_c (.int 23))) Z7)) (m_c (.int 2147483647))))
def ls:MS:=(Y2 (V6 2 (Z4p (.nm 4) (Q9 (V8 (Z3 0) (Q4 (Z3 1)) (Q4 (m_c (.int 62))))) Z0n (Y0 (Z31 Y0i) (Z0 (Y0 Z7h (Z0 (Z3 4) Z7)) Z7)) [4])) (Y2 (V6 3 (Y5 Z8j (m_c (.int 71283599)) (Y5 X7z (m_c (.int 59)) (Z3 1)))) (Y2 (Z2o (.nm 4) (Q9 (Z3 2)) V3i) (Z2h (Y77 "great" "stirred" (Y9q (Z4p (.nm 4) (Q9 (Z3 2)) (Z0d (Y5 geD (Z3 4) (Y5 W64 (m_c (.int 10)) (m_c (.int 18))))) (Z3 4) [4])) (Z3 3))))))
theorem V1d:Z55=ls:=by kernel_rfl
def V3h:MS:=(U1 (Z3b Q5 Z8n (Z3 2) Z7))
def ld:MS:=(Y2 (V6 2 (Y1l (Z3 0) (m_c (.str "great")))) (Y2 (Z7e (Q3 (Z0d (Y5 neD (Z3 2) (Q7 (Z7)))) (Z0d (Y5 eqD (Z1m (Z3 2) (W5a (m_c (.int 1)))) (m_c (.int 0))))) V3h) (Y2 (Z0k (Z0d (Y5 neD (Z3 2) (Q7 Z7))) (Y2 (V6 3 (Z3b Q5 Z8n (Z3 2) Z7)) (Y2 (U1 (Z3b Q5 Q0 (Z3 2) (Z0 (Y5 X1r (Z3 3) (Z3 1)) Z7))) (Z2h (Y5 X11 (Y0 Z7h (Z0 (Z3 3) Z7)) (Z3 1))))) W7) (Y2 (Y3e (Z3 0) (m_c (.str "stirred")) (Y5 X11 (Y0 Z7h (Z0 (Y5 Z8j (Y5 X7z (Y1l (Z3 0) (m_c (.str "stirred"))) (m_c (.int 30323))) (m_c (.int 47))) Z7)) (m_c (.int 2147483647)))) (Z2h (Y5 X11 (Y0 Z7h (Z0 (Y5 X1r (Y1l (Z3 0) (m_c (.str "stirred"))) (m_c (.int 64))) Z7)) (Z3 1)))))))
theorem V1a:Z70=ld:=by kernel_rfl
def glO (gs:List Int):O := .lst (gs.map fun g=>X.d (.int g))
def dlK (b:Nat) (s:Int):List (D × X):=[(.str "great", .r b),(.str "stirred", .d (.int s))]
def dlO (b:Nat) (s:Int):O := .dic (dlK b s)
theorem W4p:¬ (Str.ofString "great" = Str.ofString "stirred"):=by decide +kernel
def DOk (gs:List Int) (s:Int):Prop:=0 ≤ s∧(∀ g ∈ gs,0 ≤ g)∧gs.length < 100
def Z90 (S:Sto) (b:Nat):Prop:=∃ gs s,S[b]?=some (glO gs)∧S[b + 1]?=some (dlO b s)∧DOk gs s
def Z7t (S:Sto) (b:Nat) (S2:Sto):Prop:=∃ gs s,S2=(S.set b (glO gs)).set (b + 1) (dlO b s)∧DOk gs s
theorem W26 {n:Nat} (gs:List Int):okO n (glO gs)=true:=by
  show (gs.map fun g=>X.d (.int g)).all (okX n)=true
  rw [List.all_map]
  exact List.all_eq_true.mpr fun _ _=>rfl
theorem V0k {b:Nat} {s:Int}:Y9c "great" "stirred" (.r b) (.d (.int s))=dlK b s:=by
  unfold Y9c Y69 dlK
  simp [W4p]
theorem W24 {n b:Nat} {s:Int} (h:b < n):okO n (dlO b s)=true:=by
  show ([(D.str "great",X.r b),(D.str "stirred",X.d (.int s))].all fun p=>okX n p.2)=true
  simp [okX,h]
theorem Z90.lt {S:Sto} {b:Nat} (h:Z90 S b):b + 1 < S.length:=by
  obtain ⟨gs,s,_,e,_⟩:=h
  exact (List.getElem?_eq_some_iff.mp e).1
theorem Z7t.len {S S2:Sto} {b:Nat} (d:Z7t S b S2):S2.length=S.length:=by
  obtain ⟨gs,s,rfl,_⟩:=d
  simp
theorem Z7t.ok {S S2:Sto} {b:Nat} (d:Z7t S b S2) (h:OkS S) (hl:b + 1 < S.length):OkS S2:=by
  obtain ⟨gs,s,rfl,_⟩:=d
  exact (h.set (W26 gs)).set (W24 (by simp; omega))
theorem Z7t.at_ {S S2:Sto} {b:Nat} (d:Z7t S b S2) (hl:b + 1 < S.length):Z90 S2 b:=by
  obtain ⟨gs,s,rfl,h⟩:=d
  exact ⟨gs,s,by rw [List.getElem?_set_ne (by omega),List.getElem?_set_self (by omega)],by rw [List.getElem?_set_self (by simp; omega)],h⟩
theorem X8q {S:Sto} {b:Nat} {o o2:O}:(S.set (b + 1) o).set b o2=(S.set b o2).set (b + 1) o:=List.set_comm _ _ (by omega)
theorem Z7t.trans {S S2 S3:Sto} {b:Nat} (d:Z7t S b S2) (d2:Z7t S2 b S3):Z7t S b S3:=by
  obtain ⟨gs,s,rfl,_⟩:=d
  obtain ⟨gs2,s2,rfl,h⟩:=d2
  exact ⟨gs2,s2,by rw [X8q,List.set_set,List.set_set],h⟩
theorem X3b {S:Sto} {b:Nat} {gs gs2:List Int} {s:Int} (e2:S[b + 1]?=some (dlO b s)) (h:DOk gs2 s):Z7t S b (S.set b (glO gs2)):=by
  refine ⟨gs2,s,?_,h⟩
  have hb:=(List.getElem?_eq_some_iff.mp e2).1
  refine List.ext_getElem? fun i=>?_
  by_cases hi:b + 1=i
  · subst hi
    rw [List.getElem?_set_self (by simp; omega),List.getElem?_set_ne (by omega),e2]
  · rw [List.getElem?_set_ne hi]
theorem W4l (gs:List Int):fl 1 (.lst (gs.map D.int))=true:=by
  show (gs.map D.int).all (fl 0)=true
  rw [List.all_map]
  exact List.all_eq_true.mpr fun _ _=>rfl
theorem X61 {S:Sto} {b:Nat} {gs:List Int} (e:S[b]?=some (glO gs)):(X.r b).get S=some (.lst (gs.map D.int)):=by
  refine Z6r (ds:=gs.map D.int) ?_
  rw [e,List.map_map]
  rfl
theorem W5m {S:Sto} {gs:List Int}:neD (.lst (gs.map D.int)) (.lst [])=some (.bl (!decide (gs=[]))):=by
  rw [W8n (W4l gs) rfl (by decide)]
  congr 2
  cases gs <;> simp
theorem W3b {S:Sto} {b:Nat} {gs:List Int} {g:Int} (e:S[b]?=some (glO (gs++[g]))):Z8n (.r b) [] S = .ok (.d (.int g)) (S.set b (glO gs)):=by
  have h:Z25 S (.r b)=some (b,(gs++[g]).map fun g=>X.d (.int g)):=by
    show (match S[b]? with
      | some (.lst xs)=>some (b,xs)
      | _=>none)=_
    rw [e]
    rfl
  unfold Z8n
  rw [h]
  simp [glO]
theorem W7g {S:Sto} {b:Nat} {gs:List Int} {g:Int} (e:S[b]?=some (glO gs)) (hl:gs.length < 100):Q0 (.r b) [.d (.int g)] S = .ok (.d .non) (S.set b (glO (gs++[g]))):=by
  rw [Y03 e (by rw [List.length_map,sizeLine_eq]; omega)]
  simp [glO]
theorem W42 {S:Sto} {b:Nat} {gs:List Int} {g:Int} (e:S[b]?=some (glO (gs++[g]))):ixO S (.r b) (-1)=some (.d (.int g)):=by
  refine W0h e ?_
  simp
theorem Y74 {S:Sto} {b:Nat} {gs:List Int} (e:S[b]?=some (glO gs)):Q5 S (.r b)=true:=Z4b e
theorem X3u {α:Type} {l:List α} (h:l ≠ []):∃ m a,l=m++[a]:=⟨l.dropLast,l.getLast h,(List.dropLast_concat_getLast h).symm⟩
theorem DOk.drop {gs:List Int} {g s:Int} (h:DOk (gs++[g]) s):DOk gs s:=⟨h.1,fun x hx=>h.2.1 x (List.mem_append_left _ hx),by have:=h.2.2; simp at this; omega⟩
theorem X6n {S:Sto} {b:Nat} {s:Int} (e:S[b + 1]?=some (dlO b s)):X6l S (.r (b + 1))=some (dlK b s):=by
  show (match S[b + 1]? with
    | some (.dic kvs)=>some kvs
    | some (.fdc kvs)=>some kvs
    | _=>none)=_
  rw [e]
  rfl
theorem W0a {b:Nat} {s:Int}:Y3i (dlK b s) (.str "great")=some (.r b):=by
  unfold Y3i dlK
  simp
theorem X5k {b:Nat} {s:Int}:Y3i (dlK b s) (.str "stirred")=some (.d (.int s)):=by
  unfold Y3i dlK
  simp [W4p]
theorem W0b {S:Sto} {b:Nat} {s:Int} (e:S[b + 1]?=some (dlO b s)):X1o S (.r (b + 1)) (.d (.str "great")) = .ok (.r b) S:=by
  unfold X1o dkX
  rw [X6n e]
  show Z5r (Y3i (dlK b s) (.str "great")) S=_
  rw [W0a]
  rfl
theorem Y7h {S:Sto} {b:Nat} {s:Int} (e:S[b + 1]?=some (dlO b s)):X1o S (.r (b + 1)) (.d (.str "stirred")) = .ok (.d (.int s)) S:=by
  unfold X1o dkX
  rw [X6n e]
  show Z5r (Y3i (dlK b s) (.str "stirred")) S=_
  rw [X5k]
  rfl
theorem W18 {b:Nat} {s t:Int}:Y69 (dlK b s) (.str "stirred") (.d (.int t))=dlK b t:=by
  unfold Y69 dlK
  simp [W4p]
theorem W4e {S:Sto} {b:Nat} {m:Int} (hS:OkS S) (hb:Z90 S b) (hm:0 < m∧m < 1073741824):∃ (d:Int) (S2:Sto),g__law_draw [.r (b + 1), .d (.int m)] S = .ok (.d (.int d)) S2∧0 ≤ d∧d < m∧Z7t S b S2:=by
  have hl:=hb.lt
  suffices h:Fw (Z70 (ev0 4 [.r (b + 1), .d (.int m)]) S) (fun r=>∃ (d:Int) (S2:Sto),r = .go (.rt (.d (.int d))) S2∧0 ≤ d∧d < m∧Z7t S b S2) by
    obtain ⟨d,S2,e,h0,h1,dl⟩:=h
    refine ⟨d,S2,X8m e rfl ?_,h0,h1,dl⟩
    have:=(dl.ok hS hl).cut0
    rw [dl.len] at this
    exact this
  obtain ⟨gs,s,e1,e2,hd⟩:=id hb
  rw [V1a]
  unfold ld
  refine Fw.set (x := .r b) (S1:=S) (X1p (Z6 rfl) V9 (W0b e2)) ?_
  have bw:∀ (gs2:List Int),(S.set b (glO gs2))[b + 1]?=some (dlO b s):=fun gs2=>by rw [List.getElem?_set_ne (by omega)]; exact e2
  have bb:∀ (gs2:List Int),(S.set b (glO gs2))[b]?=some (glO gs2):=fun gs2=>List.getElem?_set_self (by omega)
  have bs:∀ (gs2 gs3:List Int),(S.set b (glO gs2)).set b (glO gs3)=S.set b (glO gs3):=fun _ _=>List.set_set ..
  have hSS:S=S.set b (glO gs):=by
    refine (List.ext_getElem? fun i=>?_)
    by_cases hi:b=i
    · subst hi
      rw [List.getElem?_set_self (by omega),e1]
    · rw [List.getElem?_set_ne hi]
  refine Fw.while_ gs.length (by have:=hd.2.2; omega) (fun n e T=>∃ gs2 o3,n=gs2.length∧e=[some (.r (b + 1)),some (.d (.int m)),some (.r b),o3]∧T=S.set b (glO gs2)∧DOk gs2 s) (fun e T=>∃ gs2 o3,e=[some (.r (b + 1)),some (.d (.int m)),some (.r b),o3]∧T=S.set b (glO gs2)∧DOk gs2 s) ⟨gs,_,rfl,rfl,hSS,hd⟩ ?_ ?_
  · rintro n e T ⟨gs2,o3,rfl,rfl,rfl,hd2⟩
    by_cases hg:gs2=[]
    · subst hg
      refine ⟨false,_,X6w (Z0v (X8 (Z6 rfl) (Z2l (ds:=[]) Y1 rfl (by decide)) (X61 (bb _)) Y4 (W5m (S:=S)))),fun _=>⟨_,_,rfl,rfl,hd2⟩,fun q=>(nomatch q)⟩
    · obtain ⟨gs3,g,rfl⟩:=X3u hg
      refine ⟨decide (g=0),S.set b (glO (gs3++[g])),?_,fun _=>⟨_,_,rfl,rfl,hd2⟩,fun _=>⟨gs3.length,by simp,?_⟩⟩
      · refine X6x (Z0v (X8 (Z6 rfl) (Z2l (ds:=[]) Y1 rfl (by decide)) (X61 (bb _)) Y4 ((W5m (S:=S)).trans ?_))) (Z0v (X8 (Z3u (j:=-1) (Z6 rfl) rfl (W42 (bb _))) V9 Y4 Y4 Y51))
        simp
      · exact Fw.one (Fw.expr (Y1f (Z6 rfl) (Y74 (bb _)) Y1 (W3b (bb _))) (Fw.nil (.nx ⟨gs3,_,rfl,rfl,bs _ _,hd2.drop⟩)))
  · rintro e T ⟨gs2,o3,rfl,rfl,hd2⟩
    refine Fw.if_ (b := !decide (gs2=[])) (Z0v (X8 (Z6 rfl) (Z2l (ds:=[]) Y1 rfl (by decide)) (X61 (bb _)) Y4 (W5m (S:=S)))) (Fw.ifc (fun hg=>?_) fun hg=>?_)
    · obtain ⟨gs3,g,rfl⟩:=X3u (l:=gs2) (by simpa using hg)
      refine Fw.seqSeq (Fw.set (Y1f (Z6 rfl) (Y74 (bb _)) Y1 (W3b (bb _))) ?_)
      rw [bs]
      have g0:0 ≤ g:=hd2.2.1 g (by simp)
      have g1:gs3.length + 1 < 100:=by have:=hd2.2.2; simpa using this
      refine Fw.seqSeq (Fw.expr (Y1f (Z6 rfl) (Y74 (bb _)) (Z5 (X8 (Z6 rfl) (Z6 rfl) Y4 Y4 (W2n hm)) Y1) (W7g (bb _) (by omega))) ?_)
      rw [bs]
      refine Fw.ret (X8 (Y7 (Z5 (Z6 rfl) Y1) rfl) (Z6 rfl) Y4 Y4 (X7v hm.1)) ⟨_,_,rfl,Int.emod_nonneg _ (by omega),Int.emod_lt_of_pos _ hm.1,X3b (gs:=gs) e2 ⟨hd2.1,fun x hx=>?_,by simp; omega⟩⟩
      rcases List.mem_append.mp hx with h | h
      · exact hd2.2.1 x (List.mem_append_left _ h)
      · rw [List.mem_singleton.mp h]; exact Int.ediv_nonneg g0 (by omega)
    · refine Fw.seqNil ?_
      generalize hT:S.set b (glO gs2)=T
      have t2:T[b + 1]?=some (dlO b s):=by rw [← hT]; exact bw _
      have tl:T.length=S.length:=by rw [← hT]; simp
      have q2:X7z (.int s) (.int 30323)=some (.int (s * 30323)):=W8m (by decide)
      have q3:∀ i:Int,X11 (.int i) (.int 2147483647)=some (.int (i % 2147483647)):=fun i=>X7v (by decide)
      have hp:Y8q T (.r (b + 1)) (.d (.str "stirred"))=some (b + 1,dlK b s, .str "stirred"):=by
        show (match T[b + 1]? with
          | some (.dic kvs)=>(match X.d (.str "stirred") with
            | .d k=>if k.key?.isSome && decide (kvs.length < sizeLine) then some (b + 1,kvs,k) else none
            | .r _=>none)
          | _=>none)=_
        rw [t2]
        show (if (true && decide (2 < sizeLine))=true then _ else _)=_
        rw [if_pos (by rw [sizeLine_eq]; decide)]
      refine Fw.dput (p:=(b + 1,dlK b s, .str "stirred")) (z := .d (.int ((s * 30323 + 47) % 2147483647))) (X8 (Y7 (Z5 (X8 (X8 (X1p (Z6 rfl) V9 (Y7h t2)) V9 Y4 Y4 q2) V9 Y4 Y4 Z30) Y1) rfl) V9 Y4 Y4 (q3 _)) (Z6 rfl) V9 hp ?_
      rw [show (b + 1,dlK b s,D.str "stirred").1=b + 1 from rfl,show (b + 1,dlK b s,D.str "stirred").2.1=dlK b s from rfl,show (b + 1,dlK b s,D.str "stirred").2.2 = .str "stirred" from rfl,W18]
      have q4:∀ i:Int,X1r (.int i) (.int 64)=some (.int (i / 64)):=fun i=>W2n (by decide)
      have t3:(T.set (b + 1) (dlO b ((s * 30323 + 47) % 2147483647)))[b + 1]?=some (dlO b ((s * 30323 + 47) % 2147483647)):=List.getElem?_set_self (by omega)
      refine Fw.one (Fw.ret (X8 (Y7 (Z5 (X8 (X1p (Z6 rfl) V9 (Y7h t3)) V9 Y4 Y4 (q4 _)) Y1) rfl) (Z6 rfl) Y4 Y4 (X7v hm.1)) ⟨_,_,rfl,Int.emod_nonneg _ (by omega),Int.emod_lt_of_pos _ hm.1,gs2,(s * 30323 + 47) % 2147483647,by rw [hT]; rfl,Int.emod_nonneg _ (by decide),hd2.2⟩)
end Lw
namespace Lw
open PySem PySem.Spec L2 Bv
open PyProof.Rows hiding St
variable [HasW]
def W9y (i:Int):Int:=if i < 0 then -i else i
theorem W3r (i:Int):0 ≤ W9y i:=by unfold W9y; omega
theorem V1s:W64 (.int 10) (.int 18)=some (.int 1000000000000000000):=by
  show (if CPow 10 18 then some (D.int (10 ^ (18:Int).toNat)) else none)=_
  rw [if_pos (by unfold CPow; decide)]
  rfl
theorem X26 {α:Type} (xs:List α) (lo hi:Option Int):(Z6f xs lo hi).length ≤ xs.length:=by
  unfold Z6f
  rw [List.length_take,List.length_drop]
  omega
theorem Y3u (cs:List Int):cs.map (fun i=>X.d (.int i))=(cs.map D.int).map X.d:=by rw [List.map_map]; rfl
theorem X8t {S:Sto} {ns:List Int} {k:Int} (hS:OkS S) (hn:ns.length ≤ 63) (hk:0 ≤ k):∃ S2,g__law_source [.d (.scr ns), .d (.int k)] S = .ok (.r (S.length + 1)) S2∧(∃ o1 o2,S2=S++[o1,o2])∧OkS S2∧Z90 S2 S.length:=by
  suffices h:Fw (Z55 (ev0 5 [.d (.scr ns), .d (.int k)]) S) (fun r=>∃ gs s,r = .go (.rt (.r (S.length + 1))) (S++[glO gs]++[dlO S.length s])∧DOk gs s) by
    obtain ⟨gs,s,e,hd⟩:=h
    refine ⟨S++[glO gs]++[dlO S.length s],?_,⟨_,_,by rw [List.append_assoc]; rfl⟩,(hS.push (W26 gs)).push (W24 (by simp; omega)),gs,s,by simp,by simp,hd⟩
    unfold g__law_source W94
    rw [e]
    rfl
  rw [V1d]
  unfold ls
  generalize hc:(Z6f ns (some k) (some 62)).map W9y=cs
  have hl:cs.length ≤ 63:=by
    rw [← hc,List.length_map]
    exact Nat.le_trans (X26 _ _ _) hn
  have hnn:∀ g ∈ cs,0 ≤ g:=fun g hg=>by
    rw [← hc] at hg
    obtain ⟨i,_,rfl⟩:=List.mem_map.mp hg
    exact W3r i
  have e1:Z4p (.nm 4) (Q9 (V8 (Z3 0) (Q4 (Z3 1)) (Q4 (m_c (.int 62))))) (Z0n) (Y0 (Z31 Y0i) (Z0 (Y0 Z7h (Z0 (Z3 4) (Z7))) (Z7))) [4] (ev0 5 [.d (.scr ns), .d (.int k)]) S = .ok (.d (.lst (cs.map D.int))) S:=by
    rw [← hc,List.map_map]
    refine Y1j (fun i=>X.d (.int i)) (D.int ∘ W9y) (l:=Z6f ns (some k) (some 62)) ?_ (hz4 (by have:=X26 ns (some k) (some 62); omega)) (fun i hi=>⟨_,rfl,Y7 (Z5 (Y7 (Z5 (Z6 rfl) Y1) rfl) Y1) rfl⟩)
    refine Z10 (Z4a (Z6 rfl) (Z5a (Z6 rfl)) (Z5a V9) rfl) ?_
    rw [Y3u]
    rfl
  refine Fw.set e1 ?_
  refine Fw.set (X8 V9 (X8 V9 (Z6 rfl) Y4 Y4 (V1g (by decide))) Y4 Y4 Z30) ?_
  have q1:∀ i:Int,X7z (.int i) (.int 30323)=some (.int (i * 30323)):=fun i=>W8m (by decide)
  have q2:∀ i:Int,X11 (.int i) (.int 2147483477)=some (.int (i % 2147483477)):=fun i=>X7v (by decide)
  have q3:∀ i:Int,X11 (.int i) (.int 2147483647)=some (.int (i % 2147483647)):=fun i=>X7v (by decide)
  refine Fw.for_ (l:=cs) (f:=fun i=>X.d (.int i)) (S1:=S) (Z10 (Z6 rfl) (by rw [Y3u]; rfl)) (fun _ e T=>∃ s o4,0 ≤ s∧T=S∧e=[some (.d (.scr ns)),some (.d (.int k)),some (.d (.lst (cs.map D.int))),some (.d (.int s)),o4]) (fun _ _=>False) ⟨_,_,by omega,rfl,rfl⟩ (fun _ _ _ _=>rfl) ?_ ?_
  · rintro a l e T ⟨s,o4,hs,rfl,rfl⟩
    refine ⟨_,rfl,?_⟩
    exact Fw.one (Fw.set (X8 (Y7 (Z5 (X8 (X8 (X8 (Z6 rfl) V9 Y4 Y4 (q1 _)) (X8 (Y7 (Z5 (Z6 rfl) Y1) rfl) V9 Y4 Y4 (q2 _)) Y4 Y4 Z30) V9 Y4 Y4 Z30) Y1) rfl) V9 Y4 Y4 (q3 _)) (Fw.nil (.nx ⟨_,_,Int.emod_nonneg _ (by decide),rfl,rfl⟩)))
  · rintro e T (⟨s,o4,hs,rfl,rfl⟩ | h)
    · refine Fw.one (Fw.ret (x := .r (T.length + 1)) (S1:=T++[glO (cs.filter fun g=>decide (1000000000000000000 ≤ g)).reverse]++[dlO T.length s]) ?_ ⟨_,_,rfl,hs,fun g hg=>hnn g (List.mem_filter.mp (List.mem_reverse.mp hg)).1,?_⟩)
      · have e2:Z4p (.nm 4) (Q9 (Z3 2)) (Z0d (Y5 geD (Z3 4) (Y5 W64 (m_c (.int 10)) (m_c (.int 18))))) (Z3 4) [4] [some (.d (.scr ns)),some (.d (.int k)),some (.d (.lst (cs.map D.int))),some (.d (.int s)),o4] T = .ok (.d (.lst ((cs.filter fun g=>decide (1000000000000000000 ≤ g)).map D.int))) T:=by
          refine Y4n (fun i=>X.d (.int i)) D.int (fun g=>decide (1000000000000000000 ≤ g)) (l:=cs) (Z10 (Z6 rfl) (by rw [Y3u]; rfl)) (hz4 (by omega)) (fun i hi=>⟨_,rfl,Z0v (X8 (Z6 rfl) (X8 V9 V9 Y4 Y4 V1s) Y4 Y4 Y1v),fun _=>Z6 rfl⟩)
        generalize (cs.filter fun g=>decide (1000000000000000000 ≤ g))=ds at e2 ⊢
        have e3:Y9q (Z4p (.nm 4) (Q9 (Z3 2)) (Z0d (Y5 geD (Z3 4) (Y5 W64 (m_c (.int 10)) (m_c (.int 18))))) (Z3 4) [4]) [some (.d (.scr ns)),some (.d (.int k)),some (.d (.lst (cs.map D.int))),some (.d (.int s)),o4] T = .ok (.r T.length) (T++[glO ds.reverse]):=by
          unfold Y9q
          rw [e2]
          show R.ok (X.r T.length) (T++[.lst ((ds.map D.int).map X.d).reverse])=_
          rw [← Y3u,← List.map_reverse]
          rfl
        unfold Y77
        rw [e3]
        show R.ok (X.r (T++[glO ds.reverse]).length) _=_
        rw [List.length_append,V0k]
        rfl
      · rw [List.length_reverse]
        have:=List.length_filter_le (fun g=>decide ((1000000000000000000:Int) ≤ g)) cs
        omega
    · exact h.elim
end Lw
namespace Lw
open PySem PySem.Spec L2 Bv
open PyProof.Rows hiding St
variable [HasW]
theorem X6i {α:Type} (xs:List α) {h:Int} (h0:0 ≤ h):Z6f xs none (some h)=xs.take h.toNat:=by
  have hn:¬ h < 0:=by omega
  unfold Z6f
  simp only [HT.sIx,if_neg hn,List.drop_zero,Nat.sub_zero]
  rcases Nat.le_total h.toNat xs.length with c | c
  · rw [Nat.min_eq_left c]
  · rw [Nat.min_eq_right c,List.take_of_length_le (Nat.le_refl _),List.take_of_length_le c]
theorem X27 {α:Type} (xs:List α) {h:Int} (h0:0 ≤ h):Z6f xs (some h) none=xs.drop h.toNat:=by
  have hn:¬ h < 0:=by omega
  unfold Z6f
  simp only [HT.sIx,if_neg hn]
  rcases Nat.le_total h.toNat xs.length with c | c
  · rw [Nat.min_eq_left c,List.take_of_length_le (by rw [List.length_drop]; omega)]
  · rw [Nat.min_eq_right c,List.drop_eq_nil_of_le (Nat.le_refl _),List.drop_eq_nil_of_le c,List.take_nil]
theorem X9z {α:Type} (x:α) (xs:List α):Z6f (x :: xs) (some 1) none=xs:=X27 (x :: xs) (by decide)
theorem W1i {k:Nat} (ds:List D):okO k (.lst (ds.map X.d))=true:=by
  show (ds.map X.d).all (okX k)=true
  rw [List.all_map]
  exact List.all_eq_true.mpr fun _ _=>rfl
def Z9x:List Str:=["none", "doubt", "good", "old", "bad", "a", "b", "c", "d", "e", "give", "drop", "right", "back", "wrong", "zz"]
def X9k:List Str:=["give", "carry", "drop", "back", "right", "wrong"]
def V3u (w o t:Str) (k:Bool):D := .tup [.str w, .str o, .str t, .bl k]
def Y7o (w o t:Str) (k:Bool):Prop:=w ∈ X9k∧o ∈ ("any" : Str) :: Z9x∧t ∈ ("same" : Str) :: Z9x∧(w ≠ "give" → k=true)
def W3p (m0:Str) (ms:List Str) (w o t:Str) (k:Bool):Prop:=w ∈ X9k∧o ∈ ("any" : Str) :: m0 :: ms∧t ∈ ("same" : Str) :: m0 :: ms∧(w ≠ "give" → k=true∧o ∈ ("any" : Str) :: ms)
theorem W3p.ok {m0:Str} {ms:List Str} {w o t:Str} {k:Bool} (hm:∀ x ∈ m0 :: ms,x ∈ Z9x) (h:W3p m0 ms w o t k):Y7o w o t k :=
  ⟨h.1,(List.mem_cons.mp h.2.1).elim (fun e=>by rw [e]; exact List.mem_cons_self) fun m=>List.mem_cons_of_mem _ (hm _ m),(List.mem_cons.mp h.2.2.1).elim (fun e=>by rw [e]; exact List.mem_cons_self) fun m=>List.mem_cons_of_mem _ (hm _ m),fun g=>(h.2.2.2 g).1⟩
abbrev Z7g:=Str × Str × Str × Bool
def V3t (r:Z7g):D:=V3u r.1 r.2.1 r.2.2.1 r.2.2.2
abbrev W7b (m0:Str) (ms:List Str) (rows:List Z7g):Prop:=∀ r ∈ rows,W3p m0 ms r.1 r.2.1 r.2.2.1 r.2.2.2
structure ToolOk (m0:Str) (ms sh as:List Str) (rows:List Z7g):Prop where
  names:∀ x ∈ m0 :: ms,x ∈ Z9x
  few:ms.length < 5
  some:0 < ms.length
  nd:(m0 :: ms).Nodup
  sh:sh.Sublist ms
  as:as.Sublist (m0 :: ms)
  len:rows.length ≤ 20
  rows:W7b m0 ms rows
def V15 (l:List Str):D := .tup (l.map D.str)
def V1w (rows:List Z7g):D := .tup (rows.map V3t)
def V2a (m0:Str) (ms sh as:List Str) (rows:List Z7g):D := .tup [V15 (m0 :: ms),V15 sh,V15 as,V1w rows]
end Lw
namespace Lw
open PySem PySem.Spec L2 Bv
open PyProof.Rows hiding St
variable [HasW]
def V2s:D := .tup ((["give", "carry", "drop", "back", "right", "wrong"]:List Str).map D.str)
def W91 (w o t:Str) (k:Bool):D := .obj "Row" [("word", .str w),("old", .str o),("then", .str t),("take", .bl k)]
def W92:PR→D→Bool
  | .ok d,e=>decide (d=e)
  | _,_=>false
theorem Y41 {p:PR} {d:D} (h:W92 p d=true):p = .ok d:=by
  cases p with
  | ok e=>rw [of_decide_eq_true h]
  | _=>cases h
def V2x (w:Str):Bool:=W92 (g_is_word [.str w,V2s]) (.bl true)
def V2w (w:Str):Bool:=W92 (g_is_name [.str w]) (.bl true)
theorem W2b:(X9k.all V2x)=true:=by kernel_rfl
theorem Y3v:(Z9x.all V2w)=true:=by kernel_rfl
def W3a (x:Str):Bool:=decide (x.length ≤ 5) && (decide ((32:Nat) ∉ x.cps.toList) && (decide ((reprText x).length ≤ 50) && (PyData.strOk (reprText x) && PyData.strOk x)))
def Y6n:List Str:=X9k++("any" : Str) :: Z9x++("same" : Str) :: Z9x++(["take", "keep", "to"]:List Str)
theorem W1u:(Y6n.all W3a)=true:=by kernel_rfl
theorem Y5a {x:Str} (h:x ∈ Y6n):x.length ≤ 5∧(32:Nat) ∉ x.cps.toList∧(reprText x).length ≤ 50∧PyData.strOk (reprText x)=true∧PyData.strOk x=true:=by
  have h:=List.all_eq_true.mp W1u x h
  unfold W3a at h
  simp only [Bool.and_eq_true,decide_eq_true_eq] at h
  exact h
theorem X82 (a b:Str):(a++b).length=a.length + b.length:=by
  show (a.cps++b.cps).size=_
  rw [Array.size_append]
  rfl
def Z9n (w o t:Str) (k:Bool):List Str:=if w = "give" then [w,o,if k then "take" else "keep", "to",t] else [w,o, "to",t]
theorem Y7o.in_ {w o t:Str} {k:Bool} (h:Y7o w o t k):w ∈ Y6n∧o ∈ Y6n∧t ∈ Y6n:=by
  obtain ⟨h1,h2,h3,_⟩:=h
  unfold Y6n
  simp only [List.mem_append]
  exact ⟨.inl (.inl (.inl h1)), .inl (.inl (.inr h2)), .inl (.inr h3)⟩
theorem Y5u {w o t:Str} {k:Bool} (h:Y7o w o t k):∀ x ∈ Z9n w o t k,x ∈ Y6n:=by
  obtain ⟨h1,h2,h3⟩:=h.in_
  have h4:("take" : Str) ∈ Y6n∧("keep" : Str) ∈ Y6n∧("to" : Str) ∈ Y6n:=by decide +kernel
  intro x hx
  unfold Z9n at hx
  split at hx
  · simp only [List.mem_cons,List.not_mem_nil,or_false] at hx
    rcases hx with rfl | rfl | rfl | rfl | rfl
    · exact h1
    · exact h2
    · cases k
      · exact h4.2.1
      · exact h4.1
    · exact h4.2.2
    · exact h3
  · simp only [List.mem_cons,List.not_mem_nil,or_false] at hx
    rcases hx with rfl | rfl | rfl | rfl
    · exact h1
    · exact h2
    · exact h4.2.2
    · exact h3
def zR (w o t:Str) (k:Bool):Str:=Str.join " " (Z9n w o t k)
theorem W75 {S:Sto} {k:Bool}:isX (Z7f "bool") [("Row",false),("Tool",false)] S (.d (.bl k))=some true:=by
  show (Z7f "bool").lookup "bool" = some true
  decide +kernel
theorem W4w {S:Sto} {fs:List (Str × D)}:isX Y2z [("Row",true),("Tool",false)] S (.d (.obj "Row" fs))=some true:=by rfl
theorem W5b {S:Sto} {w o t:Str} {k:Bool} (hS:OkS S) (h:Y7o w o t k):made "Row" mkF Z59 [.d (.str w), .d (.str o), .d (.str t), .d (.bl k)] S = .ok (.d (W91 w o t k)) S:=by
  have hw:g_is_word [.str w, .tup [.str "give", .str "carry", .str "drop", .str "back", .str "right", .str "wrong"]] = .ok (.bl true):=Y41 (List.all_eq_true.mp W2b w h.1)
  have ho:o = "any" ∨ g_is_name [.str o] = .ok (.bl true):=(List.mem_cons.mp h.2.1).imp id fun m=>Y41 (List.all_eq_true.mp Y3v o m)
  have ht:t = "same" ∨ g_is_name [.str t] = .ok (.bl true):=(List.mem_cons.mp h.2.2.1).imp id fun m=>Y41 (List.all_eq_true.mp Y3v t m)
  have hk:=h.2.2.2
  have g0:∀ x:O,(S++[x])[S.length]?=some x:=fun x=>by simp
  have s0:∀ x y:O,(S++[x]).set S.length y=S++[y]:=fun x y=>by simp
  have l0:∀ x:O,(S++[x]).length=S.length + 1:=fun x=>by simp
  have c0:∀ x:O,cut S.length (S++[x])=some S:=fun x=>hS.cut
  have c1:∀ fs:List (Str × X),(fs.all fun p=>okX (S.length + 1) p.2)=true→cut (S.length + 1) (S++[.ins "Row" fs])=some (S++[.ins "Row" fs]):=fun fs hf=>by
    have:=(hS.push (o := .ins "Row" fs) hf).cut0
    rwa [l0] at this
  have c2:=c1 [("word", .d (.str w)),("old", .d (.str o)),("then", .d (.str t)),("take", .d (.bl k))] rfl
  have n1:¬ (("word" : Str) = "old")∧¬ (("word" : Str) = "then")∧¬ (("word" : Str) = "take")∧¬ (("old" : Str) = "then")∧¬ (("old" : Str) = "take")∧¬ (("then" : Str) = "take"):=by decide +kernel
  obtain ⟨n1,n2,n3,n4,n5,n6⟩:=n1
  have run:Z59 [.r S.length, .d (.str w), .d (.str o), .d (.str t), .d (.bl k)] (S++[.ins "Row" []]) = .ok (.d .non) (S++[.ins "Row" [("word", .d (.str w)),("old", .d (.str o)),("then", .d (.str t)),("take", .d (.bl k))]]):=by
    unfold Z59
    have body:Z9p (ev0 5 [.r S.length, .d (.str w), .d (.str o), .d (.str t), .d (.bl k)]) (S++[.ins "Row" []]) = .go (.nx [some (.r S.length),some (.d (.str w)),some (.d (.str o)),some (.d (.str t)),some (.d (.bl k))]) (S++[.ins "Row" [("word", .d (.str w)),("old", .d (.str o)),("then", .d (.str t)),("take", .d (.bl k))]]):=by
      unfold Z9p
      by_cases a:o = "any" <;> by_cases b:t = "same" <;> by_cases c:w = "give"
      all_goals
        first
          | (have ho2:=ho.resolve_left a; have ht2:=ht.resolve_left b)
          | have ho2:=ho.resolve_left a
          | have ht2:=ht.resolve_left b
          | skip
      all_goals
        first
          | (have hk2:=hk c; subst hk2)
          | skip
      all_goals
        (try simp only [c] at hw)
        simp [ev0,Y2,Z0k,W7,U1,V6,Z2h,X6,Z2p,Z06,Z1d,Z14,Z2j,Z5f,Z0s,Z0d,Y5,Z1m,Z3,m_c,Y0,Z0,Z7,Z0a,V4,Q7,Q8,X4,Z3b,V8,Q4,Z5n,Z56,Q3,Z0i,W8,Z1y,Z5k,Z3h,Y0v,Y6,Z0r,R.bind,R.so,RO.then,items,ixO,ixD,Z8c,Z5r,op2,X.get,tb,Z4f,Z4d,Z4e,Z3j,slX,Z0e,Z11,Y9,X5,Z8m,Z9q,Z3l,Y1y,Z8a,Z6l,Z7h,Z3i,Z7n,Y1w,Z31,ints?,Y0i,Y2l,Y2j,ds?,gets,callP,X.isD,D.noL,D.noLs,D.noLf,Q5,Z25,Z30,Z5g,Y1i,Y1v,Y1x,Y2d,Z57,hw, *,Z7d,W75,g0,s0,n1,n2,n3,n4,n5,n6]
    exact X8l body (by rw [l0]; exact c2)
  have f0:frz (S++[.ins "Row" [("word", .d (.str w)),("old", .d (.str o)),("then", .d (.str t)),("take", .d (.bl k))]]) S.length=some (W91 w o t k):=by
    unfold frz
    rw [g0]
    rfl
  exact X7l run f0 (c0 _)
end Lw
namespace Lw
open PySem PySem.Spec L2 Bv
open PyProof.Rows hiding St
variable [HasW]
theorem X0m:∀ (xs acc:List Str),(acc++xs).Nodup→xs.foldl Z6m acc=acc++xs
  | [],acc,_=>by simp
  | x :: r,acc,h=>by
    have hx:acc.contains x=false:=by
      rw [List.contains_eq_mem,decide_eq_false_iff_not]
      intro m
      exact (List.nodup_append.mp h).2.2 x m x (by simp) rfl
    have e:Z6m acc x=acc++[x]:=by
      unfold Z6m
      rw [hx]
      rfl
    rw [List.foldl_cons,e,X0m r (acc++[x]) (by rw [List.append_assoc]; exact h),List.append_assoc]
    rfl
theorem Y2t {xs:List Str} (h:xs.Nodup):Z7s xs=xs:=by
  unfold Z7s
  rw [X0m xs [] (by simpa using h)]
  rfl
theorem X2p (ss:List Str):Bv.strs? ((ss.map D.str).map X.d)=some ss:=by
  induction ss with
  | nil=>rfl
  | cons s r ih =>
    show (Bv.strs? ((r.map D.str).map X.d)).map (s :: ·)=_
    rw [ih]
    rfl
theorem X9t {α:Type} (l:List α):bls? ((l.map fun _=>D.bl true).map X.d)=some (l.map fun _=>true):=by
  induction l with
  | nil=>rfl
  | cons s r ih =>
    show (bls? ((r.map fun _=>D.bl true).map X.d)).map (true :: ·)=_
    rw [ih]
    rfl
theorem Y7q {α:Type} (l:List α) (S:Sto):Y3q (fun l=>l.all id) [.d (.lst (l.map fun _=>D.bl true))] S = .ok (.d (.bl true)) S:=by
  have h:=X9t l
  have e:(l.map fun _=>true).all id=true:=by simp
  show (if Q5 S (.d (.lst (l.map fun _=>D.bl true))) then (match (some ((l.map fun _=>D.bl true).map X.d)).bind bls? with
    | some l=>R.ok (X.d (.bl (l.all id))) S
    | none => .bad) else .bad)=_
  rw [show Q5 S (.d (.lst (l.map fun _=>D.bl true)))=true from rfl,if_pos rfl,Option.bind_some,h]
  show R.ok (X.d (.bl ((l.map fun _=>true).all id))) S=_
  rw [e]
theorem X51 {α:Type} (l:List α) (S:Sto):Y3q (fun l=>l.any id) [.d (.lst (l.map fun _=>D.bl false))] S = .ok (.d (.bl false)) S:=by
  have h:bls? ((l.map fun _=>D.bl false).map X.d)=some (l.map fun _=>false):=by
    induction l with
    | nil=>rfl
    | cons s r ih =>
      show (bls? ((r.map fun _=>D.bl false).map X.d)).map (false :: ·)=_
      rw [ih]
      rfl
  have e:(l.map fun _=>false).any id=false:=by simp
  show (if Q5 S (.d (.lst (l.map fun _=>D.bl false))) then (match (some ((l.map fun _=>D.bl false).map X.d)).bind bls? with
    | some l=>R.ok (X.d (.bl (l.any id))) S
    | none => .bad) else .bad)=_
  rw [show Q5 S (.d (.lst (l.map fun _=>D.bl false)))=true from rfl,if_pos rfl,Option.bind_some,h]
  show R.ok (X.d (.bl ((l.map fun _=>false).any id))) S=_
  rw [e]
theorem X9c {ss:List Str} (h:ss.Nodup) (hl:ss.length < 1000):g_are_unlike [.lst (ss.map D.str)] = .ok (.bl true):=by
  have hs:=X2p ss
  have hw:=Y2t h
  have hb:ss.length + 1 < scanBound:=by
    have:(1001:Nat) ≤ scanBound:=by decide
    omega
  unfold g_are_unlike Z50 Z5m
  have h1:Y1h [.d (.lst (ss.map D.str))] [] = .ok (.d (.int ss.length)) []:=by
    show (match (some ((ss.map D.str).map X.d)).bind Bv.strs? with
      | some xs=>if decide (xs.length + 1 < scanBound) then R.ok (X.d (.int (Z7s xs).length)) [] else .bad
      | none => .bad)=_
    rw [Option.bind_some,hs]
    show (if decide (ss.length + 1 < scanBound) then R.ok (X.d (.int (Z7s ss).length)) [] else .bad)=_
    rw [if_pos (decide_eq_true hb),hw]
  have h2:Z3i [.d (.lst (ss.map D.str))] [] = .ok (.d (.int ss.length)) []:=by simp [Z3i,Z7n,items]
  simp only [X6,Y5,Y1m,Z3,Y0,Z0,Z7,R.bind,R.so,ev0,List.map_cons,List.map_nil,List.length_cons,List.length_nil,List.singleton_append,List.getElem?_cons_zero,h1,h2,op2,Y4,Y51,decide_true,Z9q]
end Lw
namespace Lw
open PySem PySem.Spec L2 Bv
open PyProof.Rows hiding St
variable [HasW]
theorem X36 (ss:List Str):pys (ss.map D.str)=some (ss.map PyData.str):=by
  induction ss with
  | nil=>rfl
  | cons s r ih =>
    show (match some (PyData.str s),pys (r.map D.str) with
      | some p,some l=>some (p :: l)
      | _,_=>none)=_
    rw [ih]
    rfl
theorem Y6u (ss:List Str):PyData.depthAll (ss.map PyData.str) ≤ 1:=by
  induction ss with
  | nil=>simp [PyData.depthAll]
  | cons s r ih =>
    simp only [List.map_cons,PyData.depthAll,PyData.depth]
    omega
theorem X2x (ss:List Str) (s:Str):((ss.map PyData.str).any fun z=>PyData.eqv z (.str s))=decide (s ∈ ss):=by
  induction ss with
  | nil=>rfl
  | cons a r ih =>
    rw [List.map_cons,List.any_cons,ih,Y4f,Bool.eq_iff_iff]
    simp only [Bool.or_eq_true,decide_eq_true_eq,List.mem_cons]
    exact ⟨fun h=>h.imp Eq.symm id,fun h=>h.imp Eq.symm id⟩
theorem W2r {s:Str} {ss:List Str}:inD (.str s) (.lst (ss.map D.str))=some (.bl (decide (s ∈ ss))):=by
  have e:(D.lst (ss.map D.str)).py=some (.list (ss.map PyData.str)):=by
    show (match pys (ss.map D.str) with
      | some l=>some (PyData.list l)
      | none=>none)=_
    rw [X36]
  have d1:dOk (.str s)=true:=by unfold dOk; simp [PyData.depth]
  have d2:dOk (.list (ss.map PyData.str))=true:=by
    unfold dOk
    have:=Y6u ss
    refine decide_eq_true ?_
    simp only [PyData.depth]
    omega
  have e0:(D.str s).py=some (.str s):=rfl
  unfold inD Bv.inB
  rw [e,e0]
  show Option.map D.bl (if dOk (.str s) && dOk (.list (ss.map PyData.str)) then some ((ss.map PyData.str).any fun z=>PyData.eqv z (.str s)) else none)=_
  rw [d1,d2,X2x]
  rfl
theorem Z8p {s:Str} {ss:List Str}:inD (.str s) (.tup (ss.map D.str))=some (.bl (decide (s ∈ ss))):=by
  have e:(D.tup (ss.map D.str)).py=some (.tuple (ss.map PyData.str)):=by
    show (match pys (ss.map D.str) with
      | some l=>some (PyData.tuple l)
      | none=>none)=_
    rw [X36]
  have d1:dOk (.str s)=true:=by unfold dOk; simp [PyData.depth]
  have d2:dOk (.tuple (ss.map PyData.str))=true:=by
    unfold dOk
    have:=Y6u ss
    refine decide_eq_true ?_
    simp only [PyData.depth]
    omega
  have e0:(D.str s).py=some (.str s):=rfl
  unfold inD Bv.inB
  rw [e,e0]
  show Option.map D.bl (if dOk (.str s) && dOk (.tuple (ss.map PyData.str)) then some ((ss.map PyData.str).any fun z=>PyData.eqv z (.str s)) else none)=_
  rw [d1,d2,X2x]
  rfl
theorem X3q {α:Type} {t:Tg} {mt:MG Bool} {me:M} {lk:Lk} {e:Ev} {S:Sto} (hk:lk.ok S=true) (x:α→X) (f:α→D):∀ {l:List α},(∀ a ∈ l,∃ e1,t.asg S (x a) e=some e1∧mt e1 S = .ok true S∧me e1 S = .ok (.d (f a)) S)→lcL t lk mt me e (l.map x) S = .ok (l.map f) S
  | [],_=>by simp [lcL,hk]
  | a :: l,h=>by
    obtain ⟨e1,h1,h2,h3⟩:=h a (by simp)
    have ih:=X3q (t:=t) (mt:=mt) (me:=me) (e:=e) (S:=S) hk x f (l:=l) fun b hb=>h b (List.mem_cons_of_mem _ hb)
    simp [lcL,hk,h1,h2,h3,R.ne,R.bind,ih]
theorem Y4m {α:Type} {t:Tg} {mi:MIt} {me:M} {vs:List Nat} {lk:Lk} {e:Ev} {S:Sto} (hk:lk.ok S=true) (x:α→X) (f:α→D) {l:List α} (hi:mi e S = .ok (l.map x,lk) S) (hl:l.length ≤ sizeLine) (h:∀ a ∈ l,∃ e1,t.asg S (x a) (Z05 e vs)=some e1∧me e1 S = .ok (.d (f a)) S) :
    Z4p t mi Z0n me vs e S = .ok (.d (.lst (l.map f))) S:=by
  have h1:=X3q (t:=t) (mt:=Z0n) (me:=me) (e:=Z05 e vs) (S:=S) hk x f (l:=l) fun a ha=>by
    obtain ⟨e1,q1,q2⟩:=h a ha
    exact ⟨e1,q1,rfl,q2⟩
  unfold Z4p
  rw [hi]
  show (lcL t lk Z0n me (Z05 e vs) (l.map x) S).bind Y3a=_
  rw [h1]
  show Y3a (l.map f) S=_
  unfold Y3a
  rw [if_pos (by rw [List.length_map]; exact hl)]
theorem Y4n {α:Type} {t:Tg} {mi:MIt} {mt:MG Bool} {me:M} {vs:List Nat} {e:Ev} {S:Sto} (x:α→X) (f:α→D) (c:α→Bool) {l:List α} (hi:mi e S = .ok (l.map x, .free) S) (hl:l.length ≤ sizeLine) (h:∀ a ∈ l,∃ e1,t.asg S (x a) (Z05 e vs)=some e1∧mt e1 S = .ok (c a) S∧(c a=true→me e1 S = .ok (.d (f a)) S)) :
    Z4p t mi mt me vs e S = .ok (.d (.lst ((l.filter c).map f))) S:=by
  have h1:=Y75 (t:=t) (mt:=mt) (me:=me) (e:=Z05 e vs) (S:=S) x f c (l:=l) h
  unfold Z4p
  rw [hi]
  show (lcL t .free mt me (Z05 e vs) (l.map x) S).bind Y3a=_
  rw [h1]
  show Y3a ((l.filter c).map f) S=_
  unfold Y3a
  have:=List.length_filter_le c l
  rw [if_pos (by rw [List.length_map]; omega)]
theorem Y6y {l sh:List Str} (hn:l.Nodup) (h:sh.Sublist l) {sp:List Str} (hp:sp.Perm sh):l.filter (fun x=>decide (x ∈ sp))=sh:=by
  have e:∀ x,decide (x ∈ sp)=decide (x ∈ sh):=fun x=>decide_eq_decide.mpr hp.mem_iff
  simp only [e]
  clear hp e
  induction h with
  | slnil=>rfl
  | cons a s ih =>
    rename_i l1 l2
    have hn2:=List.nodup_cons.mp hn
    have:a ∉ l1:=fun m=>hn2.1 (s.subset m)
    rw [List.filter_cons,if_neg (by simpa using this)]
    exact ih hn2.2
  | cons_cons a s ih =>
    rename_i l1 l2
    have hn2:=List.nodup_cons.mp hn
    rw [List.filter_cons,if_pos (by simp)]
    congr 1
    rw [← ih hn2.2]
    rw [ih hn2.2]
    refine Eq.trans (List.filter_congr fun x hx=>?_) (ih hn2.2)
    have:x ≠ a:=fun e=>hn2.1 (e ▸ hx)
    simp [this]
end Lw
namespace Lw
open PySem PySem.Spec L2 Bv
open PyProof.Rows hiding St
variable [HasW]
def Z52 (r:Z7g):D:=W91 r.1 r.2.1 r.2.2.1 r.2.2.2
def tls (ml:List Str):D := .lst (ml.map D.str)
def Y94 (m0:Str) (ms sh as:List Str) (rows:List Z7g):D := .obj "Tool" [("marks", .tup ((m0 :: ms).map D.str)),("shown", .tup (sh.map D.str)),("asked", .tup (as.map D.str)),("rows", .tup (rows.map Z52)),("blank", .str m0)]
structure SQ (T:Sto) (x:X) (g:D) (ds:List D) (lk:Lk):Prop where
  form:g = .lst ds ∨ g = .tup ds
  get:x.get T=some g
  walk:Y1u T x=some (ds.map X.d,lk)
  ok:lk.ok T=true
  items:Bv.items T x=some (ds.map X.d)
  len:Z3i [x] T = .ok (.d (.int ds.length)) T
  tup:Y5r [x] T = .ok (.d (.tup ds)) T
  sl:∃ g',slX T x (some 1) none=some (.d g')∧(g' = .lst (ds.drop 1) ∨ g' = .tup (ds.drop 1))
  isq:isX (X4d ["list", "tuple"]) [("Row",false),("Tool",false)] T x=some true
theorem X1j {α:Type} (xs:List α):Z6f xs (some 1) none=xs.drop 1:=by
  unfold Z6f HT.sIx
  simp
  cases xs with
  | nil=>rfl
  | cons a l=>simp
theorem W9g {T:Sto} {ds:List D}:SQ T (.d (.lst ds)) (.lst ds) ds .free:=by
  have h:=Y50 ds
  refine ⟨.inl rfl,rfl,rfl,rfl,rfl,by simp [Z3i,Z7n,Bv.items],?_,⟨_,?_, .inl rfl⟩,rfl⟩
  · unfold Y5r
    simp [-List.map_map,Bv.items,h]
  · show some (X.d (.lst (Z6f ds (some 1) none)))=_
    rw [X1j]
theorem V3p {T:Sto} {ds:List D}:SQ T (.d (.tup ds)) (.tup ds) ds .free:=by
  have h:=Y50 ds
  refine ⟨.inr rfl,rfl,rfl,rfl,rfl,by simp [Z3i,Z7n,Bv.items],?_,⟨_,?_, .inr rfl⟩,rfl⟩
  · unfold Y5r
    simp [-List.map_map,Bv.items,h]
  · show some (X.d (.tup (Z6f ds (some 1) none)))=_
    rw [X1j]
theorem V14 {T:Sto} {k:Nat} {ds:List D} (h:T[k]?=some (.lst (ds.map X.d))):SQ T (.r k) (.lst ds) ds (.lst k (ds.map X.d)):=by
  have hd:=Y50 ds
  refine ⟨.inl rfl,?_,?_,?_,?_,?_,?_,⟨_,?_, .inl rfl⟩,?_⟩
  · show (match T[k]? with
      | some (.lst xs)=>(ds? xs).map D.lst
      | some (.fdc kvs)=>(ks? kvs).map D.dic
      | _=>none)=_
    rw [h]
    show (ds? (ds.map X.d)).map D.lst=_
    rw [hd]
    rfl
  · unfold Y1u
    simp only [h]
  · unfold Lk.ok
    simp only [h]
    exact decide_eq_true trivial
  · unfold Bv.items
    simp only [h]
  · unfold Z3i Z7n
    simp only [h,List.length_map]
  · unfold Y5r
    simp only [Bv.items,h,Option.bind_some,hd]
  · unfold slX
    simp only [h]
    have:=Y50 (ds.drop 1)
    rw [X1j,← List.map_drop,this]
    rfl
  · unfold isX
    simp only [h]
    rfl
section
variable {T:Sto} {x:X} {g:D} {ds:List D} {lk:Lk} {ss:List Str}
theorem SQ.gets (h:SQ T x g ds lk):Bv.gets T [x]=some [g]:=by
  show (match x.get T,some ([]:List D) with
    | some d,some l=>some (d :: l)
    | _,_=>none)=_
  rw [h.get]
theorem X67 {s:Str} (h:g = .lst (ss.map D.str) ∨ g = .tup (ss.map D.str)):inD (.str s) g=some (.bl (decide (s ∈ ss))):=by
  rcases h with rfl | rfl
  · exact W2r
  · exact Z8p
theorem W2u (h:g = .lst ds ∨ g = .tup ds):g_is_sequence [g] = .ok (.bl true):=by rcases h with rfl | rfl <;> rfl
theorem X5q (hg:g = .lst (ss.map D.str) ∨ g = .tup (ss.map D.str)) (h:ss.Nodup) (hl:ss.length < 1000):g_are_unlike [g] = .ok (.bl true):=by
  rcases hg with rfl | rfl
  · exact X9c h hl
  have hs:=X2p ss
  have hw:=Y2t h
  have hb:ss.length + 1 < scanBound:=by
    have:(1001:Nat) ≤ scanBound:=by decide
    omega
  have h1:Y1h [.d (.tup (ss.map D.str))] [] = .ok (.d (.int ss.length)) []:=by
    show (match (some ((ss.map D.str).map X.d)).bind Bv.strs? with
      | some xs=>if decide (xs.length + 1 < scanBound) then R.ok (X.d (.int (Z7s xs).length)) [] else .bad
      | none => .bad)=_
    rw [Option.bind_some,hs]
    show (if decide (ss.length + 1 < scanBound) then R.ok (X.d (.int (Z7s ss).length)) [] else .bad)=_
    rw [if_pos (decide_eq_true hb),hw]
  have h2:Z3i [.d (.tup (ss.map D.str))] [] = .ok (.d (.int ss.length)) []:=by simp [Z3i,Z7n,Bv.items]
  unfold g_are_unlike Z50 Z5m
  simp only [X6,Y5,Y1m,Z3,Y0,Z0,Z7,R.bind,R.so,ev0,List.map_cons,List.map_nil,List.length_cons,List.length_nil,List.singleton_append,List.getElem?_cons_zero,h1,h2,op2,Y4,Y51,decide_true,Z9q]
theorem X71 (hg:g = .lst (ss.map D.str) ∨ g = .tup (ss.map D.str)) (h:ss.Nodup) (hl:ss.length < 1000) (hn:∀ x ∈ ss,g_is_name [.str x] = .ok (.bl true)):g_are_names [g] = .ok (.bl true):=by
  have hu:=X5q hg h hl
  have hq:=W2u hg
  have hz:ss.length ≤ sizeLine:=by rw [sizeLine_eq]; omega
  have wk:Y1u [] (.d g)=some (ss.map (fun s=>X.d (.str s)), .free):=by
    rcases hg with rfl | rfl <;> (show some ((ss.map D.str).map X.d,Lk.free)=_; rw [List.map_map]; rfl)
  have hlc:Z4p (.nm 1) (Q9 (Z3 0)) (Z0n) (Y0 (Y9 1 (X5 [] (callP g_is_name))) (Z0 (Z3 1) (Z7))) [1] [some (.d g),none] [] = .ok (.d (.lst (ss.map fun _ => .bl true))) []:=by
    refine Y1j (fun s => .d (.str s)) (fun _ => .bl true) (l:=ss) (Z10 (Z6 rfl) wk) hz fun s hs=>⟨_,rfl,Y7 (Z5 (Z6 rfl) Y1) (W4 rfl (Y3g (hn s hs)))⟩
  have ha:=Y7q ss ([]:Sto)
  unfold g_are_names Z50 Y0l
  simp [ev0,Y2,Z0k,W7,U1,V6,Z2h,X6,Z2p,Z06,Z1d,Z14,Z2j,Z5f,Z0s,Z0d,Y5,Z1m,Z3,m_c,Y0,Z0,Z7,Z0a,V4,Q7,Q8,X4,Z3b,V8,Q4,Z5n,Z56,Q3,Z0i,W8,Z1y,Z5k,Z3h,Y0v,Y6,Z0r,R.bind,R.so,RO.then,items,ixO,ixD,Z8c,Z5r,op2,Y4,tb,Z4f,Z4d,Z4e,Z3j,slX,Z0e,Z11,Y9,X5,Z8m,Z9q,Z3l,Y1y,Z8a,Z6l,Z7h,Z3i,Z7n,Y1w,Z31,ints?,Y0i,Y2l,Y2j,ds?,gets,callP,X.isD,D.noL,D.noLs,D.noLf,Q5,Z25,Z30,Z5g,Y1i,Y1v,Y1x,Y2d,hq,hu,hlc,ha]
theorem X13 (h:SQ T x g (ss.map D.str) lk) (hn:ss.Nodup) (hl:ss.length < 1000) (hm:∀ x ∈ ss,x ∈ Z9x):callP g_are_names [x] T = .ok (.d (.bl true)) T :=
  W4i h.gets (X71 h.form hn hl fun y hy=>Y41 (List.all_eq_true.mp Y3v y (hm y hy))) rfl
theorem SQ.walks (h:SQ T x g (ss.map D.str) lk):Y1u T x=some (ss.map (fun s=>X.d (.str s)),lk):=by
  rw [h.walk,List.map_map]
  rfl
theorem X2w {α:Type} (l:List α):Y3q (fun l=>l.all id) [.d (.lst (l.map fun _=>D.bl true))] T = .ok (.d (.bl true)) T:=Y7q l T
theorem W0l {α:Type} {t:Tg} {mi:MIt} {mt:MG Bool} {me:M} {vs:List Nat} {e:Ev} {S:Sto} (hk:lk.ok S=true) (x:α→X) (f:α→D) (c:α→Bool) {l:List α} (hi:mi e S = .ok (l.map x,lk) S) (hl:l.length ≤ sizeLine) (h:∀ a ∈ l,∃ e1,t.asg S (x a) (Z05 e vs)=some e1∧mt e1 S = .ok (c a) S∧(c a=true→me e1 S = .ok (.d (f a)) S)) :
    Z4p t mi mt me vs e S = .ok (.d (.lst ((l.filter c).map f))) S:=by
  have go:∀ {l:List α},(∀ a ∈ l,∃ e1,t.asg S (x a) (Z05 e vs)=some e1∧mt e1 S = .ok (c a) S∧(c a=true→me e1 S = .ok (.d (f a)) S))→lcL t lk mt me (Z05 e vs) (l.map x) S = .ok ((l.filter c).map f) S:=fun {l}=>by
    induction l with
    | nil=>intro _; simp [lcL,hk]
    | cons a l ih =>
      intro h
      obtain ⟨e1,h1,h2,h3⟩:=h a (by simp)
      have ih:=ih fun b hb=>h b (List.mem_cons_of_mem _ hb)
      cases hc:c a with
      | false=>simp [lcL,hk,h1,h2,hc,R.ne,R.bind,ih]
      | true=>simp [lcL,hk,h1,h2,hc,h3 hc,R.ne,R.bind,ih]
  unfold Z4p
  rw [hi]
  show (lcL t lk mt me (Z05 e vs) (l.map x) S).bind Y3a=_
  rw [go h]
  show Y3a ((l.filter c).map f) S=_
  unfold Y3a
  have:=List.length_filter_le c l
  rw [if_pos (by rw [List.length_map]; omega)]
end
end Lw
namespace Lw
open PySem PySem.Spec L2 Bv
open PyProof.Rows hiding St
variable [HasW]
def V22:MG Bool:=(Z0i (W8 (Y6 (Y0 (Y9 1 (X5 [] (callP g_are_names))) (Z0 (Z3 1) (Z7))))) (Z0d (Y5 eqD (Y0 Z3i (Z0 (Z3 1) (Z7))) (m_c (.int 0)))))
def V23:MS:=Z44
def j_0:MS:=(Z0k V22 V23 W7)
def V24:MG Bool:=(Z0i (W8 (Y6 (Y0 (Y9 1 (X5 [] (callP g_are_names))) (Z0 (Z3 2) (Z7))))) (W8 (Y6 (Y0 (Y3q fun l=>l.all id) (Z0 (Z4p (.nm 6) (Q9 (Z3 2)) (Z0n) (Y5 inD (Z3 6) (V8 (Z3 1) (Q4 (m_c (.int 1))) (Z5n))) [6]) (Z7))))))
def V25:MS:=Z44
def j_1:MS:=(Z0k V24 V25 W7)
def V26:MG Bool:=(Z0i (W8 (Y6 (Y0 (Y9 1 (X5 [] (callP g_are_names))) (Z0 (Z3 3) (Z7))))) (W8 (Y6 (Y0 (Y3q fun l=>l.all id) (Z0 (Z4p (.nm 6) (Q9 (Z3 3)) (Z0n) (Y5 inD (Z3 6) (Z3 1)) [6]) (Z7))))))
def V27:MS:=Z44
def j_2:MS:=(Z0k V26 V27 W7)
def V28:MG Bool:=(Z0i (W8 (Y6 (Y0 (Y9 1 (X5 [] (callP g_is_sequence))) (Z0 (Z3 4) (Z7))))) (W8 (Y6 (Y0 (Y3q fun l=>l.all id) (Z0 (Z4p (.nm 5) (Q9 (Z3 4)) (Z0n) (Z57 Y2z [("Row" ,true),("Tool" ,false)] (Z3 5)) [5]) (Z7))))))
def V29:MS:=Z44
def j_3:MS:=(Z0k V28 V29 W7)
def V3a:MG Bool:=(W8 (Y6 (Y0 (Y3q fun l=>l.all id) (Z0 (Z4p (.nm 5) (Q9 (Z3 4)) (Z0n) (Z1y (Y5 inD (X4 ["Row"] "old" (Z3 5)) (V4 (Z0 (m_c (.str "any")) (Z0a (Z3 1) (Z7))))) (Y5 inD (X4 ["Row"] "then" (Z3 5)) (V4 (Z0 (m_c (.str "same")) (Z0a (Z3 1) (Z7)))))) [5]) (Z7)))))
def V3b:MS:=Z44
def j_4:MS:=(Z0k V3a V3b W7)
def V3c:MG Bool:=(Y6 (Y0 (Y3q fun l=>l.any id) (Z0 (Z4p (.nm 5) (Q9 (Z3 4)) (Z0n) (Z1y (Y5 neD (X4 ["Row"] "word" (Z3 5)) (m_c (.str "give"))) (Y5 eqD (X4 ["Row"] "old" (Z3 5)) (Z1m (Z3 1) (m_c (.int 0))))) [5]) (Z7))))
def V3d:MS:=Z44
def j_5:MS:=(Z0k V3c V3d W7)
def j_6:MS:=(Z0s ["Tool"] "marks" (Z3 0) (Y0 Y5r (Z0 (Z3 1) (Z7))))
def j_7:MS:=(Z0s ["Tool"] "shown" (Z3 0) (Y0 Y5r (Z0 (Z4p (.nm 6) (Q9 (Z3 1)) (Z0d (Y5 inD (Z3 6) (Z3 2))) (Z3 6) [6]) (Z7))))
def j_8:MS:=(Z0s ["Tool"] "asked" (Z3 0) (Y0 Y5r (Z0 (Z4p (.nm 6) (Q9 (Z3 1)) (Z0d (Y5 inD (Z3 6) (Z3 3))) (Z3 6) [6]) (Z7))))
def j_9:MS:=(Z0s ["Tool"] "rows" (Z3 0) (Y0 Y5r (Z0 (Z3 4) (Z7))))
def V2m:MS:=(Z0s ["Tool"] "blank" (Z3 0) (Z1m (Z3 1) (m_c (.int 0))))
def j:MS:=(Y2 j_0 (Y2 j_1 (Y2 j_2 (Y2 j_3 (Y2 j_4 (Y2 j_5 (Y2 j_6 (Y2 j_7 (Y2 j_8 (Y2 j_9 V2m))))))))))
theorem V3e:Z7z=j:=by kernel_rfl
def evJ (n:Nat) (x1 x2 x3 x4:X):Ev:=[some (.r n),some x1,some x2,some x3,some x4,none,none]
section
variable {n:Nat} {ml sp ap ms sh as:List Str} {m0:Str} {x1 x2 x3 x4:X} {g1 g2 g3 g4:D} {k1 k2 k3 k4:Lk} {rows:List Z7g} {T S:Sto} {fs:List (Str × X)}
theorem SQ.lens {x:X} {g:D} {lk:Lk} {ss:List Str} (h:SQ T x g (ss.map D.str) lk):Z3i [x] T = .ok (.d (.int ss.length)) T:=by
  have:=h.len
  rwa [List.length_map] at this
theorem V0p {i j:Int} (h:i ≠ j):eqD (.int i) (.int j)=some (.bl false):=by rw [Y51,decide_eq_false h]
theorem V1i {a c:Str} (h:a=c):neD (.str a) (.str c)=some (.bl false):=by rw [Z7d,decide_eq_true h]; rfl
theorem V1j {a c:Str} (h:a ≠ c):neD (.str a) (.str c)=some (.bl true):=by rw [Z7d,decide_eq_false h]; rfl
theorem X95 {a c:Str} (h:a ≠ c):eqD (.str a) (.str c)=some (.bl false):=by rw [Z28,decide_eq_false h]
theorem W4h {a c:Str} (h:a=c):eqD (.str a) (.str c)=some (.bl true):=by rw [Z28,decide_eq_true h]
theorem hz4 {n:Nat} (h:n < 2000):n ≤ sizeLine:=by rw [sizeLine_eq]; omega
theorem W6i (h:SQ T x1 g1 (ml.map D.str) k1) (hn:callP g_are_names [x1] T = .ok (.d (.bl true)) T) (hl:ml.length ≠ 0):j_0 (evJ n x1 x2 x3 x4) T = .go (.nx (evJ n x1 x2 x3 x4)) T:=by
  have e:=V0p (i:=(ml.length:Int)) (j:=0) (by omega)
  exact (Y7f (Z34 (Z3a (W1 (Y7 (Z5 (Z6 rfl) Y1) (W4 rfl (hn))) (rfl))) (Z0v (X8 (Y7 (Z5 (Z6 rfl) Y1) (h.lens)) V9 (Y4) (Y4) (e)))) Y7g)
theorem W6j (h1:SQ T x1 g1 (ml.map D.str) k1) (h:SQ T x2 g2 (sp.map D.str) k2) (hn:callP g_are_names [x2] T = .ok (.d (.bl true)) T) (hz:sp.length ≤ sizeLine) (hc:ml.drop 1=ms) (hin:∀ s ∈ sp,s ∈ ms):j_1 (evJ n x1 x2 x3 x4) T = .go (.nx (evJ n x1 x2 x3 x4)) T:=by
  obtain ⟨g',sl,hg'⟩:=h1.sl
  rw [← List.map_drop,hc] at hg'
  have hlc:Z4p (.nm 6) (Q9 (Z3 2)) (Z0n) (Y5 inD (Z3 6) (V8 (Z3 1) (Q4 (m_c (.int 1))) (Z5n))) [6] (evJ n x1 x2 x3 x4) T = .ok (.d (.lst (sp.map fun _ => .bl true))) T :=
    Y4m h.ok (fun s => .d (.str s)) (fun _ => .bl true) (l:=sp) (Z10 (Z6 rfl) h.walks) hz fun s hs=>⟨_,rfl,X8 (Z6 rfl) (Z4a (Z6 rfl) (Z5a V9) Y4i sl) Y4 Y4 (by rw [X67 hg',decide_eq_true (hin s hs)])⟩
  exact (Y7f (Z34 (Z3a (W1 (Y7 (Z5 (Z6 rfl) Y1) (W4 rfl (hn))) (rfl))) (Z3a (W1 (Y7 (Z5 (hlc) Y1) (X2w sp)) (rfl)))) Y7g)
theorem W6k (h1:SQ T x1 g1 (ml.map D.str) k1) (h:SQ T x3 g3 (ap.map D.str) k3) (hn:callP g_are_names [x3] T = .ok (.d (.bl true)) T) (hz:ap.length ≤ sizeLine) (hin:∀ s ∈ ap,s ∈ ml):j_2 (evJ n x1 x2 x3 x4) T = .go (.nx (evJ n x1 x2 x3 x4)) T:=by
  have hlc:Z4p (.nm 6) (Q9 (Z3 3)) (Z0n) (Y5 inD (Z3 6) (Z3 1)) [6] (evJ n x1 x2 x3 x4) T = .ok (.d (.lst (ap.map fun _ => .bl true))) T :=
    Y4m h.ok (fun s => .d (.str s)) (fun _ => .bl true) (l:=ap) (Z10 (Z6 rfl) h.walks) hz fun s hs=>⟨_,rfl,X8 (Z6 rfl) (Z6 rfl) Y4 h1.get (by rw [X67 h1.form,decide_eq_true (hin s hs)])⟩
  exact (Y7f (Z34 (Z3a (W1 (Y7 (Z5 (Z6 rfl) Y1) (W4 rfl (hn))) (rfl))) (Z3a (W1 (Y7 (Z5 (hlc) Y1) (X2w ap)) (rfl)))) Y7g)
theorem SQ.walkq {x:X} {g:D} {lk:Lk} (h:SQ T x g (rows.map Z52) lk):Y1u T x=some (rows.map (fun r=>X.d (Z52 r)),lk):=by
  rw [h.walk,List.map_map]
  rfl
theorem W6l (h:SQ T x4 g4 (rows.map Z52) k4) (hz:rows.length ≤ sizeLine):j_3 (evJ n x1 x2 x3 x4) T = .go (.nx (evJ n x1 x2 x3 x4)) T:=by
  have hlc:Z4p (.nm 5) (Q9 (Z3 4)) (Z0n) (Z57 Y2z [("Row",true),("Tool",false)] (Z3 5)) [5] (evJ n x1 x2 x3 x4) T = .ok (.d (.lst (rows.map fun _ => .bl true))) T :=
    Y4m h.ok (fun r => .d (Z52 r)) (fun _ => .bl true) (l:=rows) (Z10 (Z6 rfl) h.walkq) hz fun s hs=>⟨_,rfl,Y4h (Z6 rfl) W4w⟩
  have hn:callP g_is_sequence [x4] T = .ok (.d (.bl true)) T:=W4i h.gets (W2u h.form) rfl
  exact (Y7f (Z34 (Z3a (W1 (Y7 (Z5 (Z6 rfl) Y1) (W4 rfl (hn))) (rfl))) (Z3a (W1 (Y7 (Z5 (hlc) Y1) (X2w rows)) (rfl)))) Y7g)
theorem X1f {r:Z7g}:Z3j ["Row"] "word" T (.d (Z52 r))=some (.d (.str r.1)):=by rfl
theorem X52 {r:Z7g}:Z3j ["Row"] "old" T (.d (Z52 r))=some (.d (.str r.2.1)):=by rfl
theorem X54 {r:Z7g}:Z3j ["Row"] "then" T (.d (Z52 r))=some (.d (.str r.2.2.1)):=by rfl
theorem X6q {w:Str} {ss:List Str}:ds? (X.d (.str w) :: ((ss.map D.str).map X.d++[]))=some ((w :: ss).map D.str):=by
  rw [List.append_nil]
  exact W7p ((w :: ss).map D.str)
theorem W6m (h1:SQ T x1 g1 (ml.map D.str) k1) (h:SQ T x4 g4 (rows.map Z52) k4) (hz:rows.length ≤ sizeLine) (hm:ml.length + 1 ≤ sizeLine) (q1:∀ r ∈ rows,r.2.1 ∈ ("any" : Str) :: ml) (q2:∀ r ∈ rows,r.2.2.1 ∈ ("same" : Str) :: ml):j_4 (evJ n x1 x2 x3 x4) T = .go (.nx (evJ n x1 x2 x3 x4)) T:=by
  have hlc:Z4p (.nm 5) (Q9 (Z3 4)) (Z0n) (Z1y (Y5 inD (X4 ["Row"] "old" (Z3 5)) (V4 (Z0 (m_c (.str "any")) (Z0a (Z3 1) (Z7))))) (Y5 inD (X4 ["Row"] "then" (Z3 5)) (V4 (Z0 (m_c (.str "same")) (Z0a (Z3 1) (Z7)))))) [5] (evJ n x1 x2 x3 x4) T = .ok (.d (.lst (rows.map fun _ => .bl true))) T:=by
    refine Y4m h.ok (fun r => .d (Z52 r)) (fun _ => .bl true) (l:=rows) (Z10 (Z6 rfl) h.walkq) hz fun r hr=>⟨_,rfl,?_⟩
    have b1:inD (.str r.2.1) (.tup ((("any" : Str) :: ml).map D.str))=some (.bl true):=by rw [Z8p,decide_eq_true (q1 r hr)]
    have b2:inD (.str r.2.2.1) (.tup ((("same" : Str) :: ml).map D.str))=some (.bl true):=by rw [Z8p,decide_eq_true (q2 r hr)]
    exact Y71 (X8 (U6 (Z6 rfl) X52) (Z1r (Z5 V9 (Z6g (Z6 rfl) h1.items Y1)) X6q (by rw [List.length_map]; exact hm)) Y4 Y4 b1) rfl (X8 (U6 (Z6 rfl) X54) (Z1r (Z5 V9 (Z6g (Z6 rfl) h1.items Y1)) X6q (by rw [List.length_map]; exact hm)) Y4 Y4 b2)
  exact (Y7f (Z3a (W1 (Y7 (Z5 (hlc) Y1) (X2w rows)) (rfl))) Y7g)
theorem ix0 (h1:SQ T x1 g1 ((m0 :: ms).map D.str) k1):ixO T x1 0=some (.d (.str m0)):=by
  unfold ixO
  rw [h1.items]
  simp [atI,ixN]
theorem W6n (h1:SQ T x1 g1 ((m0 :: ms).map D.str) k1) (h:SQ T x4 g4 (rows.map Z52) k4) (hz:rows.length ≤ sizeLine) (q:∀ r ∈ rows,r.1 ≠ "give" → r.2.1 ≠ m0):j_5 (evJ n x1 x2 x3 x4) T = .go (.nx (evJ n x1 x2 x3 x4)) T:=by
  have hlc:Z4p (.nm 5) (Q9 (Z3 4)) (Z0n) (Z1y (Y5 neD (X4 ["Row"] "word" (Z3 5)) (m_c (.str "give"))) (Y5 eqD (X4 ["Row"] "old" (Z3 5)) (Z1m (Z3 1) (m_c (.int 0))))) [5] (evJ n x1 x2 x3 x4) T = .ok (.d (.lst (rows.map fun _ => .bl false))) T:=by
    refine Y4m h.ok (fun r => .d (Z52 r)) (fun _ => .bl false) (l:=rows) (Z10 (Z6 rfl) h.walkq) hz fun r hr=>⟨_,rfl,?_⟩
    by_cases g:r.1 = "give"
    · exact X3e (X8 (U6 (Z6 rfl) X1f) V9 Y4 Y4 (V1i g)) rfl
    · exact Y71 (X8 (U6 (Z6 rfl) X1f) V9 Y4 Y4 (V1j g)) rfl (X8 (U6 (Z6 rfl) X52) (Z3u (Z6 rfl) V9 (ix0 h1)) Y4 Y4 (X95 (q r hr g)))
  have ha:=X51 rows T
  exact (Y7f (W1 (Y7 (Z5 (hlc) Y1) (ha)) (rfl)) Y7g)
theorem Y9j {f:Str} {y:X} (h:fs.length < 1000):Z8a ["Tool"] f (S++[.ins "Tool" fs]) (.r S.length) y=some (S++[.ins "Tool" (Z6l f y fs)]):=by
  have c:(["Tool"]:List Str).contains ("Tool" : Str)=true:=by rfl
  have g:(S++[O.ins "Tool" fs])[S.length]?=some (.ins "Tool" fs):=by simp
  unfold Z8a
  simp only [g]
  show (if (["Tool"]:List Str).contains ("Tool" : Str) && decide (fs.length < 1000) then some ((S++[O.ins "Tool" fs]).set S.length (.ins "Tool" (Z6l f y fs))) else none)=_
  rw [c,decide_eq_true h]
  simp
theorem X9b {T:Sto}:Y5r [.d (.lst (ml.map D.str))] T = .ok (.d (.tup (ml.map D.str))) T:=(W9g (T:=T) (ds:=ml.map D.str)).tup
theorem V2h {i:Nat} {x:X} {g:D} {lk:Lk} {l:List Str} {e:Ev} (hz:ml.length ≤ sizeLine) (h1:SQ T x1 g1 (ml.map D.str) k1) (h:SQ T x g (l.map D.str) lk) (e1:e[1]?=some (some x1)) (ei:e[i]?=some (some x)) (h7:e.length=7) (hne:i ≠ 6):Z4p (.nm 6) (Q9 (Z3 1)) (Z0d (Y5 inD (Z3 6) (Z3 i))) (Z3 6) [6] e T = .ok (.d (.lst ((ml.filter fun s=>decide (s ∈ l)).map D.str))) T:=by
  refine W0l h1.ok (fun s => .d (.str s)) D.str (fun s=>decide (s ∈ l)) (l:=ml) (Z10 (Z6 e1) h1.walks) hz fun s hs=>⟨_,rfl,?_,fun _=>?_⟩
  all_goals have g6:((Z05 e [6]).set 6 (some (X.d (.str s))))[6]?=some (some (X.d (.str s))):=List.getElem?_set_self (by rw [Z60]; omega)
  · have gi:((Z05 e [6]).set 6 (some (X.d (.str s))))[i]?=some (some x):=by
      rw [List.getElem?_set_ne (Ne.symm hne)]
      show (e.set 6 none)[i]?=_
      rw [List.getElem?_set_ne (Ne.symm hne)]
      exact ei
    exact Z0v (X8 (Z6 g6) (Z6 gi) Y4 h.get (X67 h.form))
  · exact Z6 g6
theorem W3t:("any" : Str) ∉ Z9x:=by decide +kernel
def X98 (m0:Str) (ms sh as:List Str) (rows:List Z7g):List (Str × X):=[("marks", .d (.tup ((m0 :: ms).map D.str))),("shown", .d (.tup (sh.map D.str))),("asked", .d (.tup (as.map D.str))),("rows", .d (.tup (rows.map Z52))),("blank", .d (.str m0))]
theorem SQ.app {x:X} {g:D} {ds:List D} {lk:Lk} {o:O} (h:SQ S x g ds lk):∃ lk,SQ (S++[o]) x g ds lk:=by
  cases x with
  | d v =>
    have e:v=g:=Option.some.inj h.get
    subst e
    rcases h.form with rfl | rfl
    · exact ⟨_,W9g⟩
    · exact ⟨_,V3p⟩
  | r k =>
    have it:=h.items
    have gt:=h.get
    unfold Bv.items at it
    cases q:S[k]? with
    | none=>simp only [q] at it; cases it
    | some u =>
      simp only [q] at it
      cases u with
      | lst xs =>
        have e:xs=ds.map X.d:=Option.some.inj it
        subst e
        have hk:k < S.length:=(List.getElem?_eq_some_iff.mp q).1
        have:=V14 (T:=S++[o]) (k:=k) (ds:=ds) (by rw [List.getElem?_append_left hk,q])
        have gg:X.get S (.r k)=some (.lst ds):=(V14 q).get
        rw [gt] at gg
        cases gg
        exact ⟨_,this⟩
      | _=>cases it
theorem X5n (hS:OkS S) (h:ToolOk m0 ms sh as rows) (hp:sp.Perm sh) (hq:ap.Perm as) (h1:SQ S x1 g1 ((m0 :: ms).map D.str) k1) (h2:SQ S x2 g2 (sp.map D.str) k2) (h3:SQ S x3 g3 (ap.map D.str) k3) (h4:SQ S x4 g4 (rows.map Z52) k4):made "Tool" mkF Z4i [x1,x2,x3,x4] S = .ok (.d (Y94 m0 ms sh as rows)) S:=by
  have lm:=h.few
  have lr:=h.len
  have ls:sh.length ≤ ms.length:=h.sh.length_le
  have la:as.length ≤ ms.length + 1:=h.as.length_le
  have lp:=hp.length_eq
  have lq:=hq.length_eq
  have zm:(m0 :: ms).length ≤ sizeLine:=hz4 (by simp; omega)
  have zr:rows.length ≤ sizeLine:=hz4 (by omega)
  have nms:ms.Nodup:=(List.nodup_cons.mp h.nd).2
  have f1:=Y6y h.nd (h.sh.cons m0) hp
  have f2:=Y6y h.nd h.as hq
  have A:∀ fs,(∃ k,SQ (S++[.ins "Tool" fs]) x1 g1 ((m0 :: ms).map D.str) k)∧(∃ k,SQ (S++[.ins "Tool" fs]) x2 g2 (sp.map D.str) k)∧(∃ k,SQ (S++[.ins "Tool" fs]) x3 g3 (ap.map D.str) k)∧∃ k,SQ (S++[.ins "Tool" fs]) x4 g4 (rows.map Z52) k:=fun fs=>⟨h1.app,h2.app,h3.app,h4.app⟩
  obtain ⟨⟨_,a1⟩,⟨_,a2⟩,⟨_,a3⟩,⟨_,a4⟩⟩:=A []
  have n1:=X13 a1 h.nd (by simp; omega) h.names
  have n2:=X13 a2 (hp.nodup_iff.mpr (nms.sublist h.sh)) (by omega) fun y hy=>h.names y (List.mem_cons_of_mem _ (h.sh.subset (hp.mem_iff.mp hy)))
  have n3:=X13 a3 (hq.nodup_iff.mpr (h.nd.sublist h.as)) (by omega) fun y hy=>h.names y (h.as.subset (hq.mem_iff.mp hy))
  have p0:=W6i (n:=S.length) (x2:=x2) (x3:=x3) (x4:=x4) a1 n1 (by simp)
  have p1:=W6j (n:=S.length) (x3:=x3) (x4:=x4) a1 a2 n2 (hz4 (by omega)) (show (m0 :: ms).drop 1=ms from rfl) fun s hs=>h.sh.subset (hp.mem_iff.mp hs)
  have p2:=W6k (n:=S.length) (x2:=x2) (x4:=x4) a1 a3 n3 (hz4 (by omega)) fun s hs=>h.as.subset (hq.mem_iff.mp hs)
  have p3:=W6l (n:=S.length) (x1:=x1) (x2:=x2) (x3:=x3) a4 zr
  have p4:=W6m (n:=S.length) (x2:=x2) (x3:=x3) a1 a4 zr (hz4 (by simp; omega)) (fun r hr=>(h.rows r hr).2.1) (fun r hr=>(h.rows r hr).2.2.1)
  have p5:=W6n (n:=S.length) (x2:=x2) (x3:=x3) a1 a4 zr fun r hr g e=>by
    have:=((h.rows r hr).2.2.2 g).2
    rw [e] at this
    rcases List.mem_cons.mp this with e | m
    · exact W3t (e ▸ h.names m0 (by simp))
    · exact (List.nodup_cons.mp h.nd).1 m
  have p6:j_6 (evJ S.length x1 x2 x3 x4) (S++[.ins "Tool" []]) = .go (.nx (evJ S.length x1 x2 x3 x4)) (S++[.ins "Tool" [("marks", .d (.tup ((m0 :: ms).map D.str)))]]):=(Y5n (Y7 (Z5 (Z6 rfl) Y1) (a1.tup)) (Z6 rfl) (Y9j (by decide)))
  obtain ⟨⟨_,b1⟩,⟨_,b2⟩,_,_⟩:=A [("marks", .d (.tup ((m0 :: ms).map D.str)))]
  have fl7:=V2h (i:=2) (e:=evJ S.length x1 x2 x3 x4) zm b1 b2 rfl rfl rfl (by decide)
  rw [f1] at fl7
  have p7:j_7 (evJ S.length x1 x2 x3 x4) (S++[.ins "Tool" [("marks", .d (.tup ((m0 :: ms).map D.str)))]]) = .go (.nx (evJ S.length x1 x2 x3 x4)) (S++[.ins "Tool" [("marks", .d (.tup ((m0 :: ms).map D.str))),("shown", .d (.tup (sh.map D.str)))]]):=(Y5n (Y7 (Z5 (fl7) Y1) (X9b)) (Z6 rfl) (Y9j (by simp)))
  obtain ⟨⟨_,c1⟩,_,⟨_,c3⟩,_⟩:=A [("marks", .d (.tup ((m0 :: ms).map D.str))),("shown", .d (.tup (sh.map D.str)))]
  have fl8:=V2h (i:=3) (e:=evJ S.length x1 x2 x3 x4) zm c1 c3 rfl rfl rfl (by decide)
  rw [f2] at fl8
  have p8:j_8 (evJ S.length x1 x2 x3 x4) (S++[.ins "Tool" [("marks", .d (.tup ((m0 :: ms).map D.str))),("shown", .d (.tup (sh.map D.str)))]]) = .go (.nx (evJ S.length x1 x2 x3 x4)) (S++[.ins "Tool" [("marks", .d (.tup ((m0 :: ms).map D.str))),("shown", .d (.tup (sh.map D.str))),("asked", .d (.tup (as.map D.str)))]]):=(Y5n (Y7 (Z5 (fl8) Y1) (X9b)) (Z6 rfl) (Y9j (by simp)))
  obtain ⟨_,_,_,⟨_,d4⟩⟩:=A [("marks", .d (.tup ((m0 :: ms).map D.str))),("shown", .d (.tup (sh.map D.str))),("asked", .d (.tup (as.map D.str)))]
  have p9:j_9 (evJ S.length x1 x2 x3 x4) (S++[.ins "Tool" [("marks", .d (.tup ((m0 :: ms).map D.str))),("shown", .d (.tup (sh.map D.str))),("asked", .d (.tup (as.map D.str)))]]) = .go (.nx (evJ S.length x1 x2 x3 x4)) (S++[.ins "Tool" [("marks", .d (.tup ((m0 :: ms).map D.str))),("shown", .d (.tup (sh.map D.str))),("asked", .d (.tup (as.map D.str))),("rows", .d (.tup (rows.map Z52)))]]):=(Y5n (Y7 (Z5 (Z6 rfl) Y1) (d4.tup)) (Z6 rfl) (Y9j (by simp)))
  obtain ⟨⟨_,e1⟩,_,_,_⟩:=A [("marks", .d (.tup ((m0 :: ms).map D.str))),("shown", .d (.tup (sh.map D.str))),("asked", .d (.tup (as.map D.str))),("rows", .d (.tup (rows.map Z52)))]
  have p10:V2m (evJ S.length x1 x2 x3 x4) (S++[.ins "Tool" [("marks", .d (.tup ((m0 :: ms).map D.str))),("shown", .d (.tup (sh.map D.str))),("asked", .d (.tup (as.map D.str))),("rows", .d (.tup (rows.map Z52)))]]) = .go (.nx (evJ S.length x1 x2 x3 x4)) (S++[.ins "Tool" (X98 m0 ms sh as rows)]):=(Y5n (Z3u (Z6 rfl) V9 (ix0 e1)) (Z6 rfl) (Y9j (by simp)))
  have all:Z7z (ev0 7 [.r S.length,x1,x2,x3,x4]) (S++[.ins "Tool" []]) = .go (.nx (evJ S.length x1 x2 x3 x4)) (S++[.ins "Tool" (X98 m0 ms sh as rows)]):=by
    rw [V3e]
    exact Z6z p0 (Z6z p1 (Z6z p2 (Z6z p3 (Z6z p4 (Z6z p5 (Z6z p6 (Z6z p7 (Z6z p8 (Z6z p9 p10)))))))))
  have l0:(S++[O.ins "Tool" []]).length=S.length + 1:=by simp
  have c2:cut (S++[O.ins "Tool" []]).length (S++[.ins "Tool" (X98 m0 ms sh as rows)])=some (S++[.ins "Tool" (X98 m0 ms sh as rows)]):=by
    have:=(hS.push (o := .ins "Tool" (X98 m0 ms sh as rows)) rfl).cut0
    rw [List.length_append] at this
    rw [l0]
    exact this
  have run:Z4i [.r S.length,x1,x2,x3,x4] (S++[.ins "Tool" []]) = .ok (.d .non) (S++[.ins "Tool" (X98 m0 ms sh as rows)]):=X8l all c2
  have f0:frz (S++[.ins "Tool" (X98 m0 ms sh as rows)]) S.length=some (Y94 m0 ms sh as rows):=by
    have g:(S++[O.ins "Tool" (X98 m0 ms sh as rows)])[S.length]?=some (.ins "Tool" (X98 m0 ms sh as rows)):=by simp
    unfold frz
    rw [g]
    rfl
  exact X7l run f0 hS.cut
theorem X9a (hS:OkS S) (h:ToolOk m0 ms sh as rows) (hp:sp.Perm sh) (hq:ap.Perm as) (h4:∃ g4 k4,SQ S x4 g4 (rows.map Z52) k4):made "Tool" mkF Z4i [.d (tls (m0 :: ms)), .d (tls sp), .d (tls ap),x4] S = .ok (.d (Y94 m0 ms sh as rows)) S:=by
  obtain ⟨g4,k4,h4⟩:=h4
  exact X5n hS h hp hq W9g W9g W9g h4
end
end Lw
namespace Lw
open PySem PySem.Spec L2 Bv
open PyProof.Rows hiding St
variable [HasW]
section
variable {ml:List Str} {T:Sto}
theorem W2a:Y1u T (.d (tls ml))=some (ml.map (fun s=>X.d (.str s)), .free):=by unfold tls; simp [Y1u]
theorem W45:Z3i [.d (tls ml)] T = .ok (.d (.int ml.length)) T:=by unfold tls; simp [Z3i,Z7n,items]
end
def zQ (r:Z7g):Str:=zR r.1 r.2.1 r.2.2.1 r.2.2.2
def Z45 (m0:Str) (ms sp ap:List Str) (rows:List Z7g):List Str:=Str.join " " ("marks" :: m0 :: ms) :: Str.join " " ("shown" :: sp) :: Str.join " " ("asked" :: ap) :: rows.map zQ
def zT (m0:Str) (ms sp ap:List Str) (rows:List Z7g):Str:=Str.join "\n" (Z45 m0 ms sp ap rows)
theorem W3j {k:Nat}:∀ {l:List Str},(∀ z ∈ l,z.length ≤ k)→(l.map (fun z:Str=>z.length)).sum ≤ l.length * k
  | [],_=>by simp
  | a :: l,h=>by
    have h1:=h a (by simp)
    have h2:=W3j (l:=l) fun z hz=>h z (List.mem_cons_of_mem _ hz)
    simp only [List.map_cons,List.sum_cons,List.length_cons,Nat.add_mul]
    omega
theorem Y2c {k:Nat} {a:Str}:∀ {l:List Str},(∀ z ∈ l,z.length ≤ k)→(Str.join a l).length ≤ l.length * (k + a.length)
  | [],_=>by
    show (0:Nat) ≤ _
    exact Nat.zero_le _
  | [x],h=>by
    have h1:=h x (by simp)
    show x.length ≤ 1 * (k + a.length)
    omega
  | x :: y :: r,h=>by
    have h1:=h x (by simp)
    have h2:=Y2c (a:=a) (l:=y :: r) fun z hz=>h z (List.mem_cons_of_mem _ hz)
    have e:Str.join a (x :: y :: r)=x++a++Str.join a (y :: r):=rfl
    rw [e,X82,X82]
    rw [List.length_cons,Nat.add_mul]
    omega
theorem W3i (ss:List Str):Bv.strs? ((ss.map D.str).map X.d)=some ss:=X2p ss
theorem X7b {k:Nat} {a:Str} {l:List Str} {T:Sto} (h:∀ z ∈ l,z.length ≤ k) (hb:l.length * (k + a.length) ≤ 16777216):Y3b a (.d (.lst (l.map D.str))) T = .ok (.d (.str (Str.join a l))) T:=by
  have s:=W3j h
  have e:l.length * (k + a.length)=l.length * k + l.length * a.length:=Nat.mul_add ..
  have b:decide ((l.map (fun z:Str=>z.length)).sum + l.length * a.length ≤ 16777216)=true:=decide_eq_true (by omega)
  unfold Y3b
  show (match (some ((l.map D.str).map X.d)).bind Bv.strs? with
    | some ys=>if decide ((ys.map (fun z:Str=>z.length)).sum + ys.length * a.length ≤ 16777216) then R.ok (X.d (.str (Str.join a ys))) T else .bad
    | none => .bad)=_
  rw [Option.bind_some,W3i]
  show (if decide ((l.map (fun z:Str=>z.length)).sum + l.length * a.length ≤ 16777216) then R.ok (X.d (.str (Str.join a l))) T else .bad)=_
  rw [if_pos b]
theorem W8q {x:Str} (h:x ∈ Z9x):x.length ≤ 5:=(Y5a (show x ∈ Y6n by unfold Y6n; simp [h])).1
theorem Z7m:("marks" : Str).length=5∧("shown" : Str).length=5∧("asked" : Str).length=5∧("\n" : Str).length=1∧(" " : Str).length=1:=by decide +kernel
theorem Y76 {w:Str} {l:List Str} (hw:w.length=5) (h:∀ z ∈ l,z ∈ Z9x) (hl:l.length ≤ 5):(Str.join " " (w :: l)).length ≤ 40:=by
  have hz:∀ z ∈ w :: l,z.length ≤ 5:=fun z m=>(List.mem_cons.mp m).elim (fun e=>by rw [e]; omega) fun m=>W8q (h z m)
  have:=Y2c (a := " ") hz
  rw [Z7m.2.2.2.2,List.length_cons] at this
  omega
theorem W9w {w o t:Str} {k:Bool} (h:Y7o w o t k):(zR w o t k).length ≤ 40:=by
  have hz:∀ z ∈ Z9n w o t k,z.length ≤ 5:=fun z m=>(Y5a (Y5u h z m)).1
  have:=Y2c (a := " ") hz
  have hl:(Z9n w o t k).length ≤ 5:=by unfold Z9n; split <;> simp
  rw [Z7m.2.2.2.2] at this
  unfold zR
  omega
section
variable {m0:Str} {ms sh as sp ap:List Str} {rows:List Z7g} {T:Sto}
theorem Y9n (h:ToolOk m0 ms sh as rows) (hp:sp.Perm sh) (hq:ap.Perm as):(∀ z ∈ Z45 m0 ms sp ap rows,z.length ≤ 40)∧(Z45 m0 ms sp ap rows).length ≤ 23:=by
  obtain ⟨q1,q2,q3,_⟩:=Z7m
  have lm:=h.few
  have lr:=h.len
  have ls:sh.length ≤ ms.length:=h.sh.length_le
  have la:as.length ≤ ms.length + 1:=h.as.length_le
  have lp:=hp.length_eq
  have lq:=hq.length_eq
  refine ⟨fun z hz=>?_,by unfold Z45; simp; omega⟩
  unfold Z45 at hz
  rcases List.mem_cons.mp hz with rfl | hz
  · exact Y76 q1 h.names (by simp; omega)
  rcases List.mem_cons.mp hz with rfl | hz
  · exact Y76 q2 (fun y hy=>h.names y (List.mem_cons_of_mem _ (h.sh.subset (hp.mem_iff.mp hy)))) (by omega)
  rcases List.mem_cons.mp hz with rfl | hz
  · exact Y76 q3 (fun y hy=>h.names y (h.as.subset (hq.mem_iff.mp hy))) (by omega)
  · obtain ⟨r,hr,rfl⟩:=List.mem_map.mp hz
    exact W9w ((h.rows r hr).ok h.names)
theorem X4y (h:ToolOk m0 ms sh as rows) (hp:sp.Perm sh) (hq:ap.Perm as):Y3b "\n" (.d (.lst ((Z45 m0 ms sp ap rows).map D.str))) T = .ok (.d (.str (zT m0 ms sp ap rows))) T:=by
  obtain ⟨h1,h2⟩:=Y9n h hp hq
  refine X7b h1 ?_
  rw [Z7m.2.2.2.1]
  omega
end
end Lw
namespace Lw
open PySem PySem.Spec L2 Bv
open PyProof.Rows hiding St
variable [HasW]
section
variable {m0:Str} {ms sh as sp ap:List Str} {rows:List Z7g} {T:Sto}
theorem X9q:Z3j ["Tool"] "marks" T (.d (Y94 m0 ms sh as rows))=some (.d (.tup ((m0 :: ms).map D.str))):=by rfl
theorem X53:Z3j ["Tool"] "rows" T (.d (Y94 m0 ms sh as rows))=some (.d (.tup (rows.map Z52))):=by rfl
end
end Lw
namespace Lw
open PySem PySem.Spec L2 Bv
open PyProof.Rows hiding St
variable [HasW]
def r_0:MS:=(Z2j 2 3 (Z0 (Z9y Z4j (Z3 1) (m_c (.str "\n"))) (Z0 (Q8 (Z7)) (Z7))))
def r_1:MS:=(Z2o (.tp [(.nm 4),(.nm 5)]) (Z8o (Z0 (m_c (.tup ((["marks", "shown", "asked"]:List Str).map D.str))) (Z7))) (Y2 (Z0k (Z0d (Y5 geD (Z3 4) (Y0 Z3i (Z0 (Z3 2) (Z7))))) (Z44) (W7)) (Y2 (V6 8 (Y0 (Y9 2 (X5 [] (callP g_names_in))) (Z0 (Z1m (Z3 2) (Z3 4)) (Z0 (Z3 5) (Z7))))) (Y2 (Z0k (Z0d (Y5 isD (Z3 8) (m_c .non))) (Z44) (W7)) (U1 (Z3b Q5 Q0 (Z3 3) (Z0 (Z3 8) (Z7))))))))
def r_2:MS:=(V6 6 (Q8 (Z7)))
def r_3:MS:=(Z2o (.tp [(.nm 4),(.nm 7)]) (Z8o (Z0 (V8 (Z3 2) (Q4 (Y0 Z3i (Z0 (m_c (.tup ((["marks", "shown", "asked"]:List Str).map D.str))) (Z7)))) (Z5n)) (Z7))) (X9j (U1 (Z3b Q5 Q0 (Z3 6) (Z0 (Z9c "Row" (Y9 2 (X5 [] (callP Z4l))) (m_c (.gl "Row")) (Z0 (Z3 7) (Z7))) (Z7))))))
def r_4:MS:=(X6 (Z9b 0 "Tool" (Y9 4 (X5 [] (made "Tool" mkF Z4i))) (Z0 (Z1m (Z3 3) (m_c (.int 0))) (Z0 (Z1m (Z3 3) (m_c (.int 1))) (Z0 (Z1m (Z3 3) (m_c (.int 2))) (Z0 (Z3 6) (Z7)))))))
theorem V1t:Y0j=Y2 r_0 ( Y2 r_1 ( Y2 r_2 ( Y2 r_3 (r_4)))):=by kernel_rfl
section
variable {m0:Str} {ms sh as sp ap:List Str} {rows:List Z7g} {T:Sto}
theorem X4b {l:List Str} (hne:l ≠ []) (h:∀ z ∈ l,z ∈ Y6n ∨ z ∈ (["marks", "shown", "asked"]:List Str)) (hl:l.length ≤ 6):Z4j (Str.join " " l) (.d (.str " ")) T = .ok (.d (.lst (l.map D.str))) T:=by
  have ex:∀ z ∈ l,z.length ≤ 5∧(32:Nat) ∉ z.cps.toList∧PyData.strOk z=true:=fun z hz=>by
    rcases h z hz with m | m
    · obtain ⟨a,b,_,_,c⟩:=Y5a m
      exact ⟨a,b,c⟩
    · have:∀ z ∈ (["marks", "shown", "asked"]:List Str),z.length ≤ 5∧(32:Nat) ∉ z.cps.toList∧PyData.strOk z=true:=by decide +kernel
      exact this z m
  have hj:Str.join " " l=Txt.join " " l:=(StrLaws.glued_eq_join ..).symm
  have hs:Txt.split (Str.join " " l) " " = l:=by
    rw [hj]
    exact TL.split_join (s:=32) (S:=[]) (by decide +kernel) (by decide +kernel) hne fun p hp=>(ex p hp).2.1
  have hn:(Str.join " " l).length ≤ 40:=by
    have:=Y2c (a := " ") (k:=5) fun z hz=>(ex z hz).1
    rw [Z7m.2.2.2.2] at this
    omega
  have b1:((" " : Str).length == 0)=false:=by decide +kernel
  have b2:decide ((Str.join " " l).length + 2 ≤ sizeLine)=true:=decide_eq_true (by rw [sizeLine_eq]; omega)
  have b3:Y1o l=true:=List.all_eq_true.mpr fun z hz=>(ex z hz).2.2
  unfold Z4j
  show (if !((" " : Str).length == 0) && decide ((Str.join " " l).length + 2 ≤ sizeLine) && Y1o (Txt.split (Str.join " " l) " ") then R.ok (X.d (.lst ((Txt.split (Str.join " " l) " ").map .str))) T else .bad)=_
  rw [hs,b1,b2,b3]
  rfl
theorem W06 {i j:Int}:neD (.int i) (.int j)=some (.bl (!decide (i=j))):=by
  have h:neD (.int i) (.int j)=some (.bl (!(i == j))):=by
    show some (D.bl (!PyData.eqv (.int i) (.int j)))=_
    simp [PyData.eqv]
  rw [h]
  rfl
theorem V06 {l:List D} {i:Nat} {d:D} (h:l[i]?=some d):ixO T (.d (.lst l)) (i:Int)=some (.d d):=by
  obtain ⟨lt,e⟩:=List.getElem?_eq_some_iff.mp h
  simp [ixO,ixD,items,atI,ixN,lt,e]
theorem W1x {w o t:Str} {k:Bool} (h:Y7o w o t k):Z4l [.gl "Row", .str (zR w o t k)] = .ok (W91 w o t k):=by
  have sp:=X4b (T:=[]) (l:=Z9n w o t k) (by unfold Z9n; split <;> simp) (fun z hz => .inl (Y5u h z hz)) (by unfold Z9n; split <;> simp)
  have mk:=W5b Y0z h
  have hz:∀ n:Nat,n < 1000→n ≤ sizeLine:=fun n h=>by rw [sizeLine_eq]; omega
  have z4:=hz 4 (by decide)
  have k1:inD (.str "keep") (.tup [.str "keep", .str "take"])=some (.bl true):=by rfl
  have k2:inD (.str "take") (.tup [.str "keep", .str "take"])=some (.bl true):=by rfl
  have e3:(("keep" : Str) = "take")=False:=by decide +kernel
  have e4:(("give" : Str) = "give")=True:=eq_self _
  have e1:zR w o t k=Str.join " " (Z9n w o t k):=rfl
  rw [← e1] at sp
  unfold Z4l Z50 Y15
  by_cases c:w = "give"
  · subst c
    cases k
    · have sp2:Z4j (zR "give" o t false) (.d (.str " ")) [] = .ok (.d (.lst [.str "give", .str o, .str "keep", .str "to", .str t])) []:=sp
      simp [ev0,Y2,Z0k,W7,U1,V6,Z2h,X6,Z2p,Z06,Z1d,Z14,Z2j,Z5f,Z0s,Z0d,Y5,Z1m,Z3,m_c,Y0,Z0,Z7,Z0a,V4,Q7,Q8,X4,Z3b,V8,Q4,Z5n,Z56,Q3,Z0i,W8,Z1y,Z5k,Z3h,Y0v,Y6,Z0r,R.bind,R.so,RO.then,items,ixO,ixD,Z8c,Z5r,op2,X.get,tb,Z4f,Z4d,Z4e,Z3j,slX,Z0e,Z11,Y9,X5,Z8m,Z9q,Z3l,Y1y,Z8a,Z6l,Z7h,Z3i,Z7n,Y1w,Z31,ints?,Y0i,Y2l,Y2j,ds?,gets,callP,X.isD,D.noL,D.noLs,D.noLf,Q5,Z25,Z30,Z5g,Y1i,Y1v,Y1x,Y2d,Z9y,sp2,atI,ixN,Z6f,HT.sIx,X9j,Z9b,Z28,Z7d,Y51,W06,k1,e3,z4,mk]
    · have sp2:Z4j (zR "give" o t true) (.d (.str " ")) [] = .ok (.d (.lst [.str "give", .str o, .str "take", .str "to", .str t])) []:=sp
      simp [ev0,Y2,Z0k,W7,U1,V6,Z2h,X6,Z2p,Z06,Z1d,Z14,Z2j,Z5f,Z0s,Z0d,Y5,Z1m,Z3,m_c,Y0,Z0,Z7,Z0a,V4,Q7,Q8,X4,Z3b,V8,Q4,Z5n,Z56,Q3,Z0i,W8,Z1y,Z5k,Z3h,Y0v,Y6,Z0r,R.bind,R.so,RO.then,items,ixO,ixD,Z8c,Z5r,op2,X.get,tb,Z4f,Z4d,Z4e,Z3j,slX,Z0e,Z11,Y9,X5,Z8m,Z9q,Z3l,Y1y,Z8a,Z6l,Z7h,Z3i,Z7n,Y1w,Z31,ints?,Y0i,Y2l,Y2j,ds?,gets,callP,X.isD,D.noL,D.noLs,D.noLf,Q5,Z25,Z30,Z5g,Y1i,Y1v,Y1x,Y2d,Z9y,sp2,atI,ixN,Z6f,HT.sIx,X9j,Z9b,Z28,Z7d,Y51,W06,k2,z4,mk]
  · have e2:Z9n w o t k=[w,o, "to",t]:=if_neg c
    rw [e2] at sp
    have sp2:Z4j (zR w o t k) (.d (.str " ")) [] = .ok (.d (.lst [.str w, .str o, .str "to", .str t])) []:=sp
    have hk:=h.2.2.2 c
    subst hk
    simp [ev0,Y2,Z0k,W7,U1,V6,Z2h,X6,Z2p,Z06,Z1d,Z14,Z2j,Z5f,Z0s,Z0d,Y5,Z1m,Z3,m_c,Y0,Z0,Z7,Z0a,V4,Q7,Q8,X4,Z3b,V8,Q4,Z5n,Z56,Q3,Z0i,W8,Z1y,Z5k,Z3h,Y0v,Y6,Z0r,R.bind,R.so,RO.then,items,ixO,ixD,Z8c,Z5r,op2,X.get,tb,Z4f,Z4d,Z4e,Z3j,slX,Z0e,Z11,Y9,X5,Z8m,Z9q,Z3l,Y1y,Z8a,Z6l,Z7h,Z3i,Z7n,Y1w,Z31,ints?,Y0i,Y2l,Y2j,ds?,gets,callP,X.isD,D.noL,D.noLs,D.noLf,Q5,Z25,Z30,Z5g,Y1i,Y1v,Y1x,Y2d,Z9y,sp2,atI,ixN,Z6f,HT.sIx,X9j,Z9b,Z28,Z7d,Y51,W06,c,z4,mk]
theorem X12 {w:Str} {l:List Str} (hw:w ∈ (["marks", "shown", "asked"]:List Str)) (h:∀ z ∈ l,z ∈ Z9x) (hl:l.length ≤ 5) (hm:w = "marks" → l ≠ []):g_names_in [.str (Str.join " " (w :: l)), .str w] = .ok (tls l):=by
  have sp:=X4b (T:=[]) (l:=w :: l) (by simp) (fun z hz=>(List.mem_cons.mp hz).elim (fun e => .inr (e ▸ hw)) fun m => .inl (by unfold Y6n; simp [h z m])) (by simp; omega)
  have hz:∀ n:Nat,n < 1000→n ≤ sizeLine:=fun n h=>by rw [sizeLine_eq]; omega
  have cut1:slX [] (.d (.lst (D.str w :: l.map D.str))) (some 1) none=some (.d (tls l)):=by
    show some (X.d (.lst (Z6f (D.str w :: l.map D.str) (some 1) none)))=_
    rw [X9z]
    rfl
  have ix0:ixO [] (.d (.lst (D.str w :: l.map D.str))) 0=some (.d (.str w)):=by simp [ixO,ixD,items,atI,ixN]
  have ln:Z3i [.d (.lst (D.str w :: l.map D.str))] [] = .ok (.d (.int (l.length + 1))) []:=by simp [Z3i,Z7n,items]
  have hlc:Z4p (.nm 3) (Q9 (V8 (Z3 2) (Q4 (m_c (.int 1))) (Z5n))) (Z0n) (Y0 (Y9 1 (X5 [] (callP g_is_name))) (Z0 (Z3 3) (Z7))) [3] [some (.d (.str (Str.join " " (w :: l)))),some (.d (.str w)),some (.d (.lst (D.str w :: l.map D.str))),none] [] = .ok (.d (.lst (l.map fun _ => .bl true))) []:=by
    refine Y1j (fun s => .d (.str s)) (fun _ => .bl true) (l:=l) ?_ (hz _ (by omega)) fun s hs=>⟨_,rfl,?_⟩
    · unfold Q9
      simp [ev0,Y2,Z0k,W7,U1,V6,Z2h,X6,Z2p,Z06,Z1d,Z14,Z2j,Z5f,Z0s,Z0d,Y5,Z1m,Z3,m_c,Y0,Z0,Z7,Z0a,V4,Q7,Q8,X4,Z3b,V8,Q4,Z5n,Z56,Q3,Z0i,W8,Z1y,Z5k,Z3h,Y0v,Y6,Z0r,R.bind,R.so,RO.then,items,ixO,ixD,Z8c,Z5r,op2,Y4,tb,Z4f,Z4d,Z4e,Z3j,Z0e,Z11,Y9,X5,Z8m,Z9q,Z3l,Y1y,Z8a,Z6l,Z7h,Z3i,Z7n,Y1w,Z31,ints?,Y0i,Y2l,Y2j,ds?,gets,callP,X.isD,D.noL,D.noLs,D.noLf,Q5,Z25,Z30,Z5g,Y1i,Y1v,Y1x,Y2d,cut1,W2a]
    · have:=Y41 (List.all_eq_true.mp Y3v s (h s hs))
      simp [ev0,Y2,Z0k,W7,U1,V6,Z2h,X6,Z2p,Z06,Z1d,Z14,Z2j,Z5f,Z0s,Z0d,Y5,Z1m,Z3,m_c,Y0,Z0,Z7,Z0a,V4,Q7,Q8,X4,Z3b,V8,Q4,Z5n,Z56,Q3,Z0i,W8,Z1y,Z5k,Z3h,Y0v,Y6,Z0r,R.bind,R.so,RO.then,items,ixO,ixD,Z8c,Z5r,op2,Y4,tb,Z4f,Z4d,Z4e,Z3j,slX,Z0e,Z11,Y9,X5,Z8m,Z9q,Z3l,Y1y,Z8a,Z6l,Z7h,Z3i,Z7n,Y1w,Z31,ints?,Y0i,Y2l,Y2j,ds?,gets,callP,X.isD,D.noL,D.noLs,D.noLf,Q5,Z25,Z30,Z5g,Y1i,Y1v,Y1x,Y2d,Z05,this]
  have ha:=Y7q l ([]:Sto)
  have sp2:Z4j (Str.join " " (w :: l)) (.d (.str " ")) [] = .ok (.d (.lst (D.str w :: l.map D.str))) []:=sp
  unfold g_names_in Z50 Y17
  by_cases c:w = "marks"
  · have hne:=hm c
    have hl0:¬ ((l.length:Int) + 1=1):=by
      have:l.length ≠ 0:=fun e=>hne (List.eq_nil_of_length_eq_zero e)
      omega
    subst c
    simp [ev0,Y2,Z0k,W7,U1,V6,Z2h,X6,Z2p,Z06,Z1d,Z14,Z2j,Z5f,Z0s,Z0d,Y5,Z1m,Z3,m_c,Y0,Z0,Z7,Z0a,V4,Q7,Q8,X4,Z3b,V8,Q4,Z5n,Z56,Q3,Z0i,W8,Z1y,Z5k,Z3h,Y0v,Y6,Z0r,R.bind,R.so,RO.then,items,ixD,Z8c,Z5r,op2,Y4,tb,Z4f,Z4d,Z4e,Z3j,Z0e,Z11,Y9,X5,Z8m,Z9q,Z3l,Y1y,Z8a,Z6l,Z7h,Z7n,Y1w,Z31,ints?,Y0i,Y2l,Y2j,ds?,gets,callP,X.isD,D.noL,D.noLs,D.noLf,Q5,Z25,Z30,Z5g,Y1i,Y1v,Y1x,Y2d,Z9y,sp2,ix0,cut1,ln,hlc,ha,Z7d,Z28,Y51,hl0]
  · simp [ev0,Y2,Z0k,W7,U1,V6,Z2h,X6,Z2p,Z06,Z1d,Z14,Z2j,Z5f,Z0s,Z0d,Y5,Z1m,Z3,m_c,Y0,Z0,Z7,Z0a,V4,Q7,Q8,X4,Z3b,V8,Q4,Z5n,Z56,Q3,Z0i,W8,Z1y,Z5k,Z3h,Y0v,Y6,Z0r,R.bind,R.so,RO.then,items,ixD,Z8c,Z5r,op2,Y4,tb,Z4f,Z4d,Z4e,Z3j,Z0e,Z11,Y9,X5,Z8m,Z9q,Z3l,Y1y,Z8a,Z6l,Z7h,Z7n,Y1w,Z31,ints?,Y0i,Y2l,Y2j,ds?,gets,callP,X.isD,D.noL,D.noLs,D.noLf,Q5,Z25,Z30,Z5g,Y1i,Y1v,Y1x,Y2d,Z9y,sp2,ix0,cut1,ln,hlc,ha,Z7d,Z28,Y51,c]
end
end Lw
namespace Lw
open PySem PySem.Spec L2 Bv
open PyProof.Rows hiding St
variable [HasW]
def Flat (z:Str):Prop:=(10:Nat) ∉ z.cps.toList∧PyData.strOk z=true
theorem Z9r:∀ z ∈ Y6n++(["marks", "shown", "asked", " "]:List Str),Flat z:=by
  have h:((Y6n++(["marks", "shown", "asked", " "]:List Str)).all fun z=>decide ((10:Nat) ∉ z.cps.toList) && PyData.strOk z)=true:=by kernel_rfl
  intro z hz
  have:=List.all_eq_true.mp h z hz
  rw [Bool.and_eq_true,decide_eq_true_eq] at this
  exact this
theorem X6h (a b:Str):(a++b).cps.toList=a.cps.toList++b.cps.toList:=by
  show (a.cps++b.cps).toList=_
  rw [Array.toList_append]
theorem X3z {c:Nat} {a:Str} (ha:c ∉ a.cps.toList):∀ {l:List Str},(∀ z ∈ l,c ∉ z.cps.toList)→c ∉ (Str.join a l).cps.toList
  | [],_=>by
    show c ∉ (Str.empty).cps.toList
    exact List.not_mem_nil
  | [x],h=>h x (by simp)
  | x :: y :: r,h=>by
    have h1:=h x (by simp)
    have h2:=X3z ha (l:=y :: r) fun z hz=>h z (List.mem_cons_of_mem _ hz)
    have e:Str.join a (x :: y :: r)=x++a++Str.join a (y :: r):=rfl
    rw [e,X6h,X6h]
    simp only [List.mem_append]
    rintro ((m | m) | m)
    · exact h1 m
    · exact ha m
    · exact h2 m
theorem Y9i {l:List Str} (h:∀ z ∈ l,z ∈ Y6n++(["marks", "shown", "asked", " "]:List Str)):Flat (Str.join " " l) :=
  ⟨X3z (Z9r " " (by simp)).1 fun z hz=>(Z9r z (h z hz)).1,Y2w (Z9r " " (by simp)).2 fun z hz=>(Z9r z (h z hz)).2⟩
section
variable {m0:Str} {ms sh as sp ap:List Str} {rows:List Z7g} {T:Sto}
theorem X40 (h:ToolOk m0 ms sh as rows) (hp:sp.Perm sh) (hq:ap.Perm as):∀ z ∈ Z45 m0 ms sp ap rows,Flat z:=by
  have nm:∀ z ∈ Z9x,z ∈ Y6n++(["marks", "shown", "asked", " "]:List Str):=fun z hz=>by unfold Y6n; simp [hz]
  have hd:∀ z ∈ (["marks", "shown", "asked"]:List Str),z ∈ Y6n++(["marks", "shown", "asked", " "]:List Str):=fun z hz=>by
    rw [List.mem_append]
    right
    simp only [List.mem_cons,List.not_mem_nil,or_false] at hz ⊢
    rcases hz with e | e | e
    · exact .inl e
    · exact .inr (.inl e)
    · exact .inr (.inr (.inl e))
  have ln:∀ (w:Str) (l:List Str),w ∈ (["marks", "shown", "asked"]:List Str)→(∀ z ∈ l,z ∈ Z9x)→Flat (Str.join " " (w :: l)):=fun w l hw hl=>Y9i fun z hz=>(List.mem_cons.mp hz).elim (fun e=>e ▸ hd w hw) fun m=>nm z (hl z m)
  intro z hz
  unfold Z45 at hz
  rcases List.mem_cons.mp hz with rfl | hz
  · exact ln _ _ (by simp) h.names
  rcases List.mem_cons.mp hz with rfl | hz
  · exact ln _ _ (by simp) fun y hy=>h.names y (List.mem_cons_of_mem _ (h.sh.subset (hp.mem_iff.mp hy)))
  rcases List.mem_cons.mp hz with rfl | hz
  · exact ln _ _ (by simp) fun y hy=>h.names y (h.as.subset (hq.mem_iff.mp hy))
  · obtain ⟨r,hr,rfl⟩:=List.mem_map.mp hz
    exact Y9i fun z hz=>List.mem_append_left _ (Y5u ((h.rows r hr).ok h.names) z hz)
theorem X2o (h:ToolOk m0 ms sh as rows) (hp:sp.Perm sh) (hq:ap.Perm as):(!(("\n" : Str).length == 0) && decide ((zT m0 ms sp ap rows).length + 2 ≤ sizeLine) && Y1o (Txt.split (zT m0 ms sp ap rows) "\n"))=true∧Txt.split (zT m0 ms sp ap rows) "\n" = Z45 m0 ms sp ap rows:=by
  have hf:=X40 h hp hq
  obtain ⟨l1,l2⟩:=Y9n h hp hq
  have hj:zT m0 ms sp ap rows=Txt.join "\n" (Z45 m0 ms sp ap rows):=(StrLaws.glued_eq_join ..).symm
  have hs:Txt.split (zT m0 ms sp ap rows) "\n" = Z45 m0 ms sp ap rows:=by
    rw [hj]
    exact TL.split_join (s:=10) (S:=[]) (by decide +kernel) (by decide +kernel) (by unfold Z45; simp) fun p hp=>(hf p hp).1
  have hn:(zT m0 ms sp ap rows).length ≤ 1000:=by
    have:=Y2c (a := "\n") (k:=40) l1
    rw [Z7m.2.2.2.1] at this
    unfold zT
    omega
  have b1:(("\n" : Str).length == 0)=false:=by decide +kernel
  have b2:decide ((zT m0 ms sp ap rows).length + 2 ≤ sizeLine)=true:=decide_eq_true (by rw [sizeLine_eq]; omega)
  have b3:Y1o (Z45 m0 ms sp ap rows)=true:=List.all_eq_true.mpr fun z hz=>(hf z hz).2
  exact ⟨by rw [hs,b1,b2,b3]; rfl,hs⟩
theorem W6a (h:ToolOk m0 ms sh as rows) (hp:sp.Perm sh) (hq:ap.Perm as):Z4j (zT m0 ms sp ap rows) (.d (.str "\n")) T = .ok (.d (.lst ((Z45 m0 ms sp ap rows).map D.str))) T:=by
  obtain ⟨a,b⟩:=X2o h hp hq
  unfold Z4j
  show (if !(("\n" : Str).length == 0) && decide ((zT m0 ms sp ap rows).length + 2 ≤ sizeLine) && Y1o (Txt.split (zT m0 ms sp ap rows) "\n") then R.ok (X.d (.lst ((Txt.split (zT m0 ms sp ap rows) "\n").map .str))) T else .bad)=_
  rw [if_pos a,b]
end
theorem Y1g {t:Tg} {body:MS} {x:X} {xs:List X} {e e1 e2:Ev} {S S2:Sto} (h1:t.asg S x e=some e1) (h2:body e1 S = .go (.nx e2) S2):Z8r t .free body (x :: xs) e S=Z8r t .free body xs e2 S2:=by simp [Z8r,Lk.ok,h1,h2]
theorem X3h {t:Tg} {body:MS} {e:Ev} {S:Sto}:Z8r t .free body [] e S = .go (.nx e) S:=by simp [Z8r,Lk.ok]
end Lw
namespace Lw
open PySem PySem.Spec L2 Bv
open PyProof.Rows hiding St
variable [HasW]
def hdB:MS:=(Y2 (Z0k (Z0d (Y5 geD (Z3 4) (Y0 Z3i (Z0 (Z3 2) (Z7))))) (Z44) (W7)) (Y2 (V6 8 (Y0 (Y9 2 (X5 [] (callP g_names_in))) (Z0 (Z1m (Z3 2) (Z3 4)) (Z0 (Z3 5) (Z7))))) (Y2 (Z0k (Z0d (Y5 isD (Z3 8) (m_c .non))) (Z44) (W7)) (U1 (Z3b Q5 Q0 (Z3 3) (Z0 (Z3 8) (Z7)))))))
def rwB:MS:=(X9j (U1 (Z3b Q5 Q0 (Z3 6) (Z0 (Z9c "Row" (Y9 2 (X5 [] (callP Z4l))) (m_c (.gl "Row")) (Z0 (Z3 7) (Z7))) (Z7)))))
def hdI:MIt:=(Z8o (Z0 (m_c (.tup ((["marks", "shown", "asked"]:List Str).map D.str))) (Z7)))
def rwI:MIt:=(Z8o (Z0 (V8 (Z3 2) (Q4 (Y0 Z3i (Z0 (m_c (.tup ((["marks", "shown", "asked"]:List Str).map D.str))) (Z7)))) (Z5n)) (Z7)))
def evR (zt:Str) (lines:List Str) (o4 o5 o6 o7 o8:Option X):Ev:=[some (.d (.gl "Tool")),some (.d (.str zt)),some (.d (tls lines)),some (.r 0),o4,o5,o6,o7,o8,none]
section
variable {zt:Str} {lines:List Str} {o4 o5 o6 o7 o8:Option X} {m0:Str} {ms sh as sp ap:List Str} {rows:List Z7g} {T:Sto}
theorem V07 {i:Nat} {z:Str} (h:lines[i]?=some z):ixO T (.d (tls lines)) (i:Int)=some (.d (.str z)):=by
  refine V06 ?_
  rw [List.getElem?_map,h]
  rfl
theorem X1t {i:Nat} {w:Str} {l:List Str} {ts:List X} (hi:lines[i]?=some (Str.join " " (w :: l))) (hw:w ∈ (["marks", "shown", "asked"]:List Str)) (h:∀ z ∈ l,z ∈ Z9x) (hl:l.length ≤ 5) (hm:w = "marks" → l ≠ []) (ht:ts.length < 100) :
    hdB (evR zt lines (some (.d (.int i))) (some (.d (.str w))) o6 o7 o8) [.lst ts] = .go (.nx (evR zt lines (some (.d (.int i))) (some (.d (.str w))) o6 o7 (some (.d (tls l))))) [.lst (ts++[.d (tls l)])]:=by
  have lt:i < lines.length:=(List.getElem?_eq_some_iff.mp hi).1
  have ix:=V07 (T:=[.lst ts]) hi
  have nm:=X12 hw h hl hm
  have ln:=W45 (ml:=lines) (T:=[.lst ts])
  have g:¬ ((lines.length:Int) ≤ (i:Int)):=by omega
  have isN:isD (tls l) .non=some (.bl false):=rfl
  have z:ts.length < sizeLine:=by rw [sizeLine_eq]; omega
  unfold hdB evR
  simp [ev0,Y2,Z0k,W7,U1,V6,Z2h,X6,Z2p,Z06,Z1d,Z14,Z2j,Z5f,Z0s,Z0d,Y5,Z1m,Z3,m_c,Y0,Z0,Z7,Z0a,V4,Q7,Q8,X4,Z3b,V8,Q4,Z5n,Z56,Q3,Z0i,W8,Z1y,Z5k,Z3h,Y0v,Y6,Z0r,R.bind,R.so,RO.then,items,ixD,Z8c,Z5r,op2,Y4,tb,Z4f,Z4d,Z4e,Z3j,slX,Z0e,Z11,Y9,X5,Z8m,Z9q,Z3l,Y1y,Z8a,Z6l,Z7h,Z7n,Y1w,Z31,ints?,Y0i,Y2l,Y2j,ds?,gets,callP,X.isD,D.noL,D.noLs,D.noLf,Q5,Z25,Z30,Z5g,Y1i,Y1v,Y1x,Y2d,ix,nm,ln,g,isN,Q0,z]
theorem W55 {j:X} {r:Z7g} {t1 ts:List X} (h:Y7o r.1 r.2.1 r.2.2.1 r.2.2.2) (ht:ts.length < 100) :
    rwB (evR zt lines (some j) o5 (some (.r 1)) (some (.d (.str (zQ r)))) o8) [.lst t1, .lst ts] = .go (.nx (evR zt lines (some j) o5 (some (.r 1)) (some (.d (.str (zQ r)))) o8)) [.lst t1, .lst (ts++[.d (Z52 r)])]:=by
  have rr:Z4l [.gl "Row", .str (zQ r)] = .ok (Z52 r):=W1x h
  have z:ts.length < sizeLine:=by rw [sizeLine_eq]; omega
  unfold rwB evR
  simp [ev0,Y2,Z0k,W7,U1,V6,Z2h,X6,Z2p,Z06,Z1d,Z14,Z2j,Z5f,Z0s,Z0d,Y5,Z1m,Z3,m_c,Y0,Z0,Z7,Z0a,V4,Q7,Q8,X4,Z3b,V8,Q4,Z5n,Z56,Q3,Z0i,W8,Z1y,Z5k,Z3h,Y0v,Y6,Z0r,R.bind,R.so,RO.then,items,ixO,ixD,Z8c,Z5r,op2,Y4,tb,Z4f,Z4d,Z4e,Z3j,slX,Z0e,Z11,Y9,X5,Z8m,Z9q,Z3l,Y1y,Z8a,Z6l,Z7h,Z3i,Z7n,Y1w,Z31,ints?,Y0i,Y2l,Y2j,ds?,gets,callP,X.isD,D.noL,D.noLs,D.noLf,Q5,Z25,Z30,Z5g,Y1i,Y1v,Y1x,Y2d,X9j,Z9c,rr,Q0,z]
theorem W8r {ds:List D} {i:Nat} {x:X} (h:(numbered ds)[i]?=some x):∃ d,ds[i]?=some d∧x = .d (.tup [.int (i:Nat),d]):=by
  have lt:=(List.getElem?_eq_some_iff.mp h).1
  rw [Z6w] at lt
  have e:ds[i]?=some ds[i]:=List.getElem?_eq_getElem lt
  refine ⟨_,e,?_⟩
  have:=Y0y e
  rw [h] at this
  exact Option.some.inj this
theorem X8k {t1:List X} (h:∀ r ∈ rows,Y7o r.1 r.2.1 r.2.2.1 r.2.2.2) (hl:rows.length < 100) :
    ∃ o4' o7',Z8r (.tp [(.nm 4),(.nm 7)]) .free rwB (numbered ((rows.map zQ).map D.str)) (evR zt lines o4 o5 (some (.r 1)) o7 o8) [.lst t1, .lst []] = .go (.nx (evR zt lines o4' o5 (some (.r 1)) o7' o8)) [.lst t1, .lst ((rows.map Z52).map X.d)]:=by
  obtain ⟨e2,S2,q,p4,p7,he,hS⟩:=X3i (t := .tp [(.nm 4),(.nm 7)]) (body:=rwB) (fun k e S=>∃ p4 p7,e=evR zt lines p4 o5 (some (.r 1)) p7 o8∧S=[.lst t1, .lst (((rows.take k).map Z52).map X.d)]) (xs:=numbered ((rows.map zQ).map D.str)) (k:=0) (e:=evR zt lines o4 o5 (some (.r 1)) o7 o8) (S:=[.lst t1, .lst []]) ⟨_,_,rfl,rfl⟩ fun i x hx e S ⟨p4,p7,he,hS⟩=>by
    obtain ⟨d,hd,rfl⟩:=W8r hx
    rw [List.getElem?_map,List.getElem?_map] at hd
    obtain ⟨z,hz,rfl⟩:=Option.map_eq_some_iff.mp hd
    obtain ⟨r,hr,rfl⟩:=Option.map_eq_some_iff.mp hz
    have st:=W55 (zt:=zt) (lines:=lines) (o5:=o5) (o8:=o8) (j := .d (.int (i:Nat))) (r:=r) (t1:=t1) (ts:=((rows.take i).map Z52).map X.d) (h r (List.mem_of_getElem? hr)) (by simp; omega)
    have e3:((rows.take i).map Z52).map X.d++[.d (Z52 r)]=((rows.take (i + 1)).map Z52).map X.d:=by
      rw [List.take_add_one,hr]
      simp
    rw [e3] at st
    refine ⟨evR zt lines (some (.d (.int (i:Nat)))) o5 (some (.r 1)) (some (.d (.str (zQ r)))) o8,evR zt lines (some (.d (.int (i:Nat)))) o5 (some (.r 1)) (some (.d (.str (zQ r)))) o8,[.lst t1, .lst (((rows.take (i + 1)).map Z52).map X.d)],?_,?_,?_⟩
    · rw [he]; rfl
    · rw [hS,Nat.zero_add]; exact st
    · exact ⟨_,_,rfl,by rw [Nat.zero_add]⟩
  refine ⟨p4,p7,?_⟩
  rw [q,he,hS,Z6w,List.length_map,List.length_map,Nat.zero_add,List.take_length]
theorem X4v {α:Type} (a b c:α) (xs:List α):Z6f (a :: b :: c :: xs) (some 3) none=xs:=by
  unfold Z6f
  simp [HT.sIx]
theorem X8i (h:ToolOk m0 ms sh as rows) (hp:sp.Perm sh) (hq:ap.Perm as):Z6i [.gl "Tool", .str (zT m0 ms sp ap rows)] = .ok (Y94 m0 ms sh as rows):=by
  have hsz:∀ n:Nat,n < 1000→n ≤ sizeLine:=fun n h=>by rw [sizeLine_eq]; omega
  have lm:=h.few
  have lr:=h.len
  have ls:sh.length ≤ ms.length:=h.sh.length_le
  have la:as.length ≤ ms.length + 1:=h.as.length_le
  have lp:=hp.length_eq
  have lq:=hq.length_eq
  have spl:=W6a (T:=[]) h hp hq
  let zt:=zT m0 ms sp ap rows
  let lines:=Z45 m0 ms sp ap rows
  have p0:r_0 (ev0 10 ([.gl "Tool", .str (zT m0 ms sp ap rows)].map X.d)) [] = .go (.nx (evR zt lines none none none none none)) [.lst []]:=by
    unfold r_0
    simp [ev0,Y2,Z0k,W7,U1,V6,Z2h,X6,Z2p,Z06,Z1d,Z14,Z2j,Z5f,Z0s,Z0d,Y5,Z1m,Z3,m_c,Y0,Z0,Z7,Z0a,V4,Q7,Q8,X4,Z3b,V8,Q4,Z5n,Z56,Q3,Z0i,W8,Z1y,Z5k,Z3h,Y0v,Y6,Z0r,R.bind,R.so,RO.then,items,ixO,ixD,Z8c,Z5r,op2,Y4,tb,Z4f,Z4d,Z4e,Z3j,slX,Z0e,Z11,Y9,X5,Z8m,Z9q,Z3l,Y1y,Z8a,Z6l,Z7h,Z3i,Z7n,Y1w,Z31,ints?,Y0i,Y2l,Y2j,ds?,gets,callP,X.isD,D.noL,D.noLs,D.noLf,Q5,Z25,Z30,Z5g,Y1i,Y1v,Y1x,Y2d,Z9y,spl]
    rfl
  have hi:hdI (evR zt lines none none none none none) [.lst []] = .ok ([.d (.tup [.int (0:Nat), .str "marks"]), .d (.tup [.int (1:Nat), .str "shown"]), .d (.tup [.int (2:Nat), .str "asked"])], .free) [.lst []]:=rfl
  have s1:=X1t (zt:=zt) (lines:=lines) (o6:=none) (o7:=none) (o8:=none) (i:=0) (w := "marks") (l:=m0 :: ms) (ts:=[]) rfl (by simp) h.names (by simp; omega) (by simp) (by simp)
  have s2:=X1t (zt:=zt) (lines:=lines) (o6:=none) (o7:=none) (o8:=some (.d (tls (m0 :: ms)))) (i:=1) (w := "shown") (l:=sp) (ts:=[.d (tls (m0 :: ms))]) rfl (by simp) (fun y hy=>h.names y (List.mem_cons_of_mem _ (h.sh.subset (hp.mem_iff.mp hy)))) (by omega) (fun e=>absurd e (by decide +kernel)) (by simp)
  have s3:=X1t (zt:=zt) (lines:=lines) (o6:=none) (o7:=none) (o8:=some (.d (tls sp))) (i:=2) (w := "asked") (l:=ap) (ts:=[.d (tls (m0 :: ms)), .d (tls sp)]) rfl (by simp) (fun y hy=>h.names y (h.as.subset (hq.mem_iff.mp hy))) (by omega) (fun e=>absurd e (by decide +kernel)) (by simp)
  let ts:List X:=[.d (tls (m0 :: ms)), .d (tls sp), .d (tls ap)]
  let e3:Ev:=evR zt lines (some (.d (.int (2:Nat)))) (some (.d (.str "asked"))) none none (some (.d (tls ap)))
  have p1:r_1 (evR zt lines none none none none none) [.lst []] = .go (.nx e3) [.lst ts]:=by
    have a:=Y8s (t := .tp [(.nm 4),(.nm 5)]) (body:=hdB) hi
    have b1:=Y1g (t := .tp [(.nm 4),(.nm 5)]) (x := .d (.tup [.int (0:Nat), .str "marks"])) (xs:=[.d (.tup [.int (1:Nat), .str "shown"]), .d (.tup [.int (2:Nat), .str "asked"])]) (e:=evR zt lines none none none none none) rfl s1
    have b2:=Y1g (t := .tp [(.nm 4),(.nm 5)]) (x := .d (.tup [.int (1:Nat), .str "shown"])) (xs:=[.d (.tup [.int (2:Nat), .str "asked"])]) (e:=evR zt lines (some (.d (.int (0:Nat)))) (some (.d (.str "marks"))) none none (some (.d (tls (m0 :: ms))))) rfl s2
    have b3:=Y1g (t := .tp [(.nm 4),(.nm 5)]) (x := .d (.tup [.int (2:Nat), .str "asked"])) (xs:=[]) (e:=evR zt lines (some (.d (.int (1:Nat)))) (some (.d (.str "shown"))) none none (some (.d (tls sp)))) rfl s3
    exact a.trans (b1.trans (b2.trans (b3.trans X3h)))
  let e4:Ev:=evR zt lines (some (.d (.int (2:Nat)))) (some (.d (.str "asked"))) (some (.r 1)) none (some (.d (tls ap)))
  have p2:r_2 e3 [.lst ts] = .go (.nx e4) [.lst ts, .lst []]:=by
    unfold r_2
    simp [ev0,Y2,Z0k,W7,U1,V6,Z2h,X6,Z2p,Z06,Z1d,Z14,Z2j,Z5f,Z0s,Z0d,Y5,Z1m,Z3,m_c,Y0,Z0,Z7,Z0a,V4,Q7,Q8,X4,Z3b,V8,Q4,Z5n,Z56,Q3,Z0i,W8,Z1y,Z5k,Z3h,Y0v,Y6,Z0r,R.bind,R.so,RO.then,items,ixO,ixD,Z8c,Z5r,op2,Y4,tb,Z4f,Z4d,Z4e,Z3j,slX,Z0e,Z11,Y9,X5,Z8m,Z9q,Z3l,Y1y,Z8a,Z6l,Z7h,Z3i,Z7n,Y1w,Z31,ints?,Y0i,Y2l,Y2j,ds?,gets,callP,X.isD,D.noL,D.noLs,D.noLf,Q5,Z25,Z30,Z5g,Y1i,Y1v,Y1x,Y2d]
    rfl
  have hi3:rwI e4 [.lst ts, .lst []] = .ok (numbered ((rows.map zQ).map D.str), .free) [.lst ts, .lst []]:=by
    have sl:slX [.lst ts, .lst []] (.d (tls lines)) (some 3) none=some (.d (.lst ((rows.map zQ).map D.str))):=by
      show some (X.d (.lst (Z6f (lines.map D.str) (some 3) none)))=_
      show some (X.d (.lst (Z6f (D.str (Str.join " " ("marks" :: m0 :: ms)) :: D.str (Str.join " " ("shown" :: sp)) :: D.str (Str.join " " ("asked" :: ap)) :: (rows.map zQ).map D.str) (some 3) none)))=_
      rw [X4v]
    have ln:Z3i [.d (.tup ((["marks", "shown", "asked"]:List Str).map D.str))] [.lst ts, .lst []] = .ok (.d (.int 3)) [.lst ts, .lst []]:=rfl
    have x2:e4[2]?=some (some (.d (tls lines))):=rfl
    unfold rwI Z8o
    simp only [Z0,Z7,V8,Z3,Q4,Z5n,Y0,m_c,R.bind,x2,ln,Z5r,Z8c,sl,W4g,Option.map_some]
    rfl
  obtain ⟨o4',o7',lp3⟩:=X8k (zt:=zt) (lines:=lines) (o4:=some (.d (.int (2:Nat)))) (o5:=some (.d (.str "asked"))) (o7:=none) (o8:=some (.d (tls ap))) (t1:=ts) (rows:=rows) (fun r hr=>(h.rows r hr).ok h.names) (by omega)
  have p3:r_3 e4 [.lst ts, .lst []] = .go (.nx (evR zt lines o4' (some (.d (.str "asked"))) (some (.r 1)) o7' (some (.d (tls ap))))) [.lst ts, .lst ((rows.map Z52).map X.d)]:=(Y8s (t := .tp [(.nm 4),(.nm 7)]) (body:=rwB) hi3).trans lp3
  let S4:Sto:=[.lst ts, .lst ((rows.map Z52).map X.d)]
  have hS:OkS S4:=by
    have a:okO 2 (.lst ts)=true:=rfl
    have b:okO 2 (.lst ((rows.map Z52).map X.d))=true:=W1i _
    show (okO 2 (.lst ts) && (okO 2 (.lst ((rows.map Z52).map X.d)) && true))=true
    rw [a,b]
    rfl
  have ti:=X9a (S:=S4) (sp:=sp) (ap:=ap) (x4 := .r 1) hS h hp hq ⟨_,_,V14 rfl⟩
  have p4:r_4 (evR zt lines o4' (some (.d (.str "asked"))) (some (.r 1)) o7' (some (.d (tls ap)))) S4 = .go (.rp (Y94 m0 ms sh as rows)) S4:=by
    have i0:ixO S4 (.r 0) 0=some (.d (tls (m0 :: ms))):=rfl
    have i1:ixO S4 (.r 0) 1=some (.d (tls sp)):=rfl
    have i2:ixO S4 (.r 0) 2=some (.d (tls ap)):=rfl
    unfold r_4 evR
    simp [ev0,Y2,Z0k,W7,U1,V6,Z2h,X6,Z2p,Z06,Z1d,Z14,Z2j,Z5f,Z0s,Z0d,Y5,Z1m,Z3,m_c,Y0,Z0,Z7,Z0a,V4,Q7,Q8,X4,Z3b,V8,Q4,Z5n,Z56,Q3,Z0i,W8,Z1y,Z5k,Z3h,Y0v,Y6,Z0r,R.bind,R.so,RO.then,items,ixD,Z8c,Z5r,op2,Y4,tb,Z4f,Z4d,Z4e,Z3j,slX,Z0e,Z11,Y9,X5,Z8m,Z9q,Z3l,Y1y,Z8a,Z6l,Z7h,Z3i,Z7n,Y1w,Z31,ints?,Y0i,Y2l,Y2j,ds?,gets,callP,X.isD,D.noL,D.noLs,D.noLf,Q5,Z25,Z30,Z5g,Y1i,Y1v,Y1x,Y2d,Z9b,i0,i1,i2,ti]
  unfold Z6i Z50
  rw [V1t]
  have:=(Z9w p0).trans ((Z9w p1).trans ((Z9w p2).trans ((Z9w p3).trans p4)))
  rw [this]
  rfl
end
end Lw
namespace Lw
open PySem
def Y82 (w m:Str) (r:Z7g):Bool:=decide (r.1=w) && (decide (r.2.1 = "any") || decide (r.2.1=m))
def doQ (m0 w m:Str):Option Z7g→Str × Bool
  | none=>(if w = "carry" then m0 else m,false)
  | some r=>if m=m0∧r.2.2.2=false then (m,false) else
    (if r.2.2.1 = "same" then m else r.2.2.1,decide (w = "give") && (r.2.2.2 && decide ((if r.2.2.1 = "same" then m else r.2.2.1) ≠ m0)))
def W60 (m0 w m:Str) (rows:List Z7g):Str × Bool:=if m=m0∧w ≠ "give" then doQ m0 w m none else doQ m0 w m (rows.find? (Y82 w m))
def W6:List Str:=["give", "carry", "drop", "back", "right", "wrong"]
end Lw
namespace Lw
open PySem PySem.Spec L2 Bv
open PyProof.Rows hiding St
variable [HasW]
def W1e:Nat→List Z7g→List X
  | _,[]=>[]
  | k,r :: l => .d (.tup [.int k,Z52 r]) :: W1e (k + 1) l
theorem Y62:∀ {rows:List Z7g} {k:Nat},(List.range' k rows.length).zipWith (fun (i:Nat) d=>X.d (.tup [.int (i:Nat),d])) (rows.map Z52)=W1e k rows
  | [],k=>by simp [W1e]
  | r :: l,k=>by
    have ih:=Y62 (rows:=l) (k:=k + 1)
    rw [List.length_cons,List.range'_succ,List.map_cons,List.zipWith_cons_cons,ih]
    rfl
theorem X18 {rows:List Z7g}:Bv.numbered (rows.map Z52)=W1e 0 rows:=by
  unfold Bv.numbered
  rw [List.length_map,List.range_eq_range']
  exact Y62
section
variable {m0 w m:Str} {ms sh as:List Str} {rows:List Z7g} {T:Sto}
theorem W4k {r:Z7g}:Z5b [Z52 r, .str w, .str m] = .ok (.bl (Y82 w m r)):=by
  have c1:=X1f (T:=[]) (r:=r)
  have c2:=X52 (T:=[]) (r:=r)
  have b1:inD (.str r.2.1) (.tup [.str "any", .str m])=some (.bl (decide (r.2.1 = "any") || decide (r.2.1=m))):=by
    rw [show ([D.str "any",D.str m]:List D)=([("any" : Str),m]:List Str).map D.str from rfl,Z8p]
    congr 2
    rw [Bool.eq_iff_iff]
    simp
  have z2:2 ≤ sizeLine:=by rw [sizeLine_eq]; decide
  unfold Z5b Z50 Y14
  by_cases h:r.1=w
  · have f:Y82 w m r=(decide (r.2.1 = "any") || decide (r.2.1=m)):=by unfold Y82; rw [decide_eq_true h,Bool.true_and]
    rw [f]
    simp [ev0,Y2,Z0k,W7,U1,V6,Z2h,X6,Z2p,Z06,Z1d,Z14,Z2j,Z5f,Z0s,Z0d,Y5,Z1m,Z3,m_c,Y0,Z0,Z7,Z0a,V4,Q7,Q8,X4,Z3b,V8,Q4,Z5n,Z56,Q3,Z0i,W8,Z1y,Z5k,Z3h,Y0v,Y6,Z0r,R.bind,R.so,RO.then,items,ixO,ixD,Z8c,Z5r,op2,Y4,tb,Z4f,Z4d,Z4e,slX,Z0e,Z11,Y9,X5,Z8m,Z9q,Z3l,Y1y,Z8a,Z6l,Z7h,Z3i,Z7n,Y1w,Z31,ints?,Y0i,Y2l,Y2j,ds?,gets,callP,X.isD,D.noL,D.noLs,D.noLf,Q5,Z25,Z30,Z5g,Y1i,Y1v,Y1x,Y2d,c1,c2,b1,Z28,h,z2]
  · have f:Y82 w m r=false:=by unfold Y82; rw [decide_eq_false h,Bool.false_and]
    rw [f]
    simp [ev0,Y2,Z0k,W7,U1,V6,Z2h,X6,Z2p,Z06,Z1d,Z14,Z2j,Z5f,Z0s,Z0d,Y5,Z1m,Z3,m_c,Y0,Z0,Z7,Z0a,V4,Q7,Q8,X4,Z3b,V8,Q4,Z5n,Z56,Q3,Z0i,W8,Z1y,Z5k,Z3h,Y0v,Y6,Z0r,R.bind,R.so,RO.then,items,ixO,ixD,Z8c,Z5r,op2,Y4,tb,Z4f,Z4d,Z4e,slX,Z0e,Z11,Y9,X5,Z8m,Z9q,Z3l,Y1y,Z8a,Z6l,Z7h,Z3i,Z7n,Y1w,Z31,ints?,Y0i,Y2l,Y2j,ds?,gets,callP,X.isD,D.noL,D.noLs,D.noLf,Q5,Z25,Z30,Z5g,Y1i,Y1v,Y1x,Y2d,c1,c2,b1,Z28,h]
theorem X3g {p:Z7g→Bool}:∀ {rows:List Z7g},(rows.findIdx? p=none∧rows.find? p=none) ∨ ∃ i r,rows.findIdx? p=some i∧rows[i]?=some r∧rows.find? p=some r
  | [] => .inl ⟨rfl,rfl⟩
  | r :: l=>by
    cases h:p r with
    | true=>exact .inr ⟨0,r,by simp [List.findIdx?_cons,h],rfl,by simp [List.find?_cons,h]⟩
    | false =>
      rcases X3g (p:=p) (rows:=l) with ⟨h1,h2⟩ | ⟨i,x,h1,h2,h3⟩
      · exact .inl ⟨by simp [List.findIdx?_cons,h,h1],by simp [List.find?_cons,h,h2]⟩
      · exact .inr ⟨i + 1,x,by simp [List.findIdx?_cons,h,h1],by simpa using h2,by simp [List.find?_cons,h,h3]⟩
def W4n:MS:=(Z0k (Y6 (Z1n "Row" "fits" (Y9 3 (X5 [] (callP Z5b))) (Z3 4) (Z0 (Z3 1) (Z0 (Z3 2) (Z7))))) (X6 (Z3 3)) (W7))
theorem X99 {o:D} {k:Nat} {r:Z7g}:W4n [some (.d o),some (.d (.str w)),some (.d (.str m)),some (.d (.int k)),some (.d (Z52 r))] T=if Y82 w m r then .go (.rp (.int k)) T else .go (.nx [some (.d o),some (.d (.str w)),some (.d (.str m)),some (.d (.int k)),some (.d (Z52 r))]) T:=by
  have f:=W4k (w:=w) (m:=m) (r:=r)
  have me:Z1n "Row" "fits" (Y9 3 (X5 [] (callP Z5b))) (Z3 4) (Z0 (Z3 1) (Z0 (Z3 2) (Z7))) [some (.d o),some (.d (.str w)),some (.d (.str m)),some (.d (.int k)),some (.d (Z52 r))] T = .ok (.d (.bl (Y82 w m r))) T:=by
    have io:isOf "Row" "fits" T (.d (Z52 r))=true:=by rfl
    simp [ev0,Y2,Z0k,W7,U1,V6,Z2h,X6,Z2p,Z06,Z1d,Z14,Z2j,Z5f,Z0s,Z0d,Y5,Z1m,Z3,m_c,Y0,Z0,Z7,Z0a,V4,Q7,Q8,X4,Z3b,V8,Q4,Z5n,Z56,Q3,Z0i,W8,Z1y,Z5k,Z3h,Y0v,Y6,Z0r,R.bind,R.so,RO.then,items,ixO,ixD,Z8c,Z5r,op2,Y4,tb,Z4f,Z4d,Z4e,Z3j,slX,Z0e,Z11,Y9,X5,Z8m,Z9q,Z3l,Y1y,Z8a,Z6l,Z7h,Z3i,Z7n,Y1w,Z31,ints?,Y0i,Y2l,Y2j,ds?,gets,callP,X.isD,D.noL,D.noLs,D.noLf,Q5,Z25,Z30,Z5g,Y1i,Y1v,Y1x,Y2d,Z1n,io,f]
  unfold W4n
  cases h:Y82 w m r with
  | true=>simp [Z0k,Y6,me,h,R.bind,R.so,Z0e,Z11,X6,Z3,X.get]
  | false=>simp [Z0k,Y6,me,h,R.bind,R.so,Z0e,Z11,W7,X.get]
theorem X3j {o:D}:∀ {rows:List Z7g} {k:Nat} {o3 o4:Option X},(rows.findIdx? (Y82 w m)=none→∃ e,Z8r (.tp [(.nm 3),(.nm 4)]) .free W4n (W1e k rows) [some (.d o),some (.d (.str w)),some (.d (.str m)),o3,o4] T = .go (.nx e) T) ∧
    ∀ i,rows.findIdx? (Y82 w m)=some i→Z8r (.tp [(.nm 3),(.nm 4)]) .free W4n (W1e k rows) [some (.d o),some (.d (.str w)),some (.d (.str m)),o3,o4] T = .go (.rp (.int ((k + i:Nat)))) T
  | [],k,o3,o4=>⟨fun _=>⟨_,X3h⟩,fun i h=>by cases h⟩
  | r :: l,k,o3,o4=>by
    have st:=X99 (w:=w) (m:=m) (T:=T) (o:=o) (k:=k) (r:=r)
    have asg:Tg.asg T (.tp [(.nm 3),(.nm 4)]) (.d (.tup [.int k,Z52 r])) [some (.d o),some (.d (.str w)),some (.d (.str m)),o3,o4]=some [some (.d o),some (.d (.str w)),some (.d (.str m)),some (.d (.int k)),some (.d (Z52 r))]:=rfl
    cases h:Y82 w m r with
    | true =>
      rw [h,if_pos rfl] at st
      refine ⟨fun z=>by simp [List.findIdx?_cons,h] at z,fun i z=>?_⟩
      have:i=0:=by simpa [List.findIdx?_cons,h] using z.symm
      subst this
      show Z8r _ .free W4n (.d (.tup [.int k,Z52 r]) :: W1e (k + 1) l) _ T=_
      simp [Z8r,Lk.ok,asg,st]
    | false =>
      rw [h,if_neg (by simp)] at st
      have nx:=Y1g (t := .tp [(.nm 3),(.nm 4)]) (xs:=W1e (k + 1) l) asg st
      obtain ⟨a,c⟩:=X3j (rows:=l) (k:=k + 1) (o3:=some (.d (.int k))) (o4:=some (.d (Z52 r)))
      refine ⟨fun z=>?_,fun i z=>?_⟩
      · obtain ⟨e,q⟩:=a (by simpa [List.findIdx?_cons,h] using z)
        exact ⟨e,nx.trans q⟩
      · rw [List.findIdx?_cons,h] at z
        simp only [Bool.false_eq_true,if_false] at z
        obtain ⟨j,hj,rfl⟩:=Option.map_eq_some_iff.mp z
        have:=nx.trans (c j hj)
        rw [show k + 1 + j=k + (j + 1) by omega] at this
        exact this
end
end Lw
namespace Lw
open PySem PySem.Spec L2 Bv
open PyProof.Rows hiding St
variable [HasW]
theorem W35 {m:M} {ms:MG (List X)} {e:Ev} {S S1 S2:Sto} {x:X} {xs:List X} (h1:m e S = .ok x S1) (h2:ms e S1 = .ok xs S2):Z0 m ms e S = .ok (x :: xs) S2:=by
  unfold Z0
  rw [h1]
  show (ms e S1).bind _=_
  rw [h2]
  rfl
section
variable {m0 w m:Str} {ms sh as:List Str} {rows:List Z7g} {T:Sto}
theorem X2y:Z3j ["Tool"] "blank" T (.d (Y94 m0 ms sh as rows))=some (.d (.str m0)):=by rfl
theorem Y7a:U9 [Y94 m0 ms sh as rows, .str w, .str m] = .ok (if m=m0∧w ≠ "give" then .non else match rows.findIdx? (Y82 w m) with
    | none => .non
    | some i => .int i):=by
  let e0:Ev:=[some (.d (Y94 m0 ms sh as rows)),some (.d (.str w)),some (.d (.str m)),none,none]
  have hi:Z8o (Z0 (X4 ["Tool"] "rows" (Z3 0)) (Z7)) e0 [] = .ok (W1e 0 rows, .free) []:=by
    have a:X4 ["Tool"] "rows" (Z3 0) e0 [] = .ok (.d (.tup (rows.map Z52))) []:=by
      show Z5r (Z3j ["Tool"] "rows" [] (.d (Y94 m0 ms sh as rows))) []=_
      rw [X53]
      rfl
    have c:=W35 a (show Z7 e0 [] = .ok [] [] from rfl)
    unfold Z8o
    rw [c]
    show Z5r (some (Bv.numbered (rows.map Z52),Lk.free)) []=_
    rw [X18]
    rfl
  obtain ⟨l1,l2⟩:=X3j (w:=w) (m:=m) (T:=[]) (o:=Y94 m0 ms sh as rows) (rows:=rows) (k:=0) (o3:=none) (o4:=none)
  have lp:=Y8s (t := .tp [(.nm 3),(.nm 4)]) (body:=W4n) hi
  have bl:=X2y (T:=[]) (m0:=m0) (ms:=ms) (sh:=sh) (as:=as) (rows:=rows)
  have p0:(Z0k (Q3 (Z0d (Y5 eqD (Z3 2) (X4 ["Tool"] "blank" (Z3 0)))) (Z0d (Y5 neD (Z3 1) (m_c (.str "give"))))) (X6 (m_c .non)) (W7)) e0 []=if m=m0∧w ≠ "give" then .go (.rp .non) [] else .go (.nx e0) []:=by
    simp only [e0]
    by_cases h1:m=m0 <;> by_cases h2:w = "give"
    · simp [ev0,Y2,Z0k,W7,U1,V6,Z2h,X6,Z2p,Z06,Z1d,Z14,Z2j,Z5f,Z0s,Z0d,Y5,Z1m,Z3,m_c,Y0,Z0,Z7,Z0a,V4,Q7,Q8,X4,Z3b,V8,Q4,Z5n,Z56,Q3,Z0i,W8,Z1y,Z5k,Z3h,Y0v,Y6,Z0r,R.bind,R.so,RO.then,items,ixO,ixD,Z8c,Z5r,op2,Y4,tb,Z4f,Z4d,Z4e,slX,Z0e,Z11,Y9,X5,Z8m,Z9q,Z3l,Y1y,Z8a,Z6l,Z7h,Z3i,Z7n,Y1w,Z31,ints?,Y0i,Y2l,Y2j,ds?,gets,callP,X.isD,D.noL,D.noLs,D.noLf,Q5,Z25,Z30,Z5g,Y1i,Y1v,Y1x,Y2d,bl,Z28,Z7d,h1,h2]
    · simp [ev0,Y2,Z0k,W7,U1,V6,Z2h,X6,Z2p,Z06,Z1d,Z14,Z2j,Z5f,Z0s,Z0d,Y5,Z1m,Z3,m_c,Y0,Z0,Z7,Z0a,V4,Q7,Q8,X4,Z3b,V8,Q4,Z5n,Z56,Q3,Z0i,W8,Z1y,Z5k,Z3h,Y0v,Y6,Z0r,R.bind,R.so,RO.then,items,ixO,ixD,Z8c,Z5r,op2,Y4,tb,Z4f,Z4d,Z4e,slX,Z0e,Z11,Y9,X5,Z8m,Z9q,Z3l,Y1y,Z8a,Z6l,Z7h,Z3i,Z7n,Y1w,Z31,ints?,Y0i,Y2l,Y2j,ds?,gets,callP,X.isD,D.noL,D.noLs,D.noLf,Q5,Z25,Z30,Z5g,Y1i,Y1v,Y1x,Y2d,bl,Z28,Z7d,h1,h2]
    · simp [ev0,Y2,Z0k,W7,U1,V6,Z2h,X6,Z2p,Z06,Z1d,Z14,Z2j,Z5f,Z0s,Z0d,Y5,Z1m,Z3,m_c,Y0,Z0,Z7,Z0a,V4,Q7,Q8,X4,Z3b,V8,Q4,Z5n,Z56,Q3,Z0i,W8,Z1y,Z5k,Z3h,Y0v,Y6,Z0r,R.bind,R.so,RO.then,items,ixO,ixD,Z8c,Z5r,op2,Y4,tb,Z4f,Z4d,Z4e,slX,Z0e,Z11,Y9,X5,Z8m,Z9q,Z3l,Y1y,Z8a,Z6l,Z7h,Z3i,Z7n,Y1w,Z31,ints?,Y0i,Y2l,Y2j,ds?,gets,callP,X.isD,D.noL,D.noLs,D.noLf,Q5,Z25,Z30,Z5g,Y1i,Y1v,Y1x,Y2d,bl,Z28,Z7d,h1,h2]
    · simp [ev0,Y2,Z0k,W7,U1,V6,Z2h,X6,Z2p,Z06,Z1d,Z14,Z2j,Z5f,Z0s,Z0d,Y5,Z1m,Z3,m_c,Y0,Z0,Z7,Z0a,V4,Q7,Q8,X4,Z3b,V8,Q4,Z5n,Z56,Q3,Z0i,W8,Z1y,Z5k,Z3h,Y0v,Y6,Z0r,R.bind,R.so,RO.then,items,ixO,ixD,Z8c,Z5r,op2,Y4,tb,Z4f,Z4d,Z4e,slX,Z0e,Z11,Y9,X5,Z8m,Z9q,Z3l,Y1y,Z8a,Z6l,Z7h,Z3i,Z7n,Y1w,Z31,ints?,Y0i,Y2l,Y2j,ds?,gets,callP,X.isD,D.noL,D.noLs,D.noLf,Q5,Z25,Z30,Z5g,Y1i,Y1v,Y1x,Y2d,bl,Z28,Z7d,h1,h2]
  unfold U9 Z50 Z67
  show Z9q (Y2 _ (Y2 (Z2o (.tp [(.nm 3),(.nm 4)]) (Z8o (Z0 (X4 ["Tool"] "rows" (Z3 0)) (Z7))) W4n) (X6 (m_c .non))) e0 [])=_
  by_cases h:m=m0∧w ≠ "give"
  · rw [if_pos h] at p0 ⊢
    unfold Y2
    rw [p0]
    rfl
  · rw [if_neg h] at p0 ⊢
    rw [Z9w p0]
    cases q:rows.findIdx? (Y82 w m) with
    | none =>
      obtain ⟨e,l1⟩:=l1 q
      rw [Z9w (lp.trans l1)]
      rfl
    | some i =>
      have l2:=lp.trans (l2 i q)
      rw [Nat.zero_add] at l2
      unfold Y2
      rw [l2]
      rfl
end
end Lw
namespace Lw
open PySem PySem.Spec L2 Bv
open PyProof.Rows hiding St
variable [HasW]
def bD (p:Str × Bool):D := .tup [.str p.1, .bl p.2]
section
variable {m0 w m:Str} {ms sh as:List Str} {rows:List Z7g} {T:Sto}
theorem X16 {s:Str} {ss:List Str}:Y90 (.str s) (.tup (ss.map D.str))=some (.bl (!decide (s ∈ ss))):=by
  have h:=Z8p (s:=s) (ss:=ss)
  unfold inD at h
  obtain ⟨b,h1,h2⟩:=Option.map_eq_some_iff.mp h
  cases h2
  unfold Y90
  rw [h1]
  rfl
theorem W3w {r:Z7g}:Z3j ["Row"] "take" T (.d (Z52 r))=some (.d (.bl r.2.2.2)):=by rfl
theorem W4y {i:Nat} {r:Z7g} (h:rows[i]?=some r):ixO T (.d (.tup (rows.map Z52))) (i:Int)=some (.d (Z52 r)):=by
  obtain ⟨lt,e⟩:=List.getElem?_eq_some_iff.mp h
  simp [ixO,ixD,items,atI,ixN,lt,e]
theorem X4o (hm:m ∈ m0 :: ms):U5 [Y94 m0 ms sh as rows, .str w, .str m] = .ok (bD (W60 m0 w m rows)):=by
  have rf:=Y7a (m0:=m0) (w:=w) (m:=m) (ms:=ms) (sh:=sh) (as:=as) (rows:=rows)
  have a1:=X9q (T:=[]) (m0:=m0) (ms:=ms) (sh:=sh) (as:=as) (rows:=rows)
  have a2:=X2y (T:=[]) (m0:=m0) (ms:=ms) (sh:=sh) (as:=as) (rows:=rows)
  have a3:=X53 (T:=[]) (m0:=m0) (ms:=ms) (sh:=sh) (as:=as) (rows:=rows)
  have is1:isX (Z7f "str") [("Row",false),("Tool",false)] [] (.d (.str m))=some true:=by
    show (Z7f "str").lookup "str" = some true
    decide +kernel
  have nn:Y90 (.str m) (.tup ((m0 :: ms).map D.str))=some (.bl false):=by
    rw [X16,decide_eq_true hm]
    rfl
  have io:isOf "Tool" "row_for" [] (.d (Y94 m0 ms sh as rows))=true:=by rfl
  have z2:2 ≤ sizeLine:=by rw [sizeLine_eq]; decide
  have noneCase:U9 [Y94 m0 ms sh as rows, .str w, .str m] = .ok .non→U5 [Y94 m0 ms sh as rows, .str w, .str m] = .ok (bD (doQ m0 w m none)):=fun rf=>by
    have isN:isD .non .non=some (.bl true):=rfl
    unfold U5 Z50 Z5j
    by_cases c:w = "carry"
    · subst c
      simp [-List.map_cons,ev0,Y2,Z0k,W7,U1,V6,Z2h,X6,Z2p,Z06,Z1d,Z14,Z2j,Z5f,Z0s,Z0d,Y5,Z1m,Z3,m_c,Y0,Z0,Z7,Z0a,V4,Q7,Q8,X4,Z3b,V8,Q4,Z5n,Z56,Q3,Z0i,W8,Z1y,Z5k,Z3h,Y0v,Y6,Z0r,R.bind,R.so,RO.then,items,ixO,ixD,Z8c,Z5r,op2,Y4,tb,Z4f,Z4d,Z4e,slX,Z0e,Z11,Y9,X5,Z8m,Z9q,Z3l,Y1y,Z8a,Z6l,Z7h,Z3i,Z7n,Y1w,Z31,ints?,Y0i,Y2l,Y2j,ds?,gets,callP,X.isD,D.noL,D.noLs,D.noLf,Q5,Z25,Z30,Z5g,Y1i,Y1v,Y1x,Y2d,Z57,Z1n,is1,a1,nn,io,rf,isN,a2,Z28,z2,bD,doQ]
    · simp [-List.map_cons,ev0,Y2,Z0k,W7,U1,V6,Z2h,X6,Z2p,Z06,Z1d,Z14,Z2j,Z5f,Z0s,Z0d,Y5,Z1m,Z3,m_c,Y0,Z0,Z7,Z0a,V4,Q7,Q8,X4,Z3b,V8,Q4,Z5n,Z56,Q3,Z0i,W8,Z1y,Z5k,Z3h,Y0v,Y6,Z0r,R.bind,R.so,RO.then,items,ixO,ixD,Z8c,Z5r,op2,Y4,tb,Z4f,Z4d,Z4e,slX,Z0e,Z11,Y9,X5,Z8m,Z9q,Z3l,Y1y,Z8a,Z6l,Z7h,Z3i,Z7n,Y1w,Z31,ints?,Y0i,Y2l,Y2j,ds?,gets,callP,X.isD,D.noL,D.noLs,D.noLf,Q5,Z25,Z30,Z5g,Y1i,Y1v,Y1x,Y2d,Z57,Z1n,is1,a1,nn,io,rf,isN,a2,Z28,c,z2,bD,doQ]
  by_cases h:m=m0∧w ≠ "give"
  · rw [if_pos h] at rf
    unfold W60
    rw [if_pos h]
    exact noneCase rf
  · rw [if_neg h] at rf
    unfold W60
    rw [if_neg h]
    rcases X3g (p:=Y82 w m) (rows:=rows) with ⟨h1,h2⟩ | ⟨i,r,h1,h2,h3⟩
    · rw [h1] at rf
      rw [h2]
      exact noneCase rf
    · rw [h1] at rf
      rw [h3]
      have isN:isD (.int (i:Int)) .non=some (.bl false):=rfl
      have ix:=W4y (T:=[]) h2
      have t1:=W3w (T:=[]) (r:=r)
      have t2:=X54 (T:=[]) (r:=r)
      unfold U5 Z50 Z5j
      by_cases c1:m=m0 <;> by_cases c2:r.2.2.2=true <;> by_cases c3:r.2.2.1 = "same" <;> by_cases c4:w = "give"
      all_goals
        first
          | (subst c1; subst c4; simp [-List.map_cons,ev0,Y2,Z0k,W7,U1,V6,Z2h,X6,Z2p,Z06,Z1d,Z14,Z2j,Z5f,Z0s,Z0d,Y5,Z1m,Z3,m_c,Y0,Z0,Z7,Z0a,V4,Q7,Q8,X4,Z3b,V8,Q4,Z5n,Z56,Q3,Z0i,W8,Z1y,Z5k,Z3h,Y0v,Y6,Z0r,R.bind,R.so,RO.then,items,ixD,Z8c,Z5r,op2,Y4,tb,Z4f,Z4d,Z4e,slX,Z0e,Z11,Y9,X5,Z8m,Z9q,Z3l,Y1y,Z8a,Z6l,Z7h,Z3i,Z7n,Y1w,Z31,ints?,Y0i,Y2l,Y2j,ds?,gets,callP,X.isD,D.noL,D.noLs,D.noLf,Q5,Z25,Z30,Z5g,Y1i,Y1v,Y1x,Y2d,Z57,Z1n,is1,a1,nn,io,rf,isN,a2,a3,ix,t1,t2,Z28,Z7d,c2,c3,z2,bD,doQ])
          | (subst c1; simp [-List.map_cons,ev0,Y2,Z0k,W7,U1,V6,Z2h,X6,Z2p,Z06,Z1d,Z14,Z2j,Z5f,Z0s,Z0d,Y5,Z1m,Z3,m_c,Y0,Z0,Z7,Z0a,V4,Q7,Q8,X4,Z3b,V8,Q4,Z5n,Z56,Q3,Z0i,W8,Z1y,Z5k,Z3h,Y0v,Y6,Z0r,R.bind,R.so,RO.then,items,ixD,Z8c,Z5r,op2,Y4,tb,Z4f,Z4d,Z4e,slX,Z0e,Z11,Y9,X5,Z8m,Z9q,Z3l,Y1y,Z8a,Z6l,Z7h,Z3i,Z7n,Y1w,Z31,ints?,Y0i,Y2l,Y2j,ds?,gets,callP,X.isD,D.noL,D.noLs,D.noLf,Q5,Z25,Z30,Z5g,Y1i,Y1v,Y1x,Y2d,Z57,Z1n,is1,a1,nn,io,rf,isN,a2,a3,ix,t1,t2,Z28,Z7d,c2,c3,c4,z2,bD,doQ])
          | (subst c4; simp [-List.map_cons,ev0,Y2,Z0k,W7,U1,V6,Z2h,X6,Z2p,Z06,Z1d,Z14,Z2j,Z5f,Z0s,Z0d,Y5,Z1m,Z3,m_c,Y0,Z0,Z7,Z0a,V4,Q7,Q8,X4,Z3b,V8,Q4,Z5n,Z56,Q3,Z0i,W8,Z1y,Z5k,Z3h,Y0v,Y6,Z0r,R.bind,R.so,RO.then,items,ixD,Z8c,Z5r,op2,Y4,tb,Z4f,Z4d,Z4e,slX,Z0e,Z11,Y9,X5,Z8m,Z9q,Z3l,Y1y,Z8a,Z6l,Z7h,Z3i,Z7n,Y1w,Z31,ints?,Y0i,Y2l,Y2j,ds?,gets,callP,X.isD,D.noL,D.noLs,D.noLf,Q5,Z25,Z30,Z5g,Y1i,Y1v,Y1x,Y2d,Z57,Z1n,is1,a1,nn,io,rf,isN,a2,a3,ix,t1,t2,Z28,Z7d,c1,c2,c3,z2,bD,doQ])
          | simp [-List.map_cons,ev0,Y2,Z0k,W7,U1,V6,Z2h,X6,Z2p,Z06,Z1d,Z14,Z2j,Z5f,Z0s,Z0d,Y5,Z1m,Z3,m_c,Y0,Z0,Z7,Z0a,V4,Q7,Q8,X4,Z3b,V8,Q4,Z5n,Z56,Q3,Z0i,W8,Z1y,Z5k,Z3h,Y0v,Y6,Z0r,R.bind,R.so,RO.then,items,ixD,Z8c,Z5r,op2,Y4,tb,Z4f,Z4d,Z4e,slX,Z0e,Z11,Y9,X5,Z8m,Z9q,Z3l,Y1y,Z8a,Z6l,Z7h,Z3i,Z7n,Y1w,Z31,ints?,Y0i,Y2l,Y2j,ds?,gets,callP,X.isD,D.noL,D.noLs,D.noLf,Q5,Z25,Z30,Z5g,Y1i,Y1v,Y1x,Y2d,Z57,Z1n,is1,a1,nn,io,rf,isN,a2,a3,ix,t1,t2,Z28,Z7d,c1,c2,c3,c4,z2,bD,doQ]
end
end Lw
namespace Lw
open PySem PySem.Spec L2 Bv
open PyProof.Rows hiding St
variable [HasW]
def Gd (S:Sto) (b:Nat) (T:Sto):Prop:=OkS T∧Z90 T b∧Z7t S b T
theorem Gd.refl {S:Sto} {b:Nat} (hS:OkS S) (hb:Z90 S b):Gd S b S:=by
  refine ⟨hS,hb,?_⟩
  obtain ⟨gs,s,e1,e2,hd⟩:=id hb
  have:=X3b (gs:=gs) (gs2:=gs) e2 hd
  have e:S.set b (glO gs)=S:=by
    refine List.ext_getElem? fun i=>?_
    by_cases hi:b=i
    · subst hi
      rw [List.getElem?_set_self (by have:=hb.lt; omega),e1]
    · rw [List.getElem?_set_ne hi]
  rwa [e] at this
section
variable {S T:Sto} {b:Nat}
theorem Gd.ok (h:Gd S b T):OkS T:=h.1
theorem Gd.at_ (h:Gd S b T):Z90 T b:=h.2.1
theorem Gd.trans {T2:Sto} (h:Gd S b T) (h2:Z7t T b T2):Gd S b T2:=⟨h2.ok h.ok h.at_.lt,h2.at_ h.at_.lt,h.2.2.trans h2⟩
end
section
variable {S T:Sto} {b:Nat} {m0:Str} {ms:List Str}
end
end Lw
namespace Lw
open PySem PySem.Spec L2 Bv
open PyProof.Rows hiding St
variable [HasW]
def P2:List Str:=["a", "b", "c", "d", "e"]
end Lw
namespace Lw
open PySem PySem.Spec L2 Bv
open PyProof.Rows hiding St
variable [HasW]
section
variable {m0:Str} {ms sh as:List Str} {rows:List Z7g} {T:Sto}
end
end Lw
namespace Lw
open PySem
structure TQ where
  m0:Str
  ms:List Str
  sh:List Str
  as:List Str
  rows:List Z7g
abbrev TQ.Ok (t:TQ):Prop:=ToolOk t.m0 t.ms t.sh t.as t.rows
abbrev TQ.marks (t:TQ):List Str:=t.m0 :: t.ms
def TQ.bec (t:TQ) (w m:Str):Str × Bool:=W60 t.m0 w m t.rows
def TQ.told (t:TQ) (m:Str):Bool × Bool × Bool:=(decide (m=t.m0),decide (m ∈ t.sh),decide (m ∈ t.as))
def TQ.go (t:TQ):Str→List Str→Str
  | m,[]=>m
  | m,w :: l=>t.go (t.bec w m).1 l
def eqv (p q:TQ):Nat→Str→Str→Prop
  | 0,s,t=>p.told s=q.told t
  | n + 1,s,t=>p.told s=q.told t∧∀ w ∈ W6,(p.bec w s).2=(q.bec w t).2∧eqv p q n (p.bec w s).1 (q.bec w t).1
abbrev Nd:=(Str × Str) × List Str
structure Bfs (p q:TQ) (N:List Nd) (a:Nat):Prop where
  head:N[0]?=some ((p.m0,q.m0),[])
  nd:(N.map (·.1)).Nodup
  ok:∀ e ∈ N,(∀ x ∈ e.2,x ∈ W6)∧p.go p.m0 e.2=e.1.1∧q.go q.m0 e.2=e.1.2∧p.told e.1.1=q.told e.1.2∧e.1.1 ∈ p.marks∧e.1.2 ∈ q.marks
  up:∀ (i j:Nat) (e f:Nd),N[i]?=some e→N[j]?=some f→i ≤ j→e.2.length ≤ f.2.length
  near:∀ (i:Nat) (e f:Nd),a ≤ i→N[i]?=some e→f ∈ N→f.2.length ≤ e.2.length + 1
  done:∀ (i:Nat) (e:Nd),i < a→N[i]?=some e→∀ w ∈ W6,(p.bec w e.1.1).2=(q.bec w e.1.2).2∧∃ f ∈ N,f.1=((p.bec w e.1.1).1,(q.bec w e.1.2).1)∧f.2.length ≤ e.2.length + 1
  deep:∀ (i:Nat) (e:Nd),N[i]?=some e→e.2.length ≤ i
structure Bfw (p q:TQ) (N:List Nd) (a:Nat) (e0:Nd) (ws:List Str):Prop where
  b:Bfs p q N a
  at_:N[a]?=some e0
  ws:∀ w ∈ ws,(p.bec w e0.1.1).2=(q.bec w e0.1.2).2∧∃ f ∈ N,f.1=((p.bec w e0.1.1).1,(q.bec w e0.1.2).1)∧f.2.length ≤ e0.2.length + 1
section
variable {p q:TQ} {N:List Nd} {a:Nat} {e0:Nd} {ws:List Str} {w:Str}
end
end Lw
namespace Lw
open PySem PySem.Spec L2 Bv
open PyProof.Rows hiding St
variable [HasW]
def TQ.D (t:TQ):D:=Y94 t.m0 t.ms t.sh t.as t.rows
section
variable {p q t:TQ} {T:Sto} {m w:Str}
theorem Z1z:Z3j ["Tool"] "blank" T (.d t.D)=some (.d (.str t.m0)):=by rfl
theorem Y3z (hm:m ∈ t.marks):U5 [t.D, .str w, .str m] = .ok (bD (t.bec w m)):=X4o hm
theorem X3f {neg b:Bool} {mo mi:M} {e:Ev} {S S1 S2:Sto} {x y:X} (h1:mi e S = .ok y S1) (h2:mo e S1 = .ok x S2) (h:(tkX S2 x y).map (fun p=>((Z7c p.1 p.2.2).isSome ^^ neg))=some b):Y2i neg mi mo e S = .ok (.d (.bl b)) S2:=by
  unfold Y2i
  rw [h1]
  show (mo e S1).bind _=_
  rw [h2]
  show Z5r ((tkX S2 x y).map fun p=>X.d (.bl ((Z7c p.1 p.2.2).isSome ^^ neg))) S2=_
  cases q:tkX S2 x y with
  | none=>rw [q] at h; cases h
  | some p =>
    rw [q] at h
    cases h
    rfl
theorem X81 {mo mi mv:M} {e:Ev} {S:Sto} {x y z:X} {p:Nat × List (D × X) × D × List Leaf} (h1:mv e S = .ok z S) (h2:mo e S = .ok x S) (h3:mi e S = .ok y S) (h:X2s S x y=some p):Y5c mo mi mv e S = .go (.nx e) (S.set p.1 (.tdc (Y6c p.2.1 p.2.2.1 p.2.2.2 z))):=by
  unfold Y5c
  rw [h1]
  show (mo e S).so e _=_
  rw [h2]
  show (mi e S).so e _=_
  rw [h3]
  show (match X2s S x y with
    | some p=>RO.go (.nx e) (S.set p.1 (.tdc (Y6c p.2.1 p.2.2.1 p.2.2.2 z)))
    | none => .bad)=_
  rw [h]
end
end Lw
namespace Lw
open PySem
section
variable {t:TQ} {m w:Str}
theorem Y6p (h:t.Ok) (hm:m ∈ t.marks):(t.bec w m).1 ∈ t.marks:=by
  unfold TQ.bec W60 TQ.marks
  unfold TQ.marks at hm
  have hd:∀ o:Option Z7g,(∀ r,o=some r→r ∈ t.rows)→(doQ t.m0 w m o).1 ∈ t.m0 :: t.ms:=fun o ho=>by
    cases o with
    | none =>
      show (if w = "carry" then t.m0 else m) ∈ _
      split
      · simp
      · exact hm
    | some r =>
      have hr:=(h.rows r (ho r rfl)).2.2.1
      by_cases c:m=t.m0∧r.2.2.2=false
      · rw [show doQ t.m0 w m (some r)=(m,false) from if_pos c]; exact hm
      · rw [show doQ t.m0 w m (some r)=(if r.2.2.1 = "same" then m else r.2.2.1,decide (w = "give") && (r.2.2.2 && decide ((if r.2.2.1 = "same" then m else r.2.2.1) ≠ t.m0))) from if_neg c]
        show (if r.2.2.1 = "same" then m else r.2.2.1) ∈ _
        by_cases c2:r.2.2.1 = "same"
        · rw [if_pos c2]; exact hm
        · rw [if_neg c2]
          rcases List.mem_cons.mp hr with e | hr
          · exact absurd e c2
          · exact hr
  split
  · exact hd none fun r e=>(nomatch e)
  · exact hd _ fun r e=>List.mem_of_find?_eq_some e
end
structure Sp where
  m:Str
  wh:Str
  he:Bool
  ot:Bool
  wa:Bool
  we:Bool
deriving DecidableEq
structure StQ where
  how:List Str
  later:Sp
  src:Option Sp
  row:Option Nat
def TQ.rowFor (t:TQ) (w m:Str):Option Nat:=if m=t.m0∧w ≠ "give" then none else t.rows.findIdx? (Y82 w m)
def begun (t:TQ):Sp:=⟨t.m0, "none",false,false,false,false⟩
def Y2q (w:Str):Bool:=decide (w ∈ (["theirs", "other"]:List Str))
def Z18 (t:TQ) (m w:Str):Bool:=decide (m ∈ t.sh) && decide (w = "mine")
abbrev lAl (L:List Str):Bool:=decide (("alike" : Str) ∈ L)
abbrev lBk (L:List Str):Bool:=decide (("back" : Str) ∈ L)
abbrev lLt (L:List Str):Bool:=decide (("late" : Str) ∈ L)
abbrev lNr (L:List Str):Bool:=decide (("near" : Str) ∈ L)
def given (t:TQ) (s:Sp) (how:List Str) (w:Str):StQ :=
  ⟨how,⟨(t.bec "give" s.m).1,if (t.bec "give" s.m).1=t.m0 then "none" else if (t.bec "give" s.m).2=true then w else s.wh,s.he,s.ot,s.wa,s.we⟩,none,t.rowFor "give" s.m⟩
def Y4p (right:Bool):Str:=if right=true then "right" else "wrong"
def looked (t:TQ) (s:Sp) (how:List Str) (right:Bool):StQ :=
  ⟨how,⟨(t.bec (Y4p right) s.m).1,if (t.bec (Y4p right) s.m).1=t.m0 then "none" else s.wh,s.he,s.ot,s.wa,s.we⟩,none,t.rowFor (Y4p right) s.m⟩
def Z1p (t:TQ) (L:List Str) (s:Sp):List StQ :=
  (if s.he=true then [given t s ["give", "mine"] "mine"] else if (s.wa && lLt L)=true then [given t s ["give", "mine"] "mine"] else []) ++
  (if s.ot=true then [given t s ["give", "others"] "theirs"] else if (s.we && lLt L)=true then [given t s ["give", "gone"] "other"] else [])
def Z1b (t:TQ) (s:Sp):List StQ :=
  (if (!decide (s.m=t.m0) && s.he)=true then [looked t s ["check", "mine"] (decide (s.wh = "mine"))] else []) ++
  (if (!decide (s.m=t.m0) && s.ot)=true then [looked t s ["check", "others"] (decide (s.wh = "theirs"))] else [])
def X1u (L:List Str) (s:Sp) (h o:Bool):Bool :=
  if (h && (o && !lAl L))=true then false
  else if (!(s.he || s.ot))=true then (!(h || o) || (!(s.wa || s.we) || lBk L))
  else if (lAl L || (lBk L || !(h || o)))=true then true
  else decide (h=s.he∧o=s.ot)
def Z01 (w:Str) (o free:Bool):List Str :=
  if (!Y2q w)=true then [w] else if (!o)=true then ["other"] else if free=true then ["theirs", "other"] else [w]
def Z99 (L:List Str) (src:Sp) (h o:Bool):List Str :=
  if lNr L=true then (["near"]:List Str) else (if (src.he && h)=true then (["own"]:List Str) else [])++(if (src.ot && o)=true then (["stranger"]:List Str) else [])
def Y0s (t:TQ) (L:List Str) (src:Sp) (h o wa we:Bool):List StQ :=
  if src.m=t.m0 then [] else
    (Z99 L src h o).flatMap fun mv=>(if (t.bec "carry" src.m).1=t.m0 then (["none"]:List Str) else Z01 src.wh o (lAl L || lNr L)).map fun one =>
      ⟨["edition",mv],⟨(t.bec "carry" src.m).1,one,h,o,wa,we⟩,some src,t.rowFor "carry" src.m⟩
def edW (used:Bool):Str:=if used=true then "drop" else "back"
def Y70 (t:TQ) (L:List Str) (s:Sp) (S:List Sp) (h o:Bool):List StQ :=
  if (s.he || s.ot)=(h || o) then
    (Z01 s.wh o (lAl L || lBk L)).map fun one=>⟨["edition", "stay"],⟨s.m,one,h,o,s.wa || h,s.we || o⟩,none,none⟩
  else if s.m ≠ t.m0 then
    (if (t.bec (edW (s.he || s.ot)) s.m).1=t.m0 then (["none"]:List Str) else Z01 s.wh o (lAl L || lBk L)).map fun one =>
      ⟨["edition",edW (s.he || s.ot)],⟨(t.bec (edW (s.he || s.ot)) s.m).1,one,h,o,s.wa || h,s.we || o⟩,none,t.rowFor (edW (s.he || s.ot)) s.m⟩
  else ⟨["edition", "come"],⟨s.m, "none",h,o,s.wa || h,s.we || o⟩,none,none⟩ :: (if (h || o)=true then S.flatMap fun src=>Y0s t L src h o (s.wa || h) (s.we || o) else [])
def B4:List (Bool × Bool):=[(false,false),(false,true),(true,false),(true,true)]
def Z1q (t:TQ) (L:List Str) (s:Sp) (S:List Sp):List StQ:=B4.flatMap fun p=>if X1u L s p.1 p.2=true then Y70 t L s S p.1 p.2 else []
def U4 (t:TQ) (L:List Str) (s:Sp) (S:List Sp):List StQ:=Z1p t L s++(Z1b t s++Z1q t L s S)
def Z8i (t:TQ) (s:Sp):Bool:=decide (s.m=t.m0) && (!s.he && !s.ot)
def Stp (t:TQ) (L:List Str) (s:Sp) (x:StQ):Prop:=x ∈ U4 t L s x.src.toList
section
variable {t:TQ} {L:List Str} {s:Sp} {S S2:List Sp} {x:StQ} {h o wa we:Bool}
theorem Y31 {r:Sp} (hx:x ∈ Y0s t L r h o wa we):x.src=some r:=by
  unfold Y0s at hx
  split at hx
  · cases hx
  · obtain ⟨mv,_,hx⟩:=List.mem_flatMap.mp hx
    obtain ⟨one,_,rfl⟩:=List.mem_map.mp hx
    rfl
theorem Y29 (hx:x ∈ Z1p t L s):x.src=none:=by
  unfold Z1p at hx
  rcases List.mem_append.mp hx with hx | hx
  · split at hx
    · rw [List.mem_singleton.mp hx]; rfl
    · split at hx
      · rw [List.mem_singleton.mp hx]; rfl
      · cases hx
  · split at hx
    · rw [List.mem_singleton.mp hx]; rfl
    · split at hx
      · rw [List.mem_singleton.mp hx]; rfl
      · cases hx
theorem Y1k (hx:x ∈ Z1b t s):x.src=none:=by
  unfold Z1b at hx
  rcases List.mem_append.mp hx with hx | hx
  · split at hx
    · rw [List.mem_singleton.mp hx]; rfl
    · cases hx
  · split at hx
    · rw [List.mem_singleton.mp hx]; rfl
    · cases hx
theorem X3x:x ∈ Y70 t L s S h o ↔ x ∈ Y70 t L s x.src.toList h o∧∀ r,x.src=some r→r ∈ S:=by
  unfold Y70
  split
  · refine ⟨fun hx=>⟨hx,fun r e=>?_⟩,fun hx=>hx.1⟩
    obtain ⟨one,_,rfl⟩:=List.mem_map.mp hx
    cases e
  · split
    · refine ⟨fun hx=>⟨hx,fun r e=>?_⟩,fun hx=>hx.1⟩
      obtain ⟨one,_,rfl⟩:=List.mem_map.mp hx
      cases e
    · constructor
      · intro hx
        rcases List.mem_cons.mp hx with rfl | hx
        · exact ⟨by simp,fun r e=>by cases e⟩
        · split at hx
          · rename_i c
            obtain ⟨r,hr,hx⟩:=List.mem_flatMap.mp hx
            have e:=Y31 hx
            refine ⟨List.mem_cons_of_mem _ ?_,fun r' e'=>?_⟩
            · rw [if_pos c,e]
              simpa using hx
            · rw [e] at e'; cases e'; exact hr
          · cases hx
      · rintro ⟨hx,hs⟩
        rcases List.mem_cons.mp hx with hx | hx
        · rw [hx]; simp
        · split at hx
          · rename_i c
            obtain ⟨r,hr,hx⟩:=List.mem_flatMap.mp hx
            have e:=Y31 hx
            refine List.mem_cons_of_mem _ ?_
            rw [if_pos c]
            exact List.mem_flatMap.mpr ⟨r,hs r e,hx⟩
          · cases hx
theorem Y4r:x ∈ Z1q t L s S ↔ x ∈ Z1q t L s x.src.toList∧∀ r,x.src=some r→r ∈ S:=by
  unfold Z1q
  constructor
  · intro hx
    obtain ⟨p,hp,hx⟩:=List.mem_flatMap.mp hx
    split at hx
    · rename_i c
      have h2:=X3x.mp hx
      exact ⟨List.mem_flatMap.mpr ⟨p,hp,by rw [if_pos c]; exact h2.1⟩,h2.2⟩
    · cases hx
  · rintro ⟨hx,hs⟩
    obtain ⟨p,hp,hx⟩:=List.mem_flatMap.mp hx
    split at hx
    · rename_i c
      exact List.mem_flatMap.mpr ⟨p,hp,by rw [if_pos c]; exact X3x.mpr ⟨hx,hs⟩⟩
    · cases hx
theorem Y0x:x ∈ U4 t L s S ↔ Stp t L s x∧∀ r,x.src=some r→r ∈ S:=by
  unfold Stp U4
  simp only [List.mem_append]
  constructor
  · rintro (hx | hx | hx)
    · exact ⟨.inl hx,fun r e=>by rw [Y29 hx] at e; cases e⟩
    · exact ⟨.inr (.inl hx),fun r e=>by rw [Y1k hx] at e; cases e⟩
    · have h2:=Y4r.mp hx
      exact ⟨.inr (.inr h2.1),h2.2⟩
  · rintro ⟨hx | hx | hx,hs⟩
    · exact .inl hx
    · exact .inr (.inl hx)
    · exact .inr (.inr (Y4r.mpr ⟨hx,hs⟩))
theorem W2h (hx:x ∈ Z1q t L s S):x ∈ U4 t L s S:=List.mem_append_right _ (List.mem_append_right _ hx)
theorem W16 {r:Sp} (hx:Stp t L s x) (e:x.src=some r):Z8i t s=true∧x ∈ Z1q t L s [r]:=by
  unfold Stp U4 at hx
  simp only [List.mem_append] at hx
  rcases hx with hx | hx | hx
  · rw [Y29 hx] at e; cases e
  · rw [Y1k hx] at e; cases e
  · rw [e] at hx
    refine ⟨?_,hx⟩
    unfold Z1q at hx
    obtain ⟨p,hp,hx⟩:=List.mem_flatMap.mp hx
    split at hx
    · unfold Y70 at hx
      split at hx
      · obtain ⟨one,_,rfl⟩:=List.mem_map.mp hx
        cases e
      · rename_i hne
        split at hx
        · obtain ⟨one,_,rfl⟩:=List.mem_map.mp hx
          cases e
        · rename_i hm
          rcases List.mem_cons.mp hx with rfl | hx
          · cases e
          · split at hx
            · rename_i c
              rw [c] at hne
              unfold Z8i
              have hm:s.m=t.m0:=by simpa using hm
              rw [decide_eq_true hm]
              revert hne
              cases s.he <;> cases s.ot <;> simp
            · cases hx
    · cases hx
end
inductive Rc (t:TQ) (L:List Str):Sp→Prop
  | beg:Rc t L (begun t)
  | st {s:Sp} {x:StQ}:Rc t L s→Stp t L s x→(∀ r,x.src=some r→Rc t L r)→Rc t L x.later
def Tk (t:TQ) (L:List Str) (s:Sp) (x:StQ):Prop:=Rc t L s∧Stp t L s x∧∀ r,x.src=some r→Rc t L r
theorem Tk.rc {t:TQ} {L:List Str} {s:Sp} {x:StQ} (h:Tk t L s x):Rc t L x.later := .st h.1 h.2.1 h.2.2
def Z22:List Str:=["none", "mine", "theirs", "other"]
theorem W3n:("none" : Str) ∈ Z22:=by decide +kernel
theorem X5u:¬ ("none" : Str) = "theirs" := by decide +kernel
structure SpOk (t:TQ) (s:Sp):Prop where
  mm:s.m ∈ t.marks
  wh:s.wh ∈ Z22
  bl:s.m=t.m0 ↔ s.wh = "none"
  he:s.he=true→s.wa=true
  ot:s.ot=true→s.we=true
  th:s.wh = "theirs" → s.ot=true
section
variable {t:TQ} {L:List Str} {s:Sp} {S:List Sp} {x:StQ} {h o wa we:Bool}
theorem X9s:SpOk t (begun t):=⟨by simp [begun,TQ.marks],by simp [begun,Z22],by simp [begun],by simp [begun],by simp [begun],fun e=>absurd e (by show ¬ ("none" : Str) = "theirs"; decide +kernel)⟩
theorem Z9m {w one:Str} {free:Bool} (hw:w ∈ Z22) (hn:w ≠ "none") (h:one ∈ Z01 w o free):one ∈ Z22∧one ≠ "none" ∧ (one = "theirs" → o=true ∨ w = "theirs" ∧ o=true):=by
  unfold Z01 at h
  have hx:∀ {y:Str},y = "theirs" ∨ y = "other" → y ∈ Z22∧y ≠ "none" := fun {y} hy=>by
    rcases hy with rfl | rfl <;> exact ⟨by decide +kernel,by decide +kernel⟩
  split at h
  · rename_i c
    rw [List.mem_singleton.mp h]
    refine ⟨hw,hn,fun e=>?_⟩
    rw [e] at c
    exact absurd c (by decide +kernel)
  · split at h
    · rw [List.mem_singleton.mp h]
      exact ⟨(hx (.inr rfl)).1,(hx (.inr rfl)).2,fun e=>absurd e (by decide +kernel)⟩
    · rename_i c
      have ho:o=true:=by simpa using c
      split at h
      · rcases List.mem_cons.mp h with rfl | h
        · exact ⟨(hx (.inl rfl)).1,(hx (.inl rfl)).2,fun _ => .inl ho⟩
        · rw [List.mem_singleton.mp h]
          exact ⟨(hx (.inr rfl)).1,(hx (.inr rfl)).2,fun _ => .inl ho⟩
      · rw [List.mem_singleton.mp h]
        exact ⟨hw,hn,fun _ => .inl ho⟩
theorem Y6m {free:Bool}:Z01 "none" o free=(["none"]:List Str):=by
  unfold Z01
  rw [show (Y2q "none")=false by decide +kernel]
  rfl
theorem Y3s {w:Str} {how:List Str} (hk:t.Ok) (hs:SpOk t s) (hw:w ∈ Z22) (hn:w ≠ "none") (ht:w = "theirs" → s.ot=true):SpOk t (given t s how w).later:=by
  have hm:=Y6p (w := "give") hk hs.mm
  unfold given
  by_cases c:(t.bec "give" s.m).1=t.m0
  · simp only [c,if_true]
    exact ⟨by simp [TQ.marks],W3n,by simp,hs.he,hs.ot,fun e=>absurd e X5u⟩
  · simp only [c,if_false]
    by_cases c2:(t.bec "give" s.m).2=true
    · simp only [c2,if_true]
      exact ⟨hm,hw,by simp [c,hn],hs.he,hs.ot,ht⟩
    · simp only [c2]
      refine ⟨hm,hs.wh,?_,hs.he,hs.ot,hs.th⟩
      simp only [c,false_iff]
      intro e
      have e2:s.m=t.m0:=hs.bl.mpr (by simpa using e)
      apply c
      have:(t.bec "give" t.m0).2=false→(t.bec "give" t.m0).1=t.m0:=by
        unfold TQ.bec W60
        rw [if_neg (by simp)]
        cases hf:t.rows.find? (Y82 "give" t.m0) with
        | none=>intro _; simp [doQ]
        | some r =>
          cases c3:r.2.2.2 with
          | false=>intro _; simp [doQ,c3]
          | true=>simp [doQ,c3]
      rw [e2] at c2 ⊢
      exact this (by simpa using c2)
theorem Y9o {how:List Str} {b:Bool} (hk:t.Ok) (hs:SpOk t s) (hb:s.m ≠ t.m0):SpOk t (looked t s how b).later:=by
  have hm:=Y6p (w:=Y4p b) hk hs.mm
  unfold looked
  by_cases c:(t.bec (Y4p b) s.m).1=t.m0
  · simp only [c,if_true]
    exact ⟨by simp [TQ.marks],W3n,by simp,hs.he,hs.ot,fun e=>absurd e X5u⟩
  · simp only [c,if_false]
    refine ⟨hm,hs.wh,?_,hs.he,hs.ot,hs.th⟩
    simp only [c,false_iff]
    exact fun e=>hb (hs.bl.mpr e)
theorem W4f (hk:t.Ok) (hs:SpOk t s) (hS:∀ r ∈ S,SpOk t r) (hx:x ∈ Y70 t L s S h o):SpOk t x.later:=by
  have hH:∀ {a b:Bool},b=true→(a || b)=true:=fun {a b} e=>by rw [e]; simp
  unfold Y70 at hx
  split at hx
  · obtain ⟨one,h1,rfl⟩:=List.mem_map.mp hx
    by_cases c:s.wh = "none"
    · rw [c,Y6m] at h1
      rw [List.mem_singleton.mp h1]
      exact ⟨hs.mm,W3n,by simp [hs.bl,c],hH,hH,fun e=>absurd e X5u⟩
    · obtain ⟨a,b,d⟩:=Z9m hs.wh c h1
      refine ⟨hs.mm,a,?_,hH,hH,fun e=>(d e).elim id fun z=>z.2⟩
      simp only [b,iff_false]
      exact fun e=>c (hs.bl.mp e)
  · split at hx
    · rename_i hb
      obtain ⟨one,h1,rfl⟩:=List.mem_map.mp hx
      have hm:=Y6p (w:=edW (s.he || s.ot)) hk hs.mm
      split at h1
      · rename_i c
        rw [List.mem_singleton.mp h1]
        exact ⟨hm,W3n,by simp [c],hH,hH,fun e=>absurd e X5u⟩
      · rename_i c
        obtain ⟨a,b,d⟩:=Z9m hs.wh (fun e=>hb (hs.bl.mpr e)) h1
        refine ⟨hm,a,?_,hH,hH,fun e=>(d e).elim id fun z=>z.2⟩
        simp only [b,iff_false]
        exact c
    · rename_i hb
      have hb:s.m=t.m0:=by simpa using hb
      rcases List.mem_cons.mp hx with rfl | hx
      · exact ⟨hs.mm,W3n,by simp [hb],hH,hH,fun e=>absurd e X5u⟩
      · split at hx
        · obtain ⟨r,hr,hx⟩:=List.mem_flatMap.mp hx
          have hr:=hS r hr
          unfold Y0s at hx
          split at hx
          · cases hx
          · rename_i hrb
            obtain ⟨mv,_,hx⟩:=List.mem_flatMap.mp hx
            obtain ⟨one,h1,rfl⟩:=List.mem_map.mp hx
            have hm:=Y6p (w := "carry") hk hr.mm
            split at h1
            · rename_i c
              rw [List.mem_singleton.mp h1]
              exact ⟨hm,W3n,by simp [c],hH,hH,fun e=>absurd e X5u⟩
            · rename_i c
              obtain ⟨a,b,d⟩:=Z9m hr.wh (fun e=>hrb (hr.bl.mpr e)) h1
              refine ⟨hm,a,?_,hH,hH,fun e=>(d e).elim id fun z=>z.2⟩
              simp only [b,iff_false]
              exact c
        · cases hx
theorem W7f (hk:t.Ok) (hs:SpOk t s) (hS:∀ r ∈ S,SpOk t r) (hx:x ∈ U4 t L s S):SpOk t x.later:=by
  unfold U4 at hx
  have m1:("mine" : Str) ∈ Z22∧("mine" : Str) ≠ "none" ∧ ("mine" : Str) ≠ "theirs" := by decide +kernel
  have m2:("theirs" : Str) ∈ Z22∧("theirs" : Str) ≠ "none" := by decide +kernel
  have m3:("other" : Str) ∈ Z22∧("other" : Str) ≠ "none" ∧ ("other" : Str) ≠ "theirs" := by decide +kernel
  rcases List.mem_append.mp hx with hx | hx
  · unfold Z1p at hx
    rcases List.mem_append.mp hx with hx | hx
    · split at hx
      · rw [List.mem_singleton.mp hx]; exact Y3s hk hs m1.1 m1.2.1 fun e=>absurd e m1.2.2
      · split at hx
        · rw [List.mem_singleton.mp hx]; exact Y3s hk hs m1.1 m1.2.1 fun e=>absurd e m1.2.2
        · cases hx
    · split at hx
      · rename_i c
        rw [List.mem_singleton.mp hx]; exact Y3s hk hs m2.1 m2.2 fun _=>c
      · split at hx
        · rw [List.mem_singleton.mp hx]; exact Y3s hk hs m3.1 m3.2.1 fun e=>absurd e m3.2.2
        · cases hx
  · rcases List.mem_append.mp hx with hx | hx
    · unfold Z1b at hx
      rcases List.mem_append.mp hx with hx | hx
      · split at hx
        · rename_i c
          rw [List.mem_singleton.mp hx]; exact Y9o hk hs (by have:=(Bool.and_eq_true_iff.mp c).1; simpa using this)
        · cases hx
      · split at hx
        · rename_i c
          rw [List.mem_singleton.mp hx]; exact Y9o hk hs (by have:=(Bool.and_eq_true_iff.mp c).1; simpa using this)
        · cases hx
    · unfold Z1q at hx
      obtain ⟨p,_,hx⟩:=List.mem_flatMap.mp hx
      split at hx
      · exact W4f hk hs hS hx
      · cases hx
theorem Rc.ok (hk:t.Ok) (h:Rc t L s):SpOk t s:=by
  induction h with
  | beg=>exact X9s
  | st h1 h2 h3 i1 i2 =>
    refine W7f hk i1 (S:=_) (fun r hr=>?_) h2
    exact i2 r (by simpa using hr)
end
def X5y (t:TQ):List Sp:=t.marks.flatMap fun m=>Z22.flatMap fun w=>B4.flatMap fun p=>B4.map fun q=>⟨m,w,p.1,p.2,q.1,q.2⟩
theorem W2z (a b:Bool):(a,b) ∈ B4:=by cases a <;> cases b <;> simp [B4]
theorem X7r {t:TQ} {s:Sp} (h:SpOk t s):s ∈ X5y t:=by
  unfold X5y
  exact List.mem_flatMap.mpr ⟨s.m,h.mm,List.mem_flatMap.mpr ⟨s.wh,h.wh,List.mem_flatMap.mpr ⟨(s.he,s.ot),W2z _ _,List.mem_map.mpr ⟨(s.wa,s.we),W2z _ _,rfl⟩⟩⟩⟩
theorem Z3v {α β:Type} {f:α→List β} {k:Nat}:∀ {l:List α},(∀ a ∈ l,(f a).length ≤ k)→(l.flatMap f).length ≤ l.length * k
  | [],_=>by simp
  | a :: l,h=>by
    rw [List.flatMap_cons,List.length_append,List.length_cons,Nat.succ_mul]
    have:=Z3v (l:=l) fun b hb=>h b (List.mem_cons_of_mem _ hb)
    have:=h a (by simp)
    omega
theorem X5z {t:TQ} (hk:t.Ok):(X5y t).length ≤ 320:=by
  have h1:(X5y t).length ≤ t.marks.length * 64:=by
    unfold X5y
    refine Z3v fun m _=>?_
    show _ ≤ 4 * 16
    refine Z3v (l:=Z22) fun w _=>?_
    show _ ≤ 4 * 4
    refine Z3v (l:=B4) fun p _=>?_
    simp [B4]
  have h2:t.marks.length ≤ 5:=by have:=hk.few; show t.ms.length + 1 ≤ 5; omega
  have:t.marks.length * 64 ≤ 5 * 64:=Nat.mul_le_mul_right _ h2
  omega
theorem X8w {t:TQ} (hk:t.Ok) {l:List Sp} (hn:l.Nodup) (h:∀ s ∈ l,SpOk t s):l.length ≤ 320 :=
  Nat.le_trans (hn.length_le_of_subset fun s hs=>X7r (h s hs)) (X5z hk)
end Lw
namespace Lw
open PySem
structure Cl where
  ord:List Sp
  ahd:List (Sp × Option (Sp × StQ))
  rws:List Nat
  rst:List Sp
def Cl.row (c:Cl):Option Nat→List Nat
  | none=>c.rws
  | some k=>if k ∈ c.rws then c.rws else c.rws++[k]
def Cl.note1 (c:Cl) (s:Sp) (x:StQ):Cl :=
  if x.later ∈ c.ord then { c with rws:=c.row x.row } else ⟨c.ord++[x.later],c.ahd++[(x.later,some (s,x))],c.row x.row,c.rst⟩
def Cl.note (c:Cl) (s:Sp) (xs:List StQ):Cl:=xs.foldl (fun c x=>c.note1 s x) c
def Cl.rests (t:TQ) (L:List Str) (c:Cl) (s:Sp) (os:List Sp):Cl:=os.foldl (fun c o=>c.note o (Z1q t L o [s])) c
def Cl.go (t:TQ) (L:List Str) (c:Cl) (s:Sp) (S:List Sp):Cl :=
  let c2:=Cl.rests t L (c.note s (U4 t L s S)) s c.rst
  if Z8i t s=true then { c2 with rst:=c2.rst++[s] } else c2
def Cl.new (t:TQ):Cl:=⟨[begun t],[(begun t,none)],[],[]⟩
section
variable {t:TQ} {L:List Str} {c c2:Cl} {s r:Sp} {x:StQ} {xs:List StQ} {i:Nat} {S:List Sp}
structure ClOk (t:TQ) (L:List Str) (c:Cl):Prop where
  hd:c.ord[0]?=some (begun t)
  nd:c.ord.Nodup
  rc:∀ s ∈ c.ord,Rc t L s
  ah:c.ahd.map (·.1)=c.ord
  rw:∀ k ∈ c.rws,∃ s x,Tk t L s x∧x.row=some k
  fa:∀ (p:Nat) (y:Sp) (s:Sp) (x:StQ),c.ahd[p]?=some (y,some (s,x))→y=x.later∧Stp t L s x∧(∃ i,i < p∧c.ord[i]?=some s)∧∀ r,x.src=some r→∃ i,i < p∧c.ord[i]?=some r
  f0:∀ (p:Nat) (y:Sp),c.ahd[p]?=some (y,none)→y=begun t
  rn:c.rws.Nodup
structure ClLe (c c2:Cl):Prop where
  ord:c.ord <+: c2.ord
  rws:∀ k ∈ c.rws,k ∈ c2.rws
  rst:c2.rst=c.rst
theorem ClLe.refl:ClLe c c:=⟨List.prefix_refl _,fun _ h=>h,rfl⟩
theorem ClLe.trans {c3:Cl} (h:ClLe c c2) (h2:ClLe c2 c3):ClLe c c3:=⟨h.ord.trans h2.ord,fun k hk=>h2.rws k (h.rws k hk),h2.rst.trans h.rst⟩
theorem Y5b {k:Nat} {o:Option Nat}:k ∈ c.row o ↔ k ∈ c.rws ∨ o=some k:=by
  cases o with
  | none=>simp [Cl.row]
  | some j =>
    show k ∈ (if j ∈ c.rws then c.rws else c.rws++[j]) ↔ _
    split
    · rename_i h
      constructor
      · exact .inl
      · rintro (h2 | h2)
        · exact h2
        · cases h2; exact h
    · simp [eq_comm]
theorem W3f {o:Option Nat} (h:c.rws.Nodup):(c.row o).Nodup:=by
  cases o with
  | none=>exact h
  | some k =>
    show (if k ∈ c.rws then c.rws else c.rws++[k]).Nodup
    split
    · exact h
    · rename_i hn
      rw [List.nodup_append]
      exact ⟨h,by simp,fun a ha b hb e=>hn (by rw [List.mem_singleton.mp hb] at e; rw [← e]; exact ha)⟩
theorem W1a:ClLe c (c.note1 s x):=by
  unfold Cl.note1
  split
  · exact ⟨List.prefix_refl _,fun k hk=>Y5b.mpr (.inl hk),rfl⟩
  · exact ⟨List.prefix_append _ _,fun k hk=>Y5b.mpr (.inl hk),rfl⟩
theorem X30:x.later ∈ (c.note1 s x).ord∧∀ k,x.row=some k→k ∈ (c.note1 s x).rws:=by
  unfold Cl.note1
  split
  · rename_i h; exact ⟨h,fun k e=>Y5b.mpr (.inr e)⟩
  · exact ⟨by simp,fun k e=>Y5b.mpr (.inr e)⟩
theorem W3c {α:Type} {a b:List α} {i:Nat} {v:α} (h:a <+: b) (e:a[i]?=some v):b[i]?=some v:=by
  obtain ⟨l,rfl⟩:=h
  rw [List.getElem?_append_left (List.getElem?_eq_some_iff.mp e).1]
  exact e
theorem W1b (h:ClOk t L c) (hs:s ∈ c.ord) (hx:Stp t L s x) (hr:∀ r,x.src=some r→r ∈ c.ord):ClOk t L (c.note1 s x):=by
  have tk:Tk t L s x:=⟨h.rc s hs,hx,fun r e=>h.rc r (hr r e)⟩
  have rw':∀ k ∈ c.row x.row,∃ s x,Tk t L s x∧x.row=some k:=fun k hk=>(Y5b.mp hk).elim (h.rw k) fun e=>⟨s,x,tk,e⟩
  unfold Cl.note1
  split
  · exact ⟨h.hd,h.nd,h.rc,h.ah,rw',h.fa,h.f0,W3f h.rn⟩
  · rename_i hn
    have hl:c.ahd.length=c.ord.length:=by rw [← h.ah,List.length_map]
    have up:∀ {y:Sp} {p:Nat},(∃ i,i < p∧c.ord[i]?=some y)→∃ i,i < p∧(c.ord++[x.later])[i]?=some y:=fun {y p} ⟨i,h1,h2⟩=>⟨i,h1,W3c (List.prefix_append _ _) h2⟩
    have at_:∀ {y:Sp},y ∈ c.ord→∃ i,i < c.ord.length∧c.ord[i]?=some y:=fun {y} hy=>by
      obtain ⟨i,hi⟩:=List.getElem?_of_mem hy
      exact ⟨i,(List.getElem?_eq_some_iff.mp hi).1,hi⟩
    refine ⟨W3c (List.prefix_append _ _) h.hd,?_,?_,?_,rw',?_,?_,W3f h.rn⟩
    · rw [List.nodup_append]
      exact ⟨h.nd,by simp,fun a ha b hb e=>hn (by rw [List.mem_singleton.mp hb] at e; rw [← e]; exact ha)⟩
    · intro y hy
      rcases List.mem_append.mp hy with hy | hy
      · exact h.rc y hy
      · rw [List.mem_singleton.mp hy]; exact tk.rc
    · simp [h.ah]
    · intro p y s2 x2 e
      by_cases c1:p < c.ahd.length
      · rw [List.getElem?_append_left c1] at e
        obtain ⟨h1,h2,h3,h4⟩:=h.fa p y s2 x2 e
        exact ⟨h1,h2,up h3,fun r er=>up (h4 r er)⟩
      · rw [List.getElem?_append_right (by omega)] at e
        have hz:p - c.ahd.length=0:=by
          have:=(List.getElem?_eq_some_iff.mp e).1
          simp at this; omega
        rw [hz] at e
        have hp:p=c.ord.length:=by omega
        cases e
        rw [hp]
        exact ⟨rfl,hx,up (at_ hs),fun r er=>up (at_ (hr r er))⟩
    · intro p y e
      by_cases c1:p < c.ahd.length
      · rw [List.getElem?_append_left c1] at e
        exact h.f0 p y e
      · rw [List.getElem?_append_right (by omega)] at e
        have hz:p - c.ahd.length=0:=by
          have:=(List.getElem?_eq_some_iff.mp e).1
          simp at this; omega
        rw [hz] at e
        cases e
theorem Y40:∀ {xs:List StQ} {c:Cl},ClOk t L c→s ∈ c.ord→(∀ x ∈ xs,Stp t L s x∧∀ r,x.src=some r→r ∈ c.ord) →
    ClOk t L (c.note s xs)∧ClLe c (c.note s xs)∧∀ x ∈ xs,x.later ∈ (c.note s xs).ord∧∀ k,x.row=some k→k ∈ (c.note s xs).rws
  | [],c,h,_,_=>⟨h, .refl,fun _ hx=>nomatch hx⟩
  | x :: xs,c,h,hs,hx=>by
    have h1:=W1b h hs (hx x (by simp)).1 (hx x (by simp)).2
    have l1:ClLe c (c.note1 s x):=W1a
    obtain ⟨h2,l2,m2⟩:=Y40 (xs:=xs) h1 (l1.ord.subset hs) fun y hy=>⟨(hx y (List.mem_cons_of_mem _ hy)).1,fun r e=>l1.ord.subset ((hx y (List.mem_cons_of_mem _ hy)).2 r e)⟩
    refine ⟨h2,l1.trans l2,fun y hy=>?_⟩
    rcases List.mem_cons.mp hy with rfl | hy
    · exact ⟨l2.ord.subset (X30 (c:=c) (s:=s)).1,fun k e=>l2.rws k ((X30 (c:=c) (s:=s)).2 k e)⟩
    · exact m2 y hy
theorem X39:∀ {os:List Sp} {c:Cl},ClOk t L c→s ∈ c.ord→(∀ o ∈ os,o ∈ c.ord) →
    ClOk t L (Cl.rests t L c s os)∧ClLe c (Cl.rests t L c s os)∧∀ o ∈ os,∀ x ∈ Z1q t L o [s],x.later ∈ (Cl.rests t L c s os).ord∧∀ k,x.row=some k→k ∈ (Cl.rests t L c s os).rws
  | [],c,h,_,_=>⟨h, .refl,fun _ hx=>nomatch hx⟩
  | o :: os,c,h,hs,ho=>by
    have ed:∀ x ∈ Z1q t L o [s],Stp t L o x∧∀ r,x.src=some r→r ∈ c.ord:=fun x hx=>by
      obtain ⟨h1,h2⟩:=Y0x.mp (W2h hx)
      exact ⟨h1,fun r e=>by rw [List.mem_singleton.mp (h2 r e)]; exact hs⟩
    obtain ⟨h1,l1,m1⟩:=Y40 h (ho o (by simp)) ed
    obtain ⟨h2,l2,m2⟩:=X39 (os:=os) h1 (l1.ord.subset hs) fun y hy=>l1.ord.subset (ho y (List.mem_cons_of_mem _ hy))
    refine ⟨h2,l1.trans l2,fun y hy x hx=>?_⟩
    rcases List.mem_cons.mp hy with rfl | hy
    · exact ⟨l2.ord.subset (m1 x hx).1,fun k e=>l2.rws k ((m1 x hx).2 k e)⟩
    · exact m2 y hy x hx
structure ClAt (t:TQ) (L:List Str) (c:Cl) (i:Nat):Prop where
  ok:ClOk t L c
  rst:c.rst=(c.ord.take i).filter (Z8i t)
  cl:∀ s ∈ c.ord.take i,∀ x,Stp t L s x→(∀ r,x.src=some r→r ∈ c.ord.take i)→x.later ∈ c.ord∧∀ k,x.row=some k→k ∈ c.rws
theorem W8p:ClAt t L (Cl.new t) 0 where
  ok:=by
    refine ⟨rfl,by simp [Cl.new],fun s hs=>?_,rfl,fun k hk=>?_,fun p y s x e=>?_,fun p y e=>?_,by simp [Cl.new]⟩
    · rw [List.mem_singleton.mp hs]; exact .beg
    · exact nomatch hk
    · cases p with
      | zero=>cases e
      | succ p=>simp [Cl.new] at e
    · cases p with
      | zero=>cases e; rfl
      | succ p=>simp [Cl.new] at e
  rst:=rfl
  cl:=fun s hs=>by simp at hs
theorem X4e {α:Type} {a b:List α} {i:Nat} (h:a <+: b) (hi:i ≤ a.length):b.take i=a.take i:=by
  obtain ⟨l,rfl⟩:=h
  rw [List.take_append_of_le_length hi]
theorem X5m {α:Type} {a:List α} {i:Nat} {v:α} (h:a[i]?=some v):a.take (i + 1)=a.take i++[v]:=by
  rw [List.take_add_one,h]
  rfl
theorem V0z (h:ClAt t L c i) (hs:c.ord[i]?=some s):ClAt t L (Cl.go t L c s (c.ord.take (i + 1))) (i + 1)∧c.ord <+: (Cl.go t L c s (c.ord.take (i + 1))).ord:=by
  have hm:s ∈ c.ord:=List.mem_of_getElem? hs
  have hi:i < c.ord.length:=(List.getElem?_eq_some_iff.mp hs).1
  have ht:=X5m hs
  obtain ⟨h1,l1,m1⟩:=Y40 (xs:=U4 t L s (c.ord.take (i + 1))) h.ok hm fun x hx=>by
    obtain ⟨a,b⟩:=Y0x.mp hx
    exact ⟨a,fun r e=>List.mem_of_mem_take (b r e)⟩
  obtain ⟨h2,l2,m2⟩:=X39 (os:=c.rst) (s:=s) h1 (l1.ord.subset hm) fun o ho=>l1.ord.subset (by rw [h.rst] at ho; exact List.mem_of_mem_take (List.mem_filter.mp ho).1)
  generalize hc2:Cl.rests t L (c.note s (U4 t L s (c.ord.take (i + 1)))) s c.rst=c2 at h2 l2 m2
  have l3:=l1.trans l2
  have tk2:c2.ord.take (i + 1)=c.ord.take (i + 1):=X4e l3.ord (by omega)
  have tk3:c2.ord.take i=c.ord.take i:=X4e l3.ord (by omega)
  have cl2:∀ s' ∈ c2.ord.take (i + 1),∀ x,Stp t L s' x→(∀ r,x.src=some r→r ∈ c2.ord.take (i + 1))→x.later ∈ c2.ord∧∀ k,x.row=some k→k ∈ c2.rws:=by
    rw [tk2]
    intro s' hs' x hx hr
    have hsrc:(s' ∈ c.ord.take i∧∀ r,x.src=some r→r ∈ c.ord.take i) ∨ s'=s ∨ (s' ∈ c.ord.take i∧x.src=some s):=by
      by_cases c0:s'=s
      · exact .inr (.inl c0)
      · have hs2:s' ∈ c.ord.take i:=by
          rw [ht] at hs'
          rcases List.mem_append.mp hs' with z | z
          · exact z
          · exact absurd (List.mem_singleton.mp z) c0
        cases e:x.src with
        | none=>exact .inl ⟨hs2,fun r z=>nomatch z⟩
        | some r =>
          by_cases c1:r=s
          · subst c1; exact .inr (.inr ⟨hs2,rfl⟩)
          · refine .inl ⟨hs2,fun r' z=>?_⟩
            cases z
            have:=hr r e
            rw [ht] at this
            rcases List.mem_append.mp this with z | z
            · exact z
            · exact absurd (List.mem_singleton.mp z) c1
    rcases hsrc with ⟨a,b⟩ | a | ⟨a,b⟩
    · obtain ⟨p,q⟩:=h.cl s' a x hx b
      exact ⟨l3.ord.subset p,fun k e=>l3.rws k (q k e)⟩
    · subst a
      obtain ⟨p,q⟩:=m1 x (Y0x.mpr ⟨hx,hr⟩)
      exact ⟨l2.ord.subset p,fun k e=>l2.rws k (q k e)⟩
    · obtain ⟨p,q⟩:=W16 hx b
      exact m2 s' (by rw [h.rst]; exact List.mem_filter.mpr ⟨a,p⟩) x q
  unfold Cl.go
  simp only [hc2]
  by_cases c3:Z8i t s=true
  · rw [if_pos c3]
    refine ⟨⟨⟨h2.hd,h2.nd,h2.rc,h2.ah,h2.rw,h2.fa,h2.f0,h2.rn⟩,?_,cl2⟩,l3.ord⟩
    show c2.rst++[s]=_
    rw [l3.rst,h.rst,show (c2.ord.take (i + 1))=_ from tk2,ht,List.filter_append]
    simp [c3]
  · rw [if_neg c3]
    refine ⟨⟨h2,?_,cl2⟩,l3.ord⟩
    rw [l3.rst,h.rst,tk2,ht,List.filter_append]
    simp [c3]
theorem ClAt.all (h:ClAt t L c i) (hi:c.ord.length ≤ i):(∀ s,s ∈ c.ord ↔ Rc t L s)∧∀ k,k ∈ c.rws ↔ ∃ s x,Tk t L s x∧x.row=some k:=by
  have hc:=h.cl
  rw [List.take_of_length_le hi] at hc
  have h1:∀ s,s ∈ c.ord ↔ Rc t L s:=fun s=>⟨h.ok.rc s,fun hr=>by
    induction hr with
    | beg=>exact List.mem_of_getElem? h.ok.hd
    | st a b d i1 i2=>exact (hc _ i1 _ b fun r e=>i2 r e).1⟩
  refine ⟨h1,fun k=>⟨h.ok.rw k,?_⟩⟩
  rintro ⟨s,x,⟨a,b,d⟩,e⟩
  exact (hc s ((h1 s).mpr a) x b fun r er=>(h1 r).mpr (d r er)).2 k e
theorem ClOk.len (hk:t.Ok) (h:ClOk t L c):c.ord.length ≤ 320:=X8w hk h.nd fun s hs=>(h.rc s hs).ok hk
theorem X8j {w m:Str} {k:Nat} (h:t.rowFor w m=some k):k < t.rows.length:=by
  unfold TQ.rowFor at h
  split at h
  · cases h
  · exact (List.findIdx?_eq_some_iff_findIdx_eq.mp h).1
theorem W5g (hx:x ∈ U4 t L s S):x.row=none ∨ ∃ w m,x.row=t.rowFor w m:=by
  unfold U4 at hx
  rcases List.mem_append.mp hx with hx | hx
  · unfold Z1p at hx
    rcases List.mem_append.mp hx with hx | hx
    · split at hx
      · rw [List.mem_singleton.mp hx]; exact .inr ⟨_,_,rfl⟩
      · split at hx
        · rw [List.mem_singleton.mp hx]; exact .inr ⟨_,_,rfl⟩
        · cases hx
    · split at hx
      · rw [List.mem_singleton.mp hx]; exact .inr ⟨_,_,rfl⟩
      · split at hx
        · rw [List.mem_singleton.mp hx]; exact .inr ⟨_,_,rfl⟩
        · cases hx
  · rcases List.mem_append.mp hx with hx | hx
    · unfold Z1b at hx
      rcases List.mem_append.mp hx with hx | hx
      · split at hx
        · rw [List.mem_singleton.mp hx]; exact .inr ⟨_,_,rfl⟩
        · cases hx
      · split at hx
        · rw [List.mem_singleton.mp hx]; exact .inr ⟨_,_,rfl⟩
        · cases hx
    · unfold Z1q at hx
      obtain ⟨p,_,hx⟩:=List.mem_flatMap.mp hx
      split at hx
      · unfold Y70 at hx
        split at hx
        · obtain ⟨one,_,rfl⟩:=List.mem_map.mp hx; exact .inl rfl
        · split at hx
          · obtain ⟨one,_,rfl⟩:=List.mem_map.mp hx; exact .inr ⟨_,_,rfl⟩
          · rcases List.mem_cons.mp hx with rfl | hx
            · exact .inl rfl
            · split at hx
              · obtain ⟨r,_,hx⟩:=List.mem_flatMap.mp hx
                unfold Y0s at hx
                split at hx
                · cases hx
                · obtain ⟨mv,_,hx⟩:=List.mem_flatMap.mp hx
                  obtain ⟨one,_,rfl⟩:=List.mem_map.mp hx
                  exact .inr ⟨_,_,rfl⟩
              · cases hx
      · cases hx
theorem ClOk.rlt (h:ClOk t L c) {k:Nat} (hk:k ∈ c.rws):k < t.rows.length:=by
  obtain ⟨s,x,⟨_,b,_⟩,e⟩:=h.rw k hk
  rcases W5g b with z | ⟨w,m,z⟩
  · rw [z] at e; cases e
  · exact X8j (z.symm.trans e)
theorem ClOk.rlen (hk:t.Ok) (h:ClOk t L c):c.rws.length ≤ 20:=by
  have h1:=h.rn.length_le_of_subset (l₂:=List.range 20) fun k hk2=>List.mem_range.mpr (by have:=h.rlt hk2; have:=hk.len; omega)
  rw [List.length_range] at h1
  exact h1
end
end Lw
namespace Lw
open PySem
def stS (m w:Str):Sp:=⟨m,w,true,false,true,false⟩
def Y6l (t:TQ) (m w:Str):List StQ:=given t (stS m w) [] "mine" :: (if (!decide (m=t.m0))=true then [looked t (stS m w) [] (decide (w = "mine"))] else [])
def StQ.pr (x:StQ):Str × Str:=(x.later.m,x.later.wh)
inductive Pr (t:TQ) (a:Str × Str):Str × Str→Prop
  | refl:Pr t a a
  | st {q:Str × Str} {x:StQ}:Pr t a q→x ∈ Y6l t q.1 q.2→Pr t a x.pr
def Y5y (t:TQ) (m w:Str):Prop:=∀ q,Pr t (m,w) q→Z18 t q.1 q.2=false
def Z3s (t:TQ) (L:List Str) (f:Str) (s:Sp):List StQ :=
  if (!s.he)=true then [] else (if f = "vain" then [given t s ["give", "mine"] "mine"] else if (decide (f = "fallen") && Z18 t s.m s.wh)=true then Z1p t L s++Z1b t s else []).filter fun x => !Z18 t x.later.m x.later.wh
def Z8e (t:TQ) (L:List Str) (s:Sp):Bool:=s.he && (decide (s.wh = "mine") && (lAl L || (lNr L || decide ((t.bec "carry" s.m).1=t.m0))))
def W3q (t:TQ) (f:Str) (s:Sp):Prop:=s.he=true∧((f = "strange" ∧ s.m ∈ t.sh∧Y2q s.wh=true) ∨ (f = "again" ∧ s.m ∈ t.as∧s.wh = "mine") ∨ (f = "stuck" ∧ Y5y t s.m s.wh))
def Met (t:TQ) (L:List Str) (f:Str) (s:Sp):Prop:=W3q t f s ∨ Z3s t L f s ≠ [] ∨ (f = "lost" ∧ Z8e t L s=true)
def X5w (t:TQ) (L:List Str) (f:Str):Prop:=∃ s,Rc t L s∧Met t L f s
open Classical in
noncomputable def Y7i (t:TQ) (m w:Str):Bool:=decide (Y5y t m w)
open Classical in
noncomputable def X3y (t:TQ) (L:List Str) (f:Str) (l:List Sp):Bool:=decide (∃ s ∈ l,Met t L f s)
open Classical in
noncomputable def Y52 (t:TQ) (L:List Str) (f:Str):Bool:=decide (X5w t L f)
theorem Y2x {t:TQ} {m w:Str}:Y7i t m w=true ↔ Y5y t m w:=by simp [Y7i]
theorem Z9t {t:TQ} {L:List Str} {f:Str} {l:List Sp}:X3y t L f l=true ↔ ∃ s ∈ l,Met t L f s:=by simp [X3y]
theorem Y3t {t:TQ} {L:List Str} {f:Str}:Y52 t L f=true ↔ X5w t L f:=by simp [Y52]
theorem Z9s {t:TQ} {L:List Str} {f:Str} {l:List Sp} (h:∀ s,s ∈ l ↔ Rc t L s):X3y t L f l=Y52 t L f:=by
  rw [Bool.eq_iff_iff,Z9t,Y3t]
  exact ⟨fun ⟨s,a,b⟩=>⟨s,(h s).mp a,b⟩,fun ⟨s,a,b⟩=>⟨s,(h s).mpr a,b⟩⟩
section
variable {t:TQ} {L:List Str} {m w:Str} {x:StQ} {N W:List (Str × Str)} {p:Str × Str}
theorem W6z (hk:t.Ok) (hm:m ∈ t.marks) (hw:w ∈ Z22) (hx:x ∈ Y6l t m w):x.pr.1 ∈ t.marks∧x.pr.2 ∈ Z22:=by
  have m1:("mine" : Str) ∈ Z22:=by decide +kernel
  unfold Y6l at hx
  rcases List.mem_cons.mp hx with rfl | hx
  · refine ⟨Y6p hk hm,?_⟩
    show (if _ then _ else if _ then _ else _) ∈ Z22
    split
    · exact W3n
    · split
      · exact m1
      · exact hw
  · split at hx
    · rw [List.mem_singleton.mp hx]
      refine ⟨Y6p hk hm,?_⟩
      show (if _ then _ else _) ∈ Z22
      split
      · exact W3n
      · exact hw
    · cases hx
theorem Pr.ok (hk:t.Ok) (hm:m ∈ t.marks) (hw:w ∈ Z22) (h:Pr t (m,w) p):p.1 ∈ t.marks∧p.2 ∈ Z22:=by
  induction h with
  | refl=>exact ⟨hm,hw⟩
  | st h1 h2 ih=>exact W6z hk ih.1 ih.2 h2
structure DfOk (t:TQ) (m w:Str) (N W:List (Str × Str)):Prop where
  hd:(m,w) ∈ N
  nd:N.Nodup
  pr:∀ p ∈ N,Pr t (m,w) p
  wt:∀ p ∈ W,p ∈ N
  dn:∀ p ∈ N,p ∉ W→Z18 t p.1 p.2=false∧∀ x ∈ Y6l t p.1 p.2,x.pr ∈ N
theorem X92:DfOk t m w [(m,w)] [(m,w)] :=
  ⟨by simp,by simp,fun p hp=>by rw [List.mem_singleton.mp hp]; exact .refl,fun p hp=>hp,fun p hp hn=>absurd hp hn⟩
theorem DfOk.len (hk:t.Ok) (hm:m ∈ t.marks) (hw:w ∈ Z22) (h:DfOk t m w N W):N.length ≤ 20:=by
  have h1:∀ p ∈ N,p ∈ t.marks.flatMap fun a=>Z22.map fun b=>(a,b):=fun p hp=>by
    obtain ⟨a,b⟩:=(h.pr p hp).ok hk hm hw
    exact List.mem_flatMap.mpr ⟨p.1,a,List.mem_map.mpr ⟨p.2,b,rfl⟩⟩
  have h2:=h.nd.length_le_of_subset h1
  have h3:(t.marks.flatMap fun a=>Z22.map fun b=>(a,b)).length ≤ t.marks.length * 4:=Z3v fun a _=>by simp [Z22]
  have h4:t.marks.length ≤ 5:=by have:=hk.few; show t.ms.length + 1 ≤ 5; omega
  omega
theorem DfOk.end_ (h:DfOk t m w N []):Y5y t m w:=fun q hq=>by
  have hN:∀ q,Pr t (m,w) q→q ∈ N:=fun q hq=>by
    induction hq with
    | refl=>exact h.hd
    | st h1 h2 ih=>exact (h.dn _ ih (by simp)).2 _ h2
  exact (h.dn q (hN q hq) (by simp)).1
theorem DfOk.shows (h:DfOk t m w N W) (hp:p ∈ N) (hs:Z18 t p.1 p.2=true):¬ Y5y t m w:=fun q=>by
  have:=q p (h.pr p hp)
  rw [hs] at this
  cases this
structure DfIn (t:TQ) (m w:Str) (N W:List (Str × Str)) (p:Str × Str) (xs:List StQ):Prop where
  hd:(m,w) ∈ N
  nd:N.Nodup
  pr:∀ p ∈ N,Pr t (m,w) p
  wt:∀ p ∈ W,p ∈ N
  pN:p ∈ N
  dn:∀ q ∈ N,q ∉ W→q ≠ p→Z18 t q.1 q.2=false∧∀ x ∈ Y6l t q.1 q.2,x.pr ∈ N
  xs:∀ x ∈ Y6l t p.1 p.2,x ∈ xs ∨ x.pr ∈ N
theorem DfOk.pop (h:DfOk t m w N (W++[p])):DfIn t m w N W p (Y6l t p.1 p.2) :=
  ⟨h.hd,h.nd,h.pr,fun q hq=>h.wt q (List.mem_append_left _ hq),h.wt p (by simp),fun q hq h1 h2=>h.dn q hq (fun z=>(List.mem_append.mp z).elim h1 fun z=>h2 (List.mem_singleton.mp z)),fun x hx => .inl hx⟩
theorem DfIn.old {xs:List StQ} (h:DfIn t m w N W p (x :: xs)) (hx:x.pr ∈ N):DfIn t m w N W p xs :=
  ⟨h.hd,h.nd,h.pr,h.wt,h.pN,h.dn,fun y hy=>(h.xs y hy).elim (fun z=>(List.mem_cons.mp z).elim (fun e => .inr (by rw [e]; exact hx)) .inl) .inr⟩
theorem DfIn.new {xs:List StQ} (h:DfIn t m w N W p (x :: xs)) (hw:x ∈ Y6l t p.1 p.2) (hx:x.pr ∉ N):DfIn t m w (N++[x.pr]) (W++[x.pr]) p xs where
  hd:=List.mem_append_left _ h.hd
  nd:=by
    rw [List.nodup_append]
    exact ⟨h.nd,by simp,fun a ha b hb e=>hx (by rw [List.mem_singleton.mp hb] at e; rw [← e]; exact ha)⟩
  pr:=fun q hq=>(List.mem_append.mp hq).elim (h.pr q) fun e=>by rw [List.mem_singleton.mp e]; exact .st (h.pr p h.pN) hw
  wt:=fun q hq=>(List.mem_append.mp hq).elim (fun z=>List.mem_append_left _ (h.wt q z)) fun z=>List.mem_append_right _ z
  pN:=List.mem_append_left _ h.pN
  dn:=fun q hq h1 h2=>by
    rcases List.mem_append.mp hq with hq | hq
    · obtain ⟨a,b⟩:=h.dn q hq (fun z=>h1 (List.mem_append_left _ z)) h2
      exact ⟨a,fun y hy=>List.mem_append_left _ (b y hy)⟩
    · exact absurd (List.mem_append_right _ hq) h1
  xs:=fun y hy=>(h.xs y hy).elim (fun z=>(List.mem_cons.mp z).elim (fun e => .inr (by rw [e]; simp)) .inl) fun z => .inr (List.mem_append_left _ z)
theorem DfIn.done (h:DfIn t m w N W p []) (hs:Z18 t p.1 p.2=false):DfOk t m w N W :=
  ⟨h.hd,h.nd,h.pr,h.wt,fun q hq h1=>by
    by_cases c:q=p
    · subst c
      exact ⟨hs,fun x hx=>(h.xs x hx).elim (fun z=>nomatch z) id⟩
    · exact h.dn q hq h1 c⟩
end
end Lw
namespace Lw
open PySem PySem.Spec L2 Bv
open PyProof.Rows hiding St
variable [HasW]
def spD (s:Sp):D := .tup [.str s.m, .str s.wh, .bl s.he, .bl s.ot, .bl s.wa, .bl s.we]
def Z21 (l:List Str):D := .tup (l.map D.str)
def V3q:Option Sp→D
  | none => .non
  | some r=>spD r
def W66:Option Nat→D
  | none => .non
  | some k => .int k
def Z3d (x:StQ):D := .obj "Step" [("how",Z21 x.how),("later",spD x.later),("source",V3q x.src),("row",W66 x.row)]
section
variable {t:TQ} {L:List Str} {s r:Sp} {x:StQ} {T S:Sto} {m w:Str} {h o wa we b:Bool}
theorem si0:ixO T (.d (spD s)) 0=some (.d (.str s.m)):=rfl
theorem si1:ixO T (.d (spD s)) 1=some (.d (.str s.wh)):=rfl
theorem si2:ixO T (.d (spD s)) 2=some (.d (.bl s.he)):=rfl
theorem si3:ixO T (.d (spD s)) 3=some (.d (.bl s.ot)):=rfl
theorem si4:ixO T (.d (spD s)) 4=some (.d (.bl s.wa)):=rfl
theorem si5:ixO T (.d (spD s)) 5=some (.d (.bl s.we)):=rfl
theorem ss2:slX T (.d (spD s)) (some 2) none=some (.d (.tup [.bl s.he, .bl s.ot, .bl s.wa, .bl s.we])):=rfl
theorem ss3:slX T (.d (spD s)) none (some 3)=some (.d (.tup [.str s.m, .str s.wh, .bl s.he])):=rfl
theorem V3r:slX T (.d (spD s)) none (some 2)=some (.d (.tup [.str s.m, .str s.wh])):=rfl
theorem W4m {C f:Str} {fs:List (Str × X)} {y:X} (h:fs.length < 1000):Z8a [C] f (S++[.ins C fs]) (.r S.length) y=some (S++[.ins C (Z6l f y fs)]):=by
  have c:([C]:List Str).contains C=true:=by simp
  have g:(S++[O.ins C fs])[S.length]?=some (.ins C fs):=by simp
  unfold Z8a
  simp only [g]
  rw [c,decide_eq_true h]
  simp
theorem Y80 {C f:Str} {m:M} {e:Ev} {fs fs2:List (Str × X)} {y:X} (h0:e[0]?=some (some (.r S.length))) (hm:m e (S++[.ins C fs]) = .ok y (S++[.ins C fs])) (hf:Z6l f y fs=fs2) (hl:fs.length < 1000):Z0s [C] f (Z3 0) m e (S++[.ins C fs]) = .go (.nx e) (S++[.ins C fs2]):=by
  rw [← hf]
  exact Y5n hm (Z6 h0) (W4m hl)
theorem X05 {k:Nat} {S1:Sto} (hc:cut k S1=some S1):trunc k (R.ok (.d .non) S1) = .ok (.d .non) S1:=by
  unfold trunc
  simp only [Z3l,hc]
theorem Z7r {a b c d:D} (hS:OkS S):made "Step" mkF Z0f [.d a, .d b, .d c, .d d] S = .ok (.d (.obj "Step" [("how",a),("later",b),("source",c),("row",d)])) S:=by
  have n:¬ (("how" : Str) = "later")∧¬ (("how" : Str) = "source")∧¬ (("how" : Str) = "row")∧¬ (("later" : Str) = "source")∧¬ (("later" : Str) = "row")∧¬ (("source" : Str) = "row"):=by decide +kernel
  obtain ⟨n1,n2,n3,n4,n5,n6⟩:=n
  have run:Z7y (ev0 5 [.r S.length, .d a, .d b, .d c, .d d]) (S++[.ins "Step" []]) = .go (.nx [some (.r S.length),some (.d a),some (.d b),some (.d c),some (.d d)]) (S++[.ins "Step" [("how", .d a),("later", .d b),("source", .d c),("row", .d d)]]):=by
    unfold Z7y
    exact Z6z (Y80 rfl (Z6 rfl) rfl (Nat.le_of_ble_eq_true rfl)) (Z6z (Y80 (fs2:=[("how", .d a),("later", .d b)]) rfl (Z6 rfl) (by simp [Z6l,n1]) (Nat.le_of_ble_eq_true rfl)) (Z6z (Y80 (fs2:=[("how", .d a),("later", .d b),("source", .d c)]) rfl (Z6 rfl) (by simp [Z6l,n2,n4]) (Nat.le_of_ble_eq_true rfl)) (Y80 rfl (Z6 rfl) (by simp [Z6l,n3,n5,n6]) (Nat.le_of_ble_eq_true rfl))))
  have hk:OkS (S++[O.ins "Step" [("how", .d a),("later", .d b),("source", .d c),("row", .d d)]]):=hS.push rfl
  have hc:=hk.cut0
  refine X7l (S1:=S++[.ins "Step" [("how", .d a),("later", .d b),("source", .d c),("row", .d d)]]) (T:=S) ?_ ?_ hS.cut
  · unfold Z0f X2f
    rw [run]
    rw [show (S++[O.ins "Step" []]).length=(S++[O.ins "Step" [("how", .d a),("later", .d b),("source", .d c),("row", .d d)]]).length by simp]
    exact X05 hc
  · unfold frz
    simp [fs?]
theorem Y8r:U9 [t.D, .str w, .str m] = .ok (W66 (t.rowFor w m)):=by
  refine Y7a.trans ?_
  unfold TQ.rowFor
  split
  · rfl
  · cases t.rows.findIdx? (Y82 w m) <;> rfl
theorem Y87:g_begun [t.D] = .ok (spD (begun t)):=by
  refine Z00 ?_
  unfold X1h
  exact Fw.one (Fw.retT (ds:=[.str t.m0, .str "none", .bl false, .bl false, .bl false, .bl false]) (Z5 (U6 (Z6 rfl) Z1z) (Z5 V9 (Z5 V9 (Z5 V9 (Z5 V9 (Z5 V9 Y1)))))) rfl (hz4 (by simp)) rfl)
theorem Y65:g_is_of_others [.str w] = .ok (.bl (Y2q w)):=by
  refine Z00 ?_
  unfold Z69
  exact Fw.one (Fw.retP (X8 (Z6 rfl) (Z1r (ds:=(["theirs", "other"]:List Str).map D.str) (Z5 V9 (Z5 V9 Y1)) rfl (hz4 (by simp))) Y4 Y4 Z8p) Y4 rfl)
theorem Y83:Z3j ["Tool"] "shown" T (.d t.D)=some (.d (Z21 t.sh)):=by rfl
theorem X55:Z3j ["Tool"] "asked" T (.d t.D)=some (.d (Z21 t.as)):=by rfl
theorem X56:Z3j ["Tool"] "marks" T (.d t.D)=some (.d (Z21 t.marks)):=by rfl
theorem W2k {mt:MG Bool} {ma mb:M} {e:Ev} {p:Prop} [Decidable p] {a c:Str} (h:mt e S = .ok (decide p) S) (ha:ma e S = .ok (.d (.str a)) S) (hb:mb e S = .ok (.d (.str c)) S):Z56 mt ma mb e S = .ok (.d (.str (if p then a else c))) S:=by
  by_cases z:p
  · rw [if_pos z]; exact Y6x (by rw [h,decide_eq_true z]) ha
  · rw [if_neg z]; exact Y6w (by rw [h,decide_eq_false z]) hb
theorem X6y {mt:MG Bool} {ma mb:M} {e:Ev} {b:Bool} {a c:Str} (h:mt e S = .ok b S) (ha:ma e S = .ok (.d (.str a)) S) (hb:mb e S = .ok (.d (.str c)) S):Z56 mt ma mb e S = .ok (.d (.str (if b=true then a else c))) S:=by
  cases b with
  | true=>exact Y6x h ha
  | false=>exact Y6w h hb
theorem Z7l {l:List Str} (hm:s.m ∈ t.marks):g_given_step [t.D,spD s,Z21 l, .str w] = .ok (Z3d (given t s l w)):=by
  refine Z00 ?_
  unfold Z80
  refine Fw.par (Z5 (Z3u (Z6 rfl) V9 si0) (Z5 (Z3u (Z6 rfl) V9 si1) Y1)) ?_
  refine Fw.asg (Z5y (Z6 rfl) rfl (Z5 V9 (Z5 (Z6 rfl) Y1)) (W4 rfl (Z49 (Y3z hm)))) rfl ?_
  refine Fw.set (X6y (W1 (Z6 rfl) rfl) (Z6 rfl) (Z6 rfl)) ?_
  refine Fw.set (W2k (Z0v (X8 (Z6 rfl) (U6 (Z6 rfl) Z1z) Y4 Y4 Z28)) V9 (Z6 rfl)) ?_
  exact Fw.one (Fw.retP (Y7 (Z5 (Z6 rfl) (Z5 (Z1r (Z5 (Z6 rfl) (Z5 (Z6 rfl) (Z6g (Z4a (Z6 rfl) (Z5a V9) Y4i ss2) rfl Y1))) rfl (hz4 (by simp))) (Z5 V9 (Z5 (Z5y (Z6 rfl) rfl (Z5 V9 (Z5 (Z6 rfl) Y1)) (W4 rfl (Z49 Y8r))) Y1)))) (W4 rfl (Z7r Y0z))) Y4 rfl)
end
end Lw
namespace Lw
open PySem PySem.Spec L2 Bv
open PyProof.Rows hiding St
variable [HasW]
def W2j:MS:=(Z0k (Y6 (Y0 (Y9 4 (X5 [] (callP g_is_let))) (Z0 (Z3 1) (Z0 (Z3 2) (Z0 (Z3 5) (Z0 (Z3 6) Z7)))))) (U1 (Z3b Q5 Z4w (Z3 4) (Z0 (Y0 (Y9 6 (X5 [] (callP g_editions_to))) (Z0 (Z3 0) (Z0 (Z3 1) (Z0 (Z3 2) (Z0 (Z3 3) (Z0 (Z3 5) (Z0 (Z3 6) Z7))))))) Z7))) W7)
def V0r:MS:=(Z2o (.nm 6) (Q9 (V4 (Z0 (m_c (.bl false)) (Z0 (m_c (.bl true)) (Z7))))) W2j)
def es:MS:=(Y2 (V6 4 (Q8 Z7)) (Y2 (Z2o (.nm 5) (Q9 (V4 (Z0 (m_c (.bl false)) (Z0 (m_c (.bl true)) (Z7))))) V0r) (X6 (Z3 4))))
theorem V0s:Z6e=es:=by kernel_rfl
def V2g:MS:=(U1 (Z3b Q5 Z4w (Z3 16) (Z0 (Y0 (Y9 4 (X5 [] (callP g_carry_steps))) (Z0 (Z3 0) (Z0 (Z3 1) (Z0 (Z3 21) (Z0 (Z3 14) Z7))))) Z7)))
def et:MS:=(Y2 (Z14 (.tp [(.nm 6),(.nm 7),(.nm 8),(.nm 9),(.nm 10),(.nm 11)]) (Z3 2)) (Y2 (Z2j 12 13 (Z0 (Z5k (Z3 8) (Z3 9)) (Z0 (Z5k (Z3 4) (Z3 5)) Z7))) (Y2 (V6 14 (V4 (Z0 (Z3 4) (Z0 (Z3 5) (Z0 (Z5k (Z3 10) (Z3 4)) (Z0 (Z5k (Z3 11) (Z3 5)) Z7)))))) (Y2 (V6 15 (Z5k (Y5 inD (m_c (.str "alike")) (Z3 1)) (Y5 inD (m_c (.str "back")) (Z3 1)))) (Y2 (Z0k (Z0d (Y5 eqD (Z3 12) (Z3 13))) (Y2 (V6 17 (Y0 (Y9 3 (X5 [] (callP g_whose_then))) (Z0 (Z3 7) (Z0 (Z3 5) (Z0 (Z3 15) Z7))))) (X6 (Z4p (.nm 22) (Q9 (Z3 17)) Z0n (Y0 (Y9 4 (X5 [] (made "Step" mkF Z0f))) (Z0 (V4 (Z0 (m_c (.str "edition")) (Z0 (m_c (.str "stay")) Z7))) (Z0 (V4 (Z0 (Z3 6) (Z0 (Z3 22) (Z0a (Z3 14) Z7)))) (Z0 (m_c .non) (Z0 (m_c .non) Z7))))) [22]))) W7) (Y2 (Z0k (Z0d (Y5 neD (Z3 6) (X4 ["Tool"] "blank" (Z3 0)))) (Y2 (V6 18 (Z56 (Y6 (Z3 12)) (m_c (.str "drop")) (m_c (.str "back")))) (Y2 (V6 19 (Z1m (Z1n "Tool" "becomes" (Y9 3 (X5 [] (callP U5))) (Z3 0) (Z0 (Z3 18) (Z0 (Z3 6) Z7))) (m_c (.int 0)))) (Y2 (V6 17 (Z56 (Z0d (Y5 eqD (Z3 19) (X4 ["Tool"] "blank" (Z3 0)))) (Q7 (Z0 (m_c (.str "none")) Z7)) (Y0 (Y9 3 (X5 [] (callP g_whose_then))) (Z0 (Z3 7) (Z0 (Z3 5) (Z0 (Z3 15) Z7)))))) (Y2 (V6 20 (Z1n "Tool" "row_for" (Y9 3 (X5 [] (callP U9))) (Z3 0) (Z0 (Z3 18) (Z0 (Z3 6) Z7)))) (X6 (Z4p (.nm 22) (Q9 (Z3 17)) Z0n (Y0 (Y9 4 (X5 [] (made "Step" mkF Z0f))) (Z0 (V4 (Z0 (m_c (.str "edition")) (Z0 (Z3 18) Z7))) (Z0 (V4 (Z0 (Z3 19) (Z0 (Z3 22) (Z0a (Z3 14) Z7)))) (Z0 (m_c .non) (Z0 (Z3 20) Z7))))) [22])))))) W7) (Y2 (V6 16 (Q8 (Z0 (Y0 (Y9 4 (X5 [] (made "Step" mkF Z0f))) (Z0 (V4 (Z0 (m_c (.str "edition")) (Z0 (m_c (.str "come")) Z7))) (Z0 (V4 (Z0 (Z3 6) (Z0 (m_c (.str "none")) (Z0a (Z3 14) Z7)))) (Z0 (m_c .non) (Z0 (m_c .non) Z7))))) Z7))) (Y2 (Z0k (Y6 (Z3 13)) (Z2o (.nm 21) (Q9 (Z3 3)) V2g) W7) (X6 (Z3 16))))))))))
theorem V0t:Z72=et:=by kernel_rfl
def V2f:MS:=(U1 (Z3b Q5 Z4w (Z3 4) (Z0 (Z4p (.nm 10) (Q9 (Z3 8)) Z0n (Y0 (Y9 4 (X5 [] (made "Step" mkF Z0f))) (Z0 (V4 (Z0 (m_c (.str "edition")) (Z0 (Z3 9) Z7))) (Z0 (V4 (Z0 (Z3 5) (Z0 (Z3 10) (Z0a (Z3 3) Z7)))) (Z0 (Z3 2) (Z0 (Z3 6) Z7))))) [10]) Z7)))
def cs:MS:=(Y2 (V6 4 (Q8 Z7)) (Y2 (Z0k (Z0d (Y5 eqD (Z1m (Z3 2) (m_c (.int 0))) (X4 ["Tool"] "blank" (Z3 0)))) (X6 (Z3 4)) W7) (Y2 (Z14 (.tp [(.nm 5),(.nm 6)]) (V4 (Z0 (Z1m (Z1n "Tool" "becomes" (Y9 3 (X5 [] (callP U5))) (Z3 0) (Z0 (m_c (.str "carry")) (Z0 (Z1m (Z3 2) (m_c (.int 0))) Z7))) (m_c (.int 0))) (Z0 (Z1n "Tool" "row_for" (Y9 3 (X5 [] (callP U9))) (Z3 0) (Z0 (m_c (.str "carry")) (Z0 (Z1m (Z3 2) (m_c (.int 0))) Z7))) Z7)))) (Y2 (V6 7 (Z5k (Y5 inD (m_c (.str "alike")) (Z3 1)) (Y5 inD (m_c (.str "near")) (Z3 1)))) (Y2 (V6 8 (Z56 (Z0d (Y5 eqD (Z3 5) (X4 ["Tool"] "blank" (Z3 0)))) (Q7 (Z0 (m_c (.str "none")) Z7)) (Y0 (Y9 3 (X5 [] (callP g_whose_then))) (Z0 (Z1m (Z3 2) (m_c (.int 1))) (Z0 (Z1m (Z3 3) (m_c (.int 1))) (Z0 (Z3 7) Z7)))))) (Y2 (Z2o (.nm 9) (Q9 (Y0 (Y9 4 (X5 [] (callP g_movers))) (Z0 (Z3 1) (Z0 (Z3 2) (Z0 (Z1m (Z3 3) (m_c (.int 0))) (Z0 (Z1m (Z3 3) (m_c (.int 1))) (Z7))))))) V2f) (X6 (Z3 4))))))))
theorem V0i:Z71=cs:=by kernel_rfl
def stX (x:StQ):X := .d (Z3d x)
def Z2q (l:List StQ):D := .lst (l.map Z3d)
def Z6q (l:List Sp):D := .lst (l.map spD)
theorem nt {b:Bool} (h:b=false):¬ b=true:=by rw [h]; simp
section
variable {t:TQ} {L:List Str} {s r:Sp} {x:StQ} {T S:Sto} {m w:Str} {h o wa we b:Bool} {Sr:List Sp}
theorem W0o:(if b=true then ("right" : Str) else "wrong")=Y4p b:=rfl
theorem Y2h {l:List Str} (hm:s.m ∈ t.marks):g_looked_step [t.D,spD s,Z21 l, .bl b] = .ok (Z3d (looked t s l b)):=by
  refine Z00 ?_
  unfold Z74
  refine Fw.par (Z5 (Z3u (Z6 rfl) V9 si0) (Z5 (Z3u (Z6 rfl) V9 si1) Y1)) ?_
  refine Fw.set (X6y (W1 (Z6 rfl) rfl) V9 V9) ?_
  rw [W0o]
  refine Fw.set (Z3u (Z5y (Z6 rfl) rfl (Z5 (Z6 rfl) (Z5 (Z6 rfl) Y1)) (W4 rfl (Z49 (Y3z hm)))) V9 (z := .d (.str (t.bec (Y4p b) s.m).1)) rfl) ?_
  refine Fw.set (W2k (Z0v (X8 (Z6 rfl) (U6 (Z6 rfl) Z1z) Y4 Y4 Z28)) V9 (Z6 rfl)) ?_
  exact Fw.one (Fw.retP (Y7 (Z5 (Z6 rfl) (Z5 (Z1r (Z5 (Z6 rfl) (Z5 (Z6 rfl) (Z6g (Z4a (Z6 rfl) (Z5a V9) Y4i ss2) rfl Y1))) rfl (hz4 (by simp))) (Z5 V9 (Z5 (Z5y (Z6 rfl) rfl (Z5 (Z6 rfl) (Z5 (Z6 rfl) Y1)) (W4 rfl (Z49 Y8r))) Y1)))) (W4 rfl (Z7r Y0z))) Y4 rfl)
theorem Z42 {g:List D→PR} {d1 d2 d3 d4 d:D} (h:g [d1,d2,d3,d4] = .ok d):callP g [.d d1, .d d2, .d d3, .d d4] S = .ok (.d d) S:=W7s (ds:=[d1,d2,d3,d4]) rfl h
theorem V0u {g:List D→PR} {d1 d2 d3 d4 d5 d6 d:D} (h:g [d1,d2,d3,d4,d5,d6] = .ok d):callP g [.d d1, .d d2, .d d3, .d d4, .d d5, .d d6] S = .ok (.d d) S:=W7s (ds:=[d1,d2,d3,d4,d5,d6]) rfl h
theorem Z79 {a c:Str} {e:Ev}:V4 (Z0 (m_c (.str a)) (Z0 (m_c (.str c)) (Z7))) e S = .ok (.d (Z21 [a,c])) S:=Z1r (ds:=[.str a, .str c]) (Z5 V9 (Z5 V9 Y1)) rfl (hz4 (by simp))
theorem Y13 {i:Nat} {m:M} {e:Ev} {xs:List StQ} {y:StQ} (h0:e[i]?=some (some (.r 0))) (hl:xs.length < 100000) (hm:m e [.lst (xs.map stX)] = .ok (stX y) [.lst (xs.map stX)]) :
    Z3b Q5 Q0 (Z3 i) (Z0 m (Z7)) e [.lst (xs.map stX)] = .ok (.d .non) [.lst ((xs++[y]).map stX)]:=by
  refine Y1f (Z6 h0) (Z4b (xs:=xs.map stX) rfl) (Z5 hm Y1) ((Y03 (xs:=xs.map stX) rfl (by rw [List.length_map,sizeLine_eq]; omega)).trans ?_)
  simp
theorem Y3h:inD (.str w) (Z21 L)=some (.bl (decide (w ∈ L))):=Z8p
theorem W22:Y90 (.str w) (Z21 L)=some (.bl (!decide (w ∈ L))):=X16
theorem Y28 (hm:s.m ∈ t.marks):g_delivery_steps [t.D,Z21 L,spD s] = .ok (Z2q (Z1p t L s)):=by
  refine Z00 ?_
  unfold Z5w
  refine Fw.asg (Z6 rfl) rfl ?_
  refine Fw.set (Z7b Y1 (hz4 (by simp))) ?_
  let A1:List StQ:=if s.he=true then [given t s ["give", "mine"] "mine"] else if (s.wa && lLt L)=true then [given t s ["give", "mine"] "mine"] else []
  let A2:List StQ:=if s.ot=true then [given t s ["give", "others"] "theirs"] else if (s.we && lLt L)=true then [given t s ["give", "gone"] "other"] else []
  let E:Ev:=[some (.d t.D),some (.d (Z21 L)),some (.d (spD s)),some (.d (.str s.m)),some (.d (.str s.wh)),some (.d (.bl s.he)),some (.d (.bl s.ot)),some (.d (.bl s.wa)),some (.d (.bl s.we)),some (.r 0)]
  have l1:A1.length ≤ 1:=by
    show (if _ then _ else if _ then _ else _:List StQ).length ≤ 1
    split
    · simp
    · split <;> simp
  refine Fw.seqN (P:=fun e1 S1=>e1=E∧S1=[.lst (A1.map stX)]) ?_ ?_
  · refine Fw.one (Fw.if_ (b:=s.he) (W1 (Z6 rfl) rfl) (Fw.ifc (fun hb=>?_) fun hb=>?_))
    · have e1:A1=[]++[given t s ["give", "mine"] "mine"]:=if_pos hb
      refine Fw.expr (Y13 (xs:=[]) rfl (by simp) (Y7 (Z5 (Z6 rfl) (Z5 (Z6 rfl) (Z5 Z79 (Z5 V9 Y1)))) (W4 rfl (Z42 (Z7l hm))))) (Fw.nil ⟨E,_,rfl,rfl,by rw [e1]⟩)
    · refine Fw.one (Fw.seqSeq (Fw.if_ (b:=s.wa && lLt L) (Z4g (W1 (Z6 rfl) rfl) fun _=>Z0v (X8 V9 (Z6 rfl) Y4 Y4 Y3h)) (Fw.ifc (fun hc=>?_) fun hc=>?_)))
      · have e1:A1=[]++[given t s ["give", "mine"] "mine"]:=(if_neg (nt hb)).trans (if_pos hc)
        refine Fw.expr (Y13 (xs:=[]) rfl (by simp) (Y7 (Z5 (Z6 rfl) (Z5 (Z6 rfl) (Z5 Z79 (Z5 V9 Y1)))) (W4 rfl (Z42 (Z7l hm))))) (Fw.seqNil (Fw.nil ⟨E,_,rfl,rfl,by rw [e1]⟩))
      · have e1:A1=[]:=(if_neg (nt hb)).trans (if_neg (nt hc))
        exact Fw.seqNil (Fw.seqNil (Fw.nil ⟨E,_,rfl,rfl,by rw [e1]; rfl⟩))
  rintro e1 S1 ⟨rfl,rfl⟩
  refine Fw.seqN (P:=fun e1 S1=>e1=E∧S1=[.lst ((A1++A2).map stX)]) ?_ ?_
  · refine Fw.one (Fw.if_ (b:=s.ot) (W1 (Z6 rfl) rfl) (Fw.ifc (fun hb=>?_) fun hb=>?_))
    · have e1:A2=[given t s ["give", "others"] "theirs"]:=if_pos hb
      refine Fw.expr (Y13 (xs:=A1) rfl (by omega) (Y7 (Z5 (Z6 rfl) (Z5 (Z6 rfl) (Z5 Z79 (Z5 V9 Y1)))) (W4 rfl (Z42 (Z7l hm))))) (Fw.nil ⟨E,_,rfl,rfl,by rw [e1]⟩)
    · refine Fw.one (Fw.seqSeq (Fw.if_ (b:=s.we && lLt L) (Z4g (W1 (Z6 rfl) rfl) fun _=>Z0v (X8 V9 (Z6 rfl) Y4 Y4 Y3h)) (Fw.ifc (fun hc=>?_) fun hc=>?_)))
      · have e1:A2=[given t s ["give", "gone"] "other"]:=(if_neg (nt hb)).trans (if_pos hc)
        refine Fw.expr (Y13 (xs:=A1) rfl (by omega) (Y7 (Z5 (Z6 rfl) (Z5 (Z6 rfl) (Z5 Z79 (Z5 V9 Y1)))) (W4 rfl (Z42 (Z7l hm))))) (Fw.seqNil (Fw.nil ⟨E,_,rfl,rfl,by rw [e1]⟩))
      · have e1:A2=[]:=(if_neg (nt hb)).trans (if_neg (nt hc))
        exact Fw.seqNil (Fw.seqNil (Fw.nil ⟨E,_,rfl,rfl,by rw [e1,List.append_nil]⟩))
  rintro e1 S1 ⟨rfl,rfl⟩
  refine Fw.one (Fw.retP (Z6 rfl) (Z6r (ds:=(A1++A2).map Z3d) (by simp [List.map_map]; rfl)) rfl)
theorem Y9p (hm:s.m ∈ t.marks):g_look_steps [t.D,spD s] = .ok (Z2q (Z1b t s)):=by
  refine Z00 ?_
  unfold Z81
  refine Fw.asg (Z6 rfl) rfl ?_
  refine Fw.set (Z7b Y1 (hz4 (by simp))) ?_
  let A1:List StQ:=if (!decide (s.m=t.m0) && s.he)=true then [looked t s ["check", "mine"] (decide (s.wh = "mine"))] else []
  let A2:List StQ:=if (!decide (s.m=t.m0) && s.ot)=true then [looked t s ["check", "others"] (decide (s.wh = "theirs"))] else []
  let E:Ev:=[some (.d t.D),some (.d (spD s)),some (.d (.str s.m)),some (.d (.str s.wh)),some (.d (.bl s.he)),some (.d (.bl s.ot)),some (.d (.bl s.wa)),some (.d (.bl s.we)),some (.r 0)]
  have l1:A1.length ≤ 1:=by show (if _ then _ else _:List StQ).length ≤ 1; split <;> simp
  refine Fw.seqN (P:=fun e1 S1=>e1=E∧S1=[.lst (A1.map stX)]) ?_ ?_
  · refine Fw.one (Fw.if_ (b := !decide (s.m=t.m0) && s.he) (Z4g (Z0v (X8 (Z6 rfl) (U6 (Z6 rfl) Z1z) Y4 Y4 Z7d)) fun _=>W1 (Z6 rfl) rfl) (Fw.ifc (fun hb=>?_) fun hb=>?_))
    · have e1:A1=[]++[looked t s ["check", "mine"] (decide (s.wh = "mine"))]:=if_pos hb
      refine Fw.expr (Y13 (xs:=[]) rfl (by simp) (Y7 (Z5 (Z6 rfl) (Z5 (Z6 rfl) (Z5 Z79 (Z5 (X8 (Z6 rfl) V9 Y4 Y4 Z28) Y1)))) (W4 rfl (Z42 (Y2h hm))))) (Fw.nil ⟨E,_,rfl,rfl,by rw [e1]⟩)
    · have e1:A1=[]:=if_neg (nt hb)
      exact Fw.seqNil (Fw.nil ⟨E,_,rfl,rfl,by rw [e1]; rfl⟩)
  rintro e1 S1 ⟨rfl,rfl⟩
  refine Fw.seqN (P:=fun e1 S1=>e1=E∧S1=[.lst ((A1++A2).map stX)]) ?_ ?_
  · refine Fw.one (Fw.if_ (b := !decide (s.m=t.m0) && s.ot) (Z4g (Z0v (X8 (Z6 rfl) (U6 (Z6 rfl) Z1z) Y4 Y4 Z7d)) fun _=>W1 (Z6 rfl) rfl) (Fw.ifc (fun hb=>?_) fun hb=>?_))
    · have e1:A2=[looked t s ["check", "others"] (decide (s.wh = "theirs"))]:=if_pos hb
      refine Fw.expr (Y13 (xs:=A1) rfl (by omega) (Y7 (Z5 (Z6 rfl) (Z5 (Z6 rfl) (Z5 Z79 (Z5 (X8 (Z6 rfl) V9 Y4 Y4 Z28) Y1)))) (W4 rfl (Z42 (Y2h hm))))) (Fw.nil ⟨E,_,rfl,rfl,by rw [e1]⟩)
    · have e1:A2=[]:=if_neg (nt hb)
      exact Fw.seqNil (Fw.nil ⟨E,_,rfl,rfl,by rw [e1,List.append_nil]⟩)
  rintro e1 S1 ⟨rfl,rfl⟩
  refine Fw.one (Fw.retP (Z6 rfl) (Z6r (ds:=(A1++A2).map Z3d) (by simp [List.map_map]; rfl)) rfl)
theorem X4x:g_is_let [Z21 L,spD s, .bl h, .bl o] = .ok (.bl (X1u L s h o)):=by
  refine Z00 ?_
  unfold Y7u X1u
  refine Fw.par (Z5 (Z4h (Z3u (Z6 rfl) V9 si2) (Z3u (Z6 rfl) V9 si3)) (Z5 (Z4h (Z3u (Z6 rfl) V9 si4) (Z3u (Z6 rfl) V9 si5)) Y1)) ?_
  refine Fw.if_ (b:=h && (o && !lAl L)) (Z4g (W1 (Z6 rfl) rfl) fun _=>Z4g (W1 (Z6 rfl) rfl) fun _=>Z0v (X8 V9 (Z6 rfl) Y4 Y4 W22)) (Fw.ifc (fun hb=>?_) fun hb=>?_)
  · rw [if_pos hb]; exact Fw.retP V9 Y4 rfl
  rw [if_neg (nt hb)]
  refine Fw.seqNil ?_
  refine Fw.if_ (b := !(s.he || s.ot)) (Z4v (W1 (Z6 rfl) rfl)) (Fw.ifc (fun hb=>?_) fun hb=>?_)
  · rw [if_pos hb]
    exact Fw.retP (Z4h (Y9g (Z4h (Z6 rfl) (Z6 rfl)) rfl) (Z4h (Y9g (Z6 rfl) rfl) (X8 V9 (Z6 rfl) Y4 Y4 Y3h))) Y4 rfl
  rw [if_neg (nt hb)]
  refine Fw.seqNil ?_
  refine Fw.if_ (b:=lAl L || (lBk L || !(h || o))) (Y9h (Z0v (X8 V9 (Z6 rfl) Y4 Y4 Y3h)) fun _=>Y9h (Z0v (X8 V9 (Z6 rfl) Y4 Y4 Y3h)) fun _=>Z4v (Y9h (W1 (Z6 rfl) rfl) fun _=>W1 (Z6 rfl) rfl)) (Fw.ifc (fun hb=>?_) fun hb=>?_)
  · rw [if_pos hb]; exact Fw.retP V9 Y4 rfl
  rw [if_neg (nt hb)]
  refine Fw.seqNil ?_
  refine Fw.one (Fw.retP (d := .bl (decide (h=s.he∧o=s.ot))) (X8 (Z1r (ds:=[.bl h, .bl o]) (Z5 (Z6 rfl) (Z5 (Z6 rfl) Y1)) rfl (hz4 (by simp))) (Z1r (ds:=[.bl s.he, .bl s.ot]) (Z5 (Z3u (Z6 rfl) V9 si2) (Z5 (Z3u (Z6 rfl) V9 si3) Y1)) rfl (hz4 (by simp))) Y4 Y4 ?_) Y4 rfl)
  rw [V0o (p := .tuple [.bool h, .bool o]) (q := .tuple [.bool s.he, .bool s.ot]) rfl rfl (by simp [PyData.depth,PyData.depthAll]) (by simp [PyData.depth,PyData.depthAll])]
  cases h <;> cases o <;> cases s.he <;> cases s.ot <;> simp [PyData.eqv,PyData.eqvAll]
theorem Y5t:g_whose_then [.str w, .bl o, .bl b] = .ok (.lst ((Z01 w o b).map D.str)):=by
  refine Z00 ?_
  unfold Z83 Z01
  refine Fw.if_ (b := !Y2q w) (Z4v (W1 (Y7 (Z5 (Z6 rfl) Y1) (W4 rfl (Y3g Y65))) rfl)) (Fw.ifc (fun hb=>?_) fun hb=>?_)
  · rw [if_pos hb]; exact Fw.retP (Z2l (ds:=[.str w]) (Z5 (Z6 rfl) Y1) rfl (hz4 (by simp))) Y4 rfl
  rw [if_neg (nt hb)]
  refine Fw.seqNil ?_
  refine Fw.if_ (b := !o) (Z4v (W1 (Z6 rfl) rfl)) (Fw.ifc (fun hb=>?_) fun hb=>?_)
  · rw [if_pos hb]; exact Fw.retP (Z2l (ds:=[.str "other"]) (Z5 V9 Y1) rfl (hz4 (by simp))) Y4 rfl
  rw [if_neg (nt hb)]
  refine Fw.seqNil ?_
  cases b with
  | true=>exact Fw.one (Fw.retP (Y6x (W1 (Z6 rfl) rfl) (Z2l (ds:=[.str "theirs", .str "other"]) (Z5 V9 (Z5 V9 Y1)) rfl (hz4 (by simp)))) Y4 rfl)
  | false=>exact Fw.one (Fw.retP (Y6w (W1 (Z6 rfl) rfl) (Z2l (ds:=[.str w]) (Z5 (Z6 rfl) Y1) rfl (hz4 (by simp)))) Y4 rfl)
theorem X44:g_movers [Z21 L,spD r, .bl h, .bl o] = .ok (.lst ((Z99 L r h o).map D.str)):=by
  refine Z00 ?_
  unfold Y7w Z99
  refine Fw.if_ (b:=lNr L) (Z0v (X8 V9 (Z6 rfl) Y4 Y4 Y3h)) (Fw.ifc (fun hb=>?_) fun hb=>?_)
  · rw [if_pos hb]; exact Fw.retP (Z2l (ds:=[.str "near"]) (Z5 V9 Y1) rfl (hz4 (by simp))) Y4 rfl
  rw [if_neg (nt hb)]
  refine Fw.seqNil ?_
  refine Fw.set (Z7b Y1 (hz4 (by simp))) ?_
  have a0:∀ {e:Ev} {z:Str},e[4]?=some (some (.r 0))→Z3b Q5 Q0 (Z3 4) (Z0 (m_c (.str z)) (Z7)) e [.lst []] = .ok (.d .non) [.lst [.d (.str z)]]:=fun {e z} h0=>Y1f (Z6 h0) (Z4b (xs:=[]) rfl) (Z5 V9 Y1) ((Y03 (xs:=[]) rfl (hz4 (n:=1) (by simp))).trans rfl)
  have a1:∀ {e:Ev} {z y:Str},e[4]?=some (some (.r 0))→Z3b Q5 Q0 (Z3 4) (Z0 (m_c (.str z)) (Z7)) e [.lst [.d (.str y)]] = .ok (.d .non) [.lst [.d (.str y), .d (.str z)]]:=fun {e z y} h0=>Y1f (Z6 h0) (Z4b (xs:=[.d (.str y)]) rfl) (Z5 V9 Y1) ((Y03 (xs:=[.d (.str y)]) rfl (hz4 (n:=2) (by simp))).trans rfl)
  cases hb:r.he && h with
  | true =>
    refine Fw.if_ (b:=r.he && h) (Z4g (W1 (Z3u (Z6 rfl) V9 si2) rfl) fun _=>W1 (Z6 rfl) rfl) ?_
    rw [hb]
    refine Fw.ift (Fw.expr (a0 rfl) ?_)
    refine Fw.if_ (b:=r.ot && o) (Z4g (W1 (Z3u (Z6 rfl) V9 si3) rfl) fun _=>W1 (Z6 rfl) rfl) (Fw.ifc (fun hc=>?_) fun hc=>?_)
    · rw [hc]; exact Fw.expr (a1 rfl) (Fw.one (Fw.retP (Z6 rfl) (Z6r (ds:=[.str "own", .str "stranger"]) rfl) rfl))
    · rw [hc]; exact Fw.seqNil (Fw.one (Fw.retP (Z6 rfl) (Z6r (ds:=[.str "own"]) rfl) rfl))
  | false =>
    refine Fw.if_ (b:=r.he && h) (Z4g (W1 (Z3u (Z6 rfl) V9 si2) rfl) fun _=>W1 (Z6 rfl) rfl) ?_
    rw [hb]
    refine Fw.iff (Fw.seqNil ?_)
    refine Fw.if_ (b:=r.ot && o) (Z4g (W1 (Z3u (Z6 rfl) V9 si3) rfl) fun _=>W1 (Z6 rfl) rfl) (Fw.ifc (fun hc=>?_) fun hc=>?_)
    · rw [hc]; exact Fw.expr (a0 rfl) (Fw.one (Fw.retP (Z6 rfl) (Z6r (ds:=[.str "stranger"]) rfl) rfl))
    · rw [hc]; exact Fw.seqNil (Fw.one (Fw.retP (Z6 rfl) (Z6r (ds:=[]) rfl) rfl))
end
end Lw
set_option maxHeartbeats 0
namespace Lw
open PySem PySem.Spec L2 Bv
open PyProof.Rows hiding St
variable [HasW]
def tP (a b c:Str):TQ:=⟨a,[b,c],[c],[a],[("give", "any",c,true),("carry", "any",b,true),("right", "any",c,true),("wrong", "any",a,true)]⟩
def t0:TQ:=tP "none" "doubt" "good"
def W7d (A:List Sp) (y:Sp):List Sp:=if y ∈ A then A else A++[y]
def rnd (t:TQ) (L:List Str) (U:List Sp):List Sp:=(U.flatMap fun s=>(U4 t L s U).map (·.later)).foldl W7d U
def clC (t:TQ) (L:List Str):Nat→List Sp
  | 0=>[begun t]
  | n + 1=>rnd t L (clC t L n)
def Y5v (t:TQ) (L:List Str) (U:List Sp):Bool:=U.all fun s=>(U4 t L s U).all fun x=>decide (x.later ∈ U)
def isF:PR→Bool
  | .ok (.bl false)=>true
  | _=>false
def isT:PR→Bool
  | .ok (.bl true)=>true
  | _=>false
def T13 (a b c:Str):List Sp:=[⟨a, "none",false,false,false,false⟩,⟨a, "none",true,false,true,false⟩,⟨c, "mine",true,false,true,false⟩,⟨b, "mine",true,false,true,false⟩,⟨a, "none",false,false,true,false⟩,⟨c, "mine",false,false,true,false⟩,⟨b, "mine",false,false,true,false⟩,⟨a, "none",false,true,false,true⟩,⟨c, "theirs",false,true,false,true⟩,⟨b, "theirs",false,true,false,true⟩,⟨a, "none",false,false,false,true⟩,⟨c, "other",false,false,false,true⟩,⟨b, "other",false,false,false,true⟩]
def S13:List Sp:=T13 "none" "doubt" "good"
def X4m:List Sp:=S13++[⟨"doubt", "mine",false,true,false,true⟩]
def Y6o:List Sp:=S13++[⟨"good", "mine",false,false,true,true⟩,⟨"doubt", "mine",false,false,true,true⟩]
def Y3f:List Sp:=S13++[⟨"good", "mine",false,false,true,true⟩,⟨"doubt", "other",false,false,true,true⟩]
theorem V2y:Y5v t0 [] (clC t0 [] 5)=true:=by kernel_rfl
theorem W32:Y5v t0 ["back"] (clC t0 ["back"] 5)=true:=by kernel_rfl
theorem W33:Y5v t0 ["near"] (clC t0 ["near"] 5)=true:=by kernel_rfl
theorem V0g:Y5v t0 ["late", "near"] (clC t0 ["late", "near"] 5)=true:=by kernel_rfl
theorem X9w:Y5v t0 ["alike"] (clC t0 ["alike"] 5)=true:=by kernel_rfl
theorem V0e:((clC t0 [] 5).all fun s=>decide (s ∈ S13))=true:=by kernel_rfl
theorem V0f:(S13.all fun s=>decide (s ∈ clC t0 [] 5))=true:=by kernel_rfl
theorem W0s:isF (g_is_met [t0.D,Z21 [], .str "again",Z6q S13])=true:=by kernel_rfl
theorem X7j:isF (g_is_met [t0.D,Z21 [], .str "fallen",Z6q S13])=true:=by kernel_rfl
theorem W48:isF (g_is_met [t0.D,Z21 [], .str "lost",Z6q S13])=true:=by kernel_rfl
theorem X41:isF (g_is_met [t0.D,Z21 [], .str "strange",Z6q S13])=true:=by kernel_rfl
theorem W0t:isF (g_is_met [t0.D,Z21 [], .str "stuck",Z6q S13])=true:=by kernel_rfl
theorem W49:isF (g_is_met [t0.D,Z21 [], .str "vain",Z6q S13])=true:=by kernel_rfl
theorem W0u:isF (g_is_met [t0.D,Z21 ["back"], .str "again",Z6q (clC t0 ["back"] 5)])=true:=by kernel_rfl
theorem X7m:isF (g_is_met [t0.D,Z21 ["back"], .str "fallen",Z6q (clC t0 ["back"] 5)])=true:=by kernel_rfl
theorem W5c:isF (g_is_met [t0.D,Z21 ["back"], .str "lost",Z6q (clC t0 ["back"] 5)])=true:=by kernel_rfl
theorem X42:isT (g_is_met [t0.D,Z21 ["back"], .str "strange",Z6q (clC t0 ["back"] 5)])=true:=by kernel_rfl
theorem W0v:isF (g_is_met [t0.D,Z21 ["back"], .str "stuck",Z6q (clC t0 ["back"] 5)])=true:=by kernel_rfl
theorem W5d:isF (g_is_met [t0.D,Z21 ["back"], .str "vain",Z6q (clC t0 ["back"] 5)])=true:=by kernel_rfl
theorem W0z:isF (g_is_met [t0.D,Z21 ["near"], .str "again",Z6q (clC t0 ["near"] 5)])=true:=by kernel_rfl
theorem X7u:isF (g_is_met [t0.D,Z21 ["near"], .str "fallen",Z6q (clC t0 ["near"] 5)])=true:=by kernel_rfl
theorem W5i:isT (g_is_met [t0.D,Z21 ["near"], .str "lost",Z6q (clC t0 ["near"] 5)])=true:=by kernel_rfl
theorem X43:isF (g_is_met [t0.D,Z21 ["near"], .str "strange",Z6q (clC t0 ["near"] 5)])=true:=by kernel_rfl
theorem W00:isF (g_is_met [t0.D,Z21 ["near"], .str "stuck",Z6q (clC t0 ["near"] 5)])=true:=by kernel_rfl
theorem W5j:isF (g_is_met [t0.D,Z21 ["near"], .str "vain",Z6q (clC t0 ["near"] 5)])=true:=by kernel_rfl
theorem mln:isF (g_is_met [t0.D,Z21 ["late", "near"], .str "strange",Z6q (clC t0 ["late", "near"] 5)])=true:=by kernel_rfl
theorem mal:isT (g_is_met [t0.D,Z21 ["alike"], .str "strange",Z6q (clC t0 ["alike"] 5)])=true:=by kernel_rfl
theorem X9u:Y5v t0 ["back"] S13=false:=by kernel_rfl
theorem X6b:Y5v t0 ["alike"] S13=false:=by kernel_rfl
theorem X4w:Y5v t0 ["back"] Y3f=false:=by kernel_rfl
theorem W03:isF (g_is_met [t0.D,Z21 [], .str "again",Z6q Y3f])=true:=by kernel_rfl
theorem X70:isF (g_is_met [t0.D,Z21 [], .str "fallen",Z6q Y3f])=true:=by kernel_rfl
theorem W5k:isF (g_is_met [t0.D,Z21 [], .str "lost",Z6q Y3f])=true:=by kernel_rfl
theorem X45:isF (g_is_met [t0.D,Z21 [], .str "strange",Z6q Y3f])=true:=by kernel_rfl
theorem W04:isF (g_is_met [t0.D,Z21 [], .str "stuck",Z6q Y3f])=true:=by kernel_rfl
theorem W5l:isF (g_is_met [t0.D,Z21 [], .str "vain",Z6q Y3f])=true:=by kernel_rfl
theorem mwr:isF (g_is_met [t0.D,Z21 [], .str "strange",Z6q Y6o])=true:=by kernel_rfl
theorem W34:Y5v t0 [] X4m=false:=by kernel_rfl
theorem X4t:Y5v t0 ["near"] X4m=false:=by kernel_rfl
theorem X4s:Y5v t0 ["late"] X4m=false:=by kernel_rfl
theorem X4r:Y5v t0 ["back"] X4m=false:=by kernel_rfl
theorem W37:Y5v t0 [] Y3f=true:=by kernel_rfl
theorem X91:Y5v t0 [] Y6o=true:=by kernel_rfl
theorem X1l:Y5v t0 ["late"] Y6o=false:=by kernel_rfl
end Lw
set_option maxHeartbeats 4000000
namespace Lw
open PySem PySem.Spec L2 Bv
open PyProof.Rows hiding St
variable [HasW]
section
variable {t:TQ} {L:List Str} {s r:Sp} {x:StQ} {T S:Sto} {m w:Str} {h o wa we b:Bool} {Sr:List Sp}
theorem W7u {n:Nat} {xs:List X} {ds:List D} (h:S[n]?=some (.lst xs)) (hl:xs.length + ds.length ≤ sizeLine):Z4w (.r n) [.d (.lst ds)] S = .ok (.d .non) (S.set n (.lst (xs++ds.map X.d))):=by
  have h1:Z25 S (.r n)=some (n,xs):=by
    show (match S[n]? with
      | some (.lst xs)=>some (n,xs)
      | _=>none)=_
    rw [h]
  have h2:W90 S (.d (.lst ds))=some (ds.map X.d):=rfl
  unfold Z4w
  simp only [h1,h2]
  rw [if_pos (decide_eq_true (by rw [List.length_map]; exact hl))]
theorem W17 {xs:List StQ}:(xs.map Z3d).map X.d=xs.map stX:=by
  rw [List.map_map]
  rfl
theorem X1q {i:Nat} {m:M} {e:Ev} {xs ys:List StQ} (h0:e[i]?=some (some (.r 0))) (hl:xs.length + ys.length < 100000) (hm:m e [.lst (xs.map stX)] = .ok (.d (Z2q ys)) [.lst (xs.map stX)]) :
    Z3b Q5 Z4w (Z3 i) (Z0 m (Z7)) e [.lst (xs.map stX)] = .ok (.d .non) [.lst ((xs++ys).map stX)]:=by
  refine Y1f (Z6 h0) (Z4b (xs:=xs.map stX) rfl) (Z5 hm Y1) ((W7u (xs:=xs.map stX) rfl (by rw [List.length_map,List.length_map,sizeLine_eq]; omega)).trans ?_)
  rw [W17,List.map_append]
  rfl
theorem W5v {xs:List StQ}:OkS [.lst (xs.map stX)]:=by
  show (([O.lst (xs.map stX)]).all fun o=>okO 1 o)=true
  simp only [List.all_cons,List.all_nil,Bool.and_true]
  show (xs.map stX).all (okX 1)=true
  rw [List.all_map]
  exact List.all_eq_true.mpr fun _ _=>rfl
theorem Z58:(Z01 w o b).length ≤ 2:=by
  unfold Z01
  split
  · simp
  · split
    · simp
    · split <;> simp
theorem Y60:(Z99 L r h o).length ≤ 2:=by
  unfold Z99
  split
  · simp
  · rw [List.length_append]
    have h1:(if (r.he && h)=true then (["own"]:List Str) else []).length ≤ 1:=by split <;> simp
    have h2:(if (r.ot && o)=true then (["stranger"]:List Str) else []).length ≤ 1:=by split <;> simp
    omega
def Z24 (t:TQ) (L:List Str) (r:Sp) (o:Bool):List Str:=if (t.bec "carry" r.m).1=t.m0 then (["none"]:List Str) else Z01 r.wh o (lAl L || lNr L)
theorem Y20:(Z24 t L r o).length ≤ 2:=by
  unfold Z24
  split
  · simp
  · exact Z58
def Z7a (t:TQ) (r:Sp) (h o wa we:Bool) (mv one:Str):StQ:=⟨["edition",mv],⟨(t.bec "carry" r.m).1,one,h,o,wa,we⟩,some r,t.rowFor "carry" r.m⟩
theorem X22:Y0s t L r h o wa we=if r.m=t.m0 then [] else (Z99 L r h o).flatMap fun mv=>(Z24 t L r o).map (Z7a t r h o wa we mv):=rfl
theorem Y30:(Y0s t L r h o wa we).length ≤ 4:=by
  rw [X22]
  split
  · simp
  · have:=Z3v (f:=fun mv=>(Z24 t L r o).map (Z7a t r h o wa we mv)) (k:=2) (l:=Z99 L r h o) fun mv _=>by rw [List.length_map]; exact Y20
    have:=Y60 (L:=L) (r:=r) (h:=h) (o:=o)
    omega
def X2e (h o wa we:Bool):D := .tup [.bl h, .bl o, .bl wa, .bl we]
theorem ri0:ixO T (.d (X2e h o wa we)) 0=some (.d (.bl h)):=rfl
theorem ri1:ixO T (.d (X2e h o wa we)) 1=some (.d (.bl o)):=rfl
theorem bi0 {p:Str × Bool}:ixO T (.d (bD p)) 0=some (.d (.str p.1)):=rfl
theorem X6d (hm:r.m ∈ t.marks):g_carry_steps [t.D,Z21 L,spD r,X2e h o wa we] = .ok (Z2q (Y0s t L r h o wa we)):=by
  refine Z00 ?_
  rw [V0i,X22]
  unfold cs
  refine Fw.set (Z7b Y1 (hz4 (by simp))) ?_
  refine Fw.if_ (b:=decide (r.m=t.m0)) (Z0v (X8 (Z3u (Z6 rfl) V9 si0) (U6 (Z6 rfl) Z1z) Y4 Y4 Z28)) (Fw.ifc (fun hb=>?_) fun hb=>?_)
  · rw [if_pos (of_decide_eq_true hb)]
    exact Fw.retP (Z6 rfl) (Z6r (ds:=[]) rfl) rfl
  rw [if_neg (of_decide_eq_false hb)]
  refine Fw.seqNil ?_
  refine Fw.asg (Z1r (ds:=[.str (t.bec "carry" r.m).1,W66 (t.rowFor "carry" r.m)]) (Z5 (Z3u (Z5y (Z6 rfl) rfl (Z5 V9 (Z5 (Z3u (Z6 rfl) V9 si0) Y1)) (W4 rfl (Z49 (Y3z hm)))) V9 bi0) (Z5 (Z5y (Z6 rfl) rfl (Z5 V9 (Z5 (Z3u (Z6 rfl) V9 si0) Y1)) (W4 rfl (Z49 Y8r))) Y1)) rfl (hz4 (by simp))) rfl ?_
  refine Fw.set (Z4h (X8 V9 (Z6 rfl) Y4 Y4 Y3h) (X8 V9 (Z6 rfl) Y4 Y4 Y3h)) ?_
  refine Fw.set (x := .d (.lst ((Z24 t L r o).map D.str))) (S1:=[.lst []]) ?_ ?_
  · unfold Z24
    by_cases c:(t.bec "carry" r.m).1=t.m0
    · rw [if_pos c]
      exact Y6x (Z0v (X8 (Z6 rfl) (U6 (Z6 rfl) Z1z) Y4 Y4 (W4h c))) (Z2l (ds:=[.str "none"]) (Z5 V9 Y1) rfl (hz4 (by simp)))
    · rw [if_neg c]
      exact Y6w (Z0v (X8 (Z6 rfl) (U6 (Z6 rfl) Z1z) Y4 Y4 (X95 c))) (Y7 (Z5 (Z3u (Z6 rfl) V9 si1) (Z5 (Z3u (Z6 rfl) V9 ri1) (Z5 (Z6 rfl) Y1))) (W4 rfl (Z49 Y5t)))
  let E:Option X→Ev:=fun o9=>[some (.d t.D),some (.d (Z21 L)),some (.d (spD r)),some (.d (X2e h o wa we)),some (.r 0),some (.d (.str (t.bec "carry" r.m).1)),some (.d (W66 (t.rowFor "carry" r.m))),some (.d (.bl (lAl L || lNr L))),some (.d (.lst ((Z24 t L r o).map D.str))),o9,none]
  have l1:=Y60 (L:=L) (r:=r) (h:=h) (o:=o)
  have l2:=Y20 (t:=t) (L:=L) (r:=r) (o:=o)
  refine Fw.for_ (l:=Z99 L r h o) (f:=fun mv=>X.d (.str mv)) (lk := .free) (S1:=[.lst []]) (Z10 (Y7 (Z5 (Z6 rfl) (Z5 (Z6 rfl) (Z5 (Z3u (Z6 rfl) V9 ri0) (Z5 (Z3u (Z6 rfl) V9 ri1) Y1)))) (W4 rfl (Z42 X44))) Z9k) (fun l e S=>∃ (pre:List Str) (o9:Option X),Z99 L r h o=pre++l∧e=E o9∧S=[.lst ((pre.flatMap fun mv=>(Z24 t L r o).map (Z7a t r h o wa we mv)).map stX)]) (fun _ _=>False) ⟨[],none,rfl,rfl,rfl⟩ (fun _ _ _ _=>rfl) ?_ ?_
  · rintro mv l e S ⟨pre,o9,hp,rfl,rfl⟩
    refine ⟨E (some (.d (.str mv))),rfl,?_⟩
    have lp:pre.length ≤ 2:=by have:=congrArg List.length hp; rw [List.length_append] at this; omega
    have l3:=Z3v (f:=fun mv=>(Z24 t L r o).map (Z7a t r h o wa we mv)) (k:=2) (l:=pre) fun mv _=>by rw [List.length_map]; exact l2
    unfold V2f
    refine Fw.one (Fw.expr (X1q (xs:=pre.flatMap fun mv=>(Z24 t L r o).map (Z7a t r h o wa we mv)) (ys:=(Z24 t L r o).map (Z7a t r h o wa we mv)) rfl (by rw [List.length_map]; omega) ?_) (Fw.nil (.nx ⟨pre++[mv],_,by rw [hp]; simp,rfl,by rw [List.flatMap_append,List.flatMap_cons,List.flatMap_nil,List.append_nil]⟩)))
    rw [show Z2q ((Z24 t L r o).map (Z7a t r h o wa we mv)) = .lst ((Z24 t L r o).map fun one=>Z3d (Z7a t r h o wa we mv one)) by unfold Z2q; rw [List.map_map]; rfl]
    refine Y1j (fun one=>X.d (.str one)) (fun one=>Z3d (Z7a t r h o wa we mv one)) (l:=Z24 t L r o) (Z10 (Z6 rfl) Z9k) (hz4 (by omega)) fun one _=>⟨_,rfl,?_⟩
    exact Y7 (Z5 (Z1r (ds:=[.str "edition", .str mv]) (Z5 V9 (Z5 (Z6 rfl) Y1)) rfl (hz4 (by simp))) (Z5 (Z1r (ds:=[.str (t.bec "carry" r.m).1, .str one, .bl h, .bl o, .bl wa, .bl we]) (Z5 (Z6 rfl) (Z5 (Z6 rfl) (Z6g (Z6 rfl) rfl Y1))) rfl (hz4 (by simp))) (Z5 (Z6 rfl) (Z5 (Z6 rfl) Y1)))) (W4 rfl (Z7r W5v))
  · intro e S hor
    obtain ⟨pre,o9,hp,rfl,rfl⟩:=hor.resolve_right id
    rw [List.append_nil] at hp
    rw [hp]
    exact Fw.one (Fw.retP (Z6 rfl) (Z6r (ds:=(pre.flatMap fun mv=>(Z24 t L r o).map (Z7a t r h o wa we mv)).map Z3d) (by rw [W17]; rfl)) rfl)
def Z78 (t:TQ) (L:List Str) (s:Sp) (o:Bool):List Str:=if (t.bec (edW (s.he || s.ot)) s.m).1=t.m0 then (["none"]:List Str) else Z01 s.wh o (lAl L || lBk L)
theorem Y4e:(Z78 t L s o).length ≤ 2:=by
  unfold Z78
  split
  · simp
  · exact Z58
def Y1s (s:Sp) (h o:Bool) (one:Str):StQ:=⟨["edition", "stay"],⟨s.m,one,h,o,s.wa || h,s.we || o⟩,none,none⟩
def Y1t (t:TQ) (s:Sp) (h o:Bool) (one:Str):StQ:=⟨["edition",edW (s.he || s.ot)],⟨(t.bec (edW (s.he || s.ot)) s.m).1,one,h,o,s.wa || h,s.we || o⟩,none,t.rowFor (edW (s.he || s.ot)) s.m⟩
def Z77 (s:Sp) (h o:Bool):StQ:=⟨["edition", "come"],⟨s.m, "none",h,o,s.wa || h,s.we || o⟩,none,none⟩
theorem X6s:Y70 t L s Sr h o=if (s.he || s.ot)=(h || o) then (Z01 s.wh o (lAl L || lBk L)).map (Y1s s h o) else if s.m ≠ t.m0 then (Z78 t L s o).map (Y1t t s h o) else Z77 s h o :: (if (h || o)=true then Sr.flatMap fun src=>Y0s t L src h o (s.wa || h) (s.we || o) else []):=rfl
theorem X3c:(Y70 t L s Sr h o).length ≤ 2 + Sr.length * 4:=by
  rw [X6s]
  split
  · rw [List.length_map]
    have:=Z58 (w:=s.wh) (o:=o) (b:=lAl L || lBk L)
    omega
  · split
    · rw [List.length_map]
      have:=Y4e (t:=t) (L:=L) (s:=s) (o:=o)
      omega
    · rw [List.length_cons]
      have:(if (h || o)=true then Sr.flatMap fun src=>Y0s t L src h o (s.wa || h) (s.we || o) else []).length ≤ Sr.length * 4:=by
        split
        · exact Z3v fun a _=>Y30
        · simp
      omega
theorem Y0u:(Z1q t L s Sr).length ≤ 4 * (2 + Sr.length * 4):=by
  unfold Z1q
  refine Z3v (l:=B4) fun p _=>?_
  split
  · exact X3c
  · simp
theorem Z87:(Z1p t L s).length ≤ 2:=by
  unfold Z1p
  rw [List.length_append]
  have h1:(if s.he=true then [given t s ["give", "mine"] "mine"] else if (s.wa && lLt L)=true then [given t s ["give", "mine"] "mine"] else []:List StQ).length ≤ 1:=by
    split
    · simp
    · split <;> simp
  have h2:(if s.ot=true then [given t s ["give", "others"] "theirs"] else if (s.we && lLt L)=true then [given t s ["give", "gone"] "other"] else []:List StQ).length ≤ 1:=by
    split
    · simp
    · split <;> simp
  omega
theorem Z8d:(Z1b t s).length ≤ 2:=by
  unfold Z1b
  rw [List.length_append]
  have h1:(if (!decide (s.m=t.m0) && s.he)=true then [looked t s ["check", "mine"] (decide (s.wh = "mine"))] else []:List StQ).length ≤ 1:=by split <;> simp
  have h2:(if (!decide (s.m=t.m0) && s.ot)=true then [looked t s ["check", "others"] (decide (s.wh = "theirs"))] else []:List StQ).length ≤ 1:=by split <;> simp
  omega
theorem X9f {l:List Sp}:Y1u S (.d (Z6q l))=some (l.map (fun s=>X.d (spD s)), .free):=Z9k
theorem X94 (hm:s.m ∈ t.marks) (hS:∀ r ∈ Sr,r.m ∈ t.marks) (hl:Sr.length ≤ 400):g_editions_to [t.D,Z21 L,spD s,Z6q Sr, .bl h, .bl o] = .ok (Z2q (Y70 t L s Sr h o)):=by
  refine Z00 ?_
  rw [V0t,X6s]
  unfold et
  refine Fw.asg (Z6 rfl) rfl ?_
  refine Fw.par (Z5 (Z4h (Z6 rfl) (Z6 rfl)) (Z5 (Z4h (Z6 rfl) (Z6 rfl)) Y1)) ?_
  refine Fw.set (x := .d (X2e h o (s.wa || h) (s.we || o))) (Z1r (Z5 (Z6 rfl) (Z5 (Z6 rfl) (Z5 (Z4h (Z6 rfl) (Z6 rfl)) (Z5 (Z4h (Z6 rfl) (Z6 rfl)) Y1)))) rfl (hz4 (by simp))) ?_
  refine Fw.set (Z4h (X8 V9 (Z6 rfl) Y4 Y4 Y3h) (X8 V9 (Z6 rfl) Y4 Y4 Y3h)) ?_
  let E0:Option X→Option X→Option X→Option X→Option X→Ev:=fun o17 o18 o19 o20 o22=>[some (.d t.D),some (.d (Z21 L)),some (.d (spD s)),some (.d (Z6q Sr)),some (.d (.bl h)),some (.d (.bl o)),some (.d (.str s.m)),some (.d (.str s.wh)),some (.d (.bl s.he)),some (.d (.bl s.ot)),some (.d (.bl s.wa)),some (.d (.bl s.we)),some (.d (.bl (s.he || s.ot))),some (.d (.bl (h || o))),some (.d (X2e h o (s.wa || h) (s.we || o))),some (.d (.bl (lAl L || lBk L))),none,o17,o18,o19,o20,none,o22]
  show Fw ((_:MS) (E0 none none none none none) []) _
  have hq:∀ {a c:Bool},eqD (.bl a) (.bl c)=some (.bl (decide (a=c))):=fun {a c}=>by cases a <;> cases c <;> rfl
  refine Fw.if_ (b:=decide ((s.he || s.ot)=(h || o))) (Z0v (X8 (Z6 rfl) (Z6 rfl) Y4 Y4 hq)) (Fw.ifc (fun hb=>?_) fun hb=>?_)
  · rw [if_pos (of_decide_eq_true hb)]
    refine Fw.seqSeq ?_
    refine Fw.set (Y7 (Z5 (Z6 rfl) (Z5 (Z6 rfl) (Z5 (Z6 rfl) Y1))) (W4 rfl (Z49 Y5t))) ?_
    show Fw ((_:MS) (E0 (some (.d (.lst ((Z01 s.wh o (lAl L || lBk L)).map D.str)))) none none none none) []) _
    refine Fw.retP (x := .d (Z2q ((Z01 s.wh o (lAl L || lBk L)).map (Y1s s h o)))) (S1:=[]) ?_ Y4 rfl
    rw [show Z2q ((Z01 s.wh o (lAl L || lBk L)).map (Y1s s h o)) = .lst ((Z01 s.wh o (lAl L || lBk L)).map fun one=>Z3d (Y1s s h o one)) by unfold Z2q; rw [List.map_map]; rfl]
    refine Y1j (fun one=>X.d (.str one)) (fun one=>Z3d (Y1s s h o one)) (Z10 (Z6 rfl) Z9k) (hz4 (by have:=Z58 (w:=s.wh) (o:=o) (b:=lAl L || lBk L); omega)) fun one _=>⟨E0 (some (.d (.lst ((Z01 s.wh o (lAl L || lBk L)).map D.str)))) none none none (some (.d (.str one))),rfl,?_⟩
    exact Y7 (Z5 Z79 (Z5 (Z1r (ds:=[.str s.m, .str one, .bl h, .bl o, .bl (s.wa || h), .bl (s.we || o)]) (Z5 (Z6 rfl) (Z5 (Z6 rfl) (Z6g (Z6 rfl) rfl Y1))) rfl (hz4 (by simp))) (Z5 V9 (Z5 V9 Y1)))) (W4 rfl (Z7r Y0z))
  rw [if_neg (of_decide_eq_false hb)]
  refine Fw.seqNil ?_
  refine Fw.if_ (b := !decide (s.m=t.m0)) (Z0v (X8 (Z6 rfl) (U6 (Z6 rfl) Z1z) Y4 Y4 Z7d)) (Fw.ifc (fun hc=>?_) fun hc=>?_)
  · rw [if_pos (by simpa using hc)]
    refine Fw.seqSeq ?_
    refine Fw.set (x := .d (.str (edW (s.he || s.ot)))) (X6y (W1 (Z6 rfl) rfl) V9 V9) ?_
    refine Fw.seqSeq ?_
    refine Fw.set (Z3u (Z5y (Z6 rfl) rfl (Z5 (Z6 rfl) (Z5 (Z6 rfl) Y1)) (W4 rfl (Z49 (Y3z hm)))) V9 bi0) ?_
    refine Fw.seqSeq ?_
    refine Fw.set (x := .d (.lst ((Z78 t L s o).map D.str))) (S1:=[]) ?_ ?_
    · unfold Z78
      by_cases c:(t.bec (edW (s.he || s.ot)) s.m).1=t.m0
      · rw [if_pos c]
        exact Y6x (Z0v (X8 (Z6 rfl) (U6 (Z6 rfl) Z1z) Y4 Y4 (W4h c))) (Z2l (ds:=[.str "none"]) (Z5 V9 Y1) rfl (hz4 (by simp)))
      · rw [if_neg c]
        exact Y6w (Z0v (X8 (Z6 rfl) (U6 (Z6 rfl) Z1z) Y4 Y4 (X95 c))) (Y7 (Z5 (Z6 rfl) (Z5 (Z6 rfl) (Z5 (Z6 rfl) Y1))) (W4 rfl (Z49 Y5t)))
    refine Fw.seqSeq ?_
    refine Fw.set (Z5y (Z6 rfl) rfl (Z5 (Z6 rfl) (Z5 (Z6 rfl) Y1)) (W4 rfl (Z49 Y8r))) ?_
    let o17:Option X:=some (.d (.lst ((Z78 t L s o).map D.str)))
    let o18:Option X:=some (.d (.str (edW (s.he || s.ot))))
    let o19:Option X:=some (.d (.str (t.bec (edW (s.he || s.ot)) s.m).1))
    let o20:Option X:=some (.d (W66 (t.rowFor (edW (s.he || s.ot)) s.m)))
    show Fw ((_:MS) (E0 o17 o18 o19 o20 none) []) _
    refine Fw.retP (x := .d (Z2q ((Z78 t L s o).map (Y1t t s h o)))) (S1:=[]) ?_ Y4 rfl
    rw [show Z2q ((Z78 t L s o).map (Y1t t s h o)) = .lst ((Z78 t L s o).map fun one=>Z3d (Y1t t s h o one)) by unfold Z2q; rw [List.map_map]; rfl]
    refine Y1j (fun one=>X.d (.str one)) (fun one=>Z3d (Y1t t s h o one)) (Z10 (Z6 rfl) Z9k) (hz4 (by have:=Y4e (t:=t) (L:=L) (s:=s) (o:=o); omega)) fun one _=>⟨E0 o17 o18 o19 o20 (some (.d (.str one))),rfl,?_⟩
    exact Y7 (Z5 (Z1r (ds:=[.str "edition", .str (edW (s.he || s.ot))]) (Z5 V9 (Z5 (Z6 rfl) Y1)) rfl (hz4 (by simp))) (Z5 (Z1r (ds:=[.str (t.bec (edW (s.he || s.ot)) s.m).1, .str one, .bl h, .bl o, .bl (s.wa || h), .bl (s.we || o)]) (Z5 (Z6 rfl) (Z5 (Z6 rfl) (Z6g (Z6 rfl) rfl Y1))) rfl (hz4 (by simp))) (Z5 V9 (Z5 (Z6 rfl) Y1)))) (W4 rfl (Z7r Y0z))
  rw [if_neg (by simpa using hc)]
  refine Fw.seqNil ?_
  show Fw ((_:MS) (E0 none none none none none) []) _
  refine Fw.set (x := .r 0) (S1:=[.lst ([Z77 s h o].map stX)]) (Z7b (S1:=[]) (Z5 (Y7 (Z5 Z79 (Z5 (Z1r (ds:=[.str s.m, .str "none", .bl h, .bl o, .bl (s.wa || h), .bl (s.we || o)]) (Z5 (Z6 rfl) (Z5 V9 (Z6g (Z6 rfl) rfl Y1))) rfl (hz4 (by simp))) (Z5 V9 (Z5 V9 Y1)))) (W4 rfl (Z7r Y0z))) Y1) (hz4 (by simp))) ?_
  let E:Option X→Ev:=fun o21=>[some (.d t.D),some (.d (Z21 L)),some (.d (spD s)),some (.d (Z6q Sr)),some (.d (.bl h)),some (.d (.bl o)),some (.d (.str s.m)),some (.d (.str s.wh)),some (.d (.bl s.he)),some (.d (.bl s.ot)),some (.d (.bl s.wa)),some (.d (.bl s.we)),some (.d (.bl (s.he || s.ot))),some (.d (.bl (h || o))),some (.d (X2e h o (s.wa || h) (s.we || o))),some (.d (.bl (lAl L || lBk L))),some (.r 0),none,none,none,none,o21,none]
  refine Fw.if_ (b:=h || o) (W1 (Z6 rfl) rfl) (Fw.ifc (fun hd=>?_) fun hd=>?_)
  · rw [if_pos hd]
    let F:Sp→List StQ:=fun src=>Y0s t L src h o (s.wa || h) (s.we || o)
    refine Fw.for_ (l:=Sr) (f:=fun r=>X.d (spD r)) (lk := .free) (S1:=[.lst ([Z77 s h o].map stX)]) (Z10 (Z6 rfl) X9f) (fun l e S=>∃ (pre:List Sp) (o21:Option X),Sr=pre++l∧e=E o21∧S=[.lst ((Z77 s h o :: pre.flatMap F).map stX)]) (fun _ _=>False) ⟨[],none,rfl,rfl,rfl⟩ (fun _ _ _ _=>rfl) ?_ ?_
    · rintro r l e S ⟨pre,o21,hp,rfl,rfl⟩
      refine ⟨E (some (.d (spD r))),rfl,?_⟩
      have lp:pre.length ≤ 400:=by have:=congrArg List.length hp; rw [List.length_append] at this; omega
      have l3:=Z3v (f:=F) (k:=4) (l:=pre) fun r _=>Y30
      have l4:(F r).length ≤ 4:=Y30
      have hr:r.m ∈ t.marks:=hS r (by rw [hp]; simp)
      unfold V2g
      refine Fw.one (Fw.expr (X1q (xs:=Z77 s h o :: pre.flatMap F) (ys:=F r) rfl (by rw [List.length_cons]; omega) (Y7 (Z5 (Z6 rfl) (Z5 (Z6 rfl) (Z5 (Z6 rfl) (Z5 (Z6 rfl) Y1)))) (W4 rfl (Z42 (X6d hr))))) (Fw.nil (.nx ⟨pre++[r],_,by rw [hp]; simp,rfl,by rw [List.flatMap_append,List.flatMap_cons,List.flatMap_nil,List.append_nil,List.cons_append]⟩)))
    · intro e S hor
      obtain ⟨pre,o21,hp,rfl,rfl⟩:=hor.resolve_right id
      rw [List.append_nil] at hp
      rw [hp]
      exact Fw.one (Fw.retP (Z6 rfl) (Z6r (ds:=(Z77 s h o :: pre.flatMap F).map Z3d) (by rw [W17]; rfl)) rfl)
  · rw [if_neg (nt hd)]
    exact Fw.seqNil (Fw.one (Fw.retP (Z6 rfl) (Z6r (ds:=[Z77 s h o].map Z3d) rfl) rfl))
def edF (t:TQ) (L:List Str) (s:Sp) (Sr:List Sp) (p:Bool × Bool):List StQ:=if X1u L s p.1 p.2=true then Y70 t L s Sr p.1 p.2 else []
theorem Y4d (hm:s.m ∈ t.marks) (hS:∀ r ∈ Sr,r.m ∈ t.marks) (hl:Sr.length ≤ 400):g_edition_steps [t.D,Z21 L,spD s,Z6q Sr] = .ok (Z2q (Z1q t L s Sr)):=by
  refine Z00 ?_
  rw [V0s]
  unfold es
  refine Fw.set (Z7b Y1 (hz4 (by simp))) ?_
  let F:=edF t L s Sr
  have hF:∀ p,(F p).length ≤ 2 + 400 * 4:=fun p=>by
    show (if _ then _ else _:List StQ).length ≤ _
    split
    · exact Nat.le_trans X3c (by omega)
    · simp
  let E:Option X→Option X→Ev:=fun o5 o6=>[some (.d t.D),some (.d (Z21 L)),some (.d (spD s)),some (.d (Z6q Sr)),some (.r 0),o5,o6]
  have inner:∀ (a:Bool) (acc:List StQ) (o6:Option X),acc.length ≤ 10000→Fw (V0r (E (some (.d (.bl a))) o6) [.lst (acc.map stX)]) (fun r=>∃ o6,r = .go (.nx (E (some (.d (.bl a))) o6)) [.lst ((acc++(F (a,false)++F (a,true))).map stX)]):=fun a acc o6 hacc=>by
    unfold V0r
    refine Fw.one (Fw.for_ (l:=[false,true]) (f:=fun c=>X.d (.bl c)) (lk := .free) (S1:=[.lst (acc.map stX)]) (Z10 (Z1r (ds:=[.bl false, .bl true]) (Z5 V9 (Z5 V9 Y1)) rfl (hz4 (by simp))) rfl) (fun l e S=>∃ (pre:List Bool) (o6:Option X),[false,true]=pre++l∧e=E (some (.d (.bl a))) o6∧S=[.lst ((acc++pre.flatMap fun c=>F (a,c)).map stX)]) (fun _ _=>False) ⟨[],o6,rfl,rfl,by simp⟩ (fun _ _ _ _=>rfl) ?_ ?_)
    · rintro c l e S ⟨pre,o6,hp,rfl,rfl⟩
      refine ⟨E (some (.d (.bl a))) (some (.d (.bl c))),rfl,?_⟩
      have lp:pre.length ≤ 2:=by have:=congrArg List.length hp; rw [List.length_append] at this; simp at this; omega
      have l3:=Z3v (f:=fun c=>F (a,c)) (k:=2 + 400 * 4) (l:=pre) fun c _=>hF (a,c)
      have l4:=hF (a,c)
      have hnx:∀ {S2:Sto},S2=[O.lst ((acc++(pre++[c]).flatMap fun c=>F (a,c)).map stX)]→Trn (fun e S=>∃ (pre:List Bool) (o6:Option X),[false,true]=pre++l∧e=E (some (.d (.bl a))) o6∧S=[O.lst ((acc++pre.flatMap fun c=>F (a,c)).map stX)]) (fun _ _=>False) (fun r=>∃ o6,r = .go (.nx (E (some (.d (.bl a))) o6)) [.lst ((acc++(F (a,false)++F (a,true))).map stX)]) (.go (.nx (E (some (.d (.bl a))) (some (.d (.bl c))))) S2):=fun hS2 => .nx ⟨pre++[c],_,by rw [hp]; simp,rfl,hS2⟩
      unfold W2j
      refine Fw.one (Fw.if_ (b:=X1u L s a c) (W1 (Y7 (Z5 (Z6 rfl) (Z5 (Z6 rfl) (Z5 (Z6 rfl) (Z5 (Z6 rfl) Y1)))) (W4 rfl (Z42 X4x))) rfl) (Fw.ifc (fun hb=>?_) fun hb=>?_))
      · have e1:F (a,c)=Y70 t L s Sr a c:=if_pos hb
        refine Fw.expr (X1q (xs:=acc++pre.flatMap fun c=>F (a,c)) (ys:=Y70 t L s Sr a c) rfl (by rw [List.length_append,← e1]; omega) (Y7 (Z5 (Z6 rfl) (Z5 (Z6 rfl) (Z5 (Z6 rfl) (Z5 (Z6 rfl) (Z5 (Z6 rfl) (Z5 (Z6 rfl) Y1)))))) (W4 rfl (V0u (X94 hm hS hl))))) (Fw.nil (hnx ?_))
        rw [List.flatMap_append,List.flatMap_cons,List.flatMap_nil,List.append_nil,← List.append_assoc,e1]
      · have e1:F (a,c)=[]:=if_neg (nt hb)
        refine Fw.seqNil (Fw.nil (hnx ?_))
        rw [List.flatMap_append,List.flatMap_cons,List.flatMap_nil,List.append_nil,← List.append_assoc,e1,List.append_nil]
    · intro e S hor
      obtain ⟨pre,o6,hp,rfl,rfl⟩:=hor.resolve_right id
      rw [List.append_nil] at hp
      subst hp
      exact Fw.nil ⟨o6,by simp⟩
  have hA:=hF (false,false); have hB:=hF (false,true); have hC:=hF (true,false); have hD:=hF (true,true)
  refine Fw.for_ (l:=[false,true]) (f:=fun c=>X.d (.bl c)) (lk := .free) (S1:=[.lst []]) (Z10 (Z1r (ds:=[.bl false, .bl true]) (Z5 V9 (Z5 V9 Y1)) rfl (hz4 (by simp))) rfl) (fun l e S=>∃ (pre:List Bool) (o5 o6:Option X),[false,true]=pre++l∧e=E o5 o6∧S=[.lst ((pre.flatMap fun a=>F (a,false)++F (a,true)).map stX)]) (fun _ _=>False) ⟨[],none,none,rfl,rfl,rfl⟩ (fun _ _ _ _=>rfl) ?_ ?_
  · rintro a l e S ⟨pre,o5,o6,hp,rfl,rfl⟩
    refine ⟨E (some (.d (.bl a))) o6,rfl,?_⟩
    have lp:pre.length ≤ 2:=by have:=congrArg List.length hp; rw [List.length_append] at this; simp at this; omega
    have l3:=Z3v (f:=fun a=>F (a,false)++F (a,true)) (k:=4000) (l:=pre) fun c _=>by
      have h1:=hF (c,false); have h2:=hF (c,true)
      rw [List.length_append]; omega
    refine (inner a (pre.flatMap fun a=>F (a,false)++F (a,true)) o6 (by omega)).mono ?_
    rintro r ⟨o6,rfl⟩
    refine .nx ⟨pre++[a],_,o6,by rw [hp]; simp,rfl,?_⟩
    rw [List.flatMap_append,List.flatMap_cons,List.flatMap_nil,List.append_nil]
  · intro e S hor
    obtain ⟨pre,o5,o6,hp,rfl,rfl⟩:=hor.resolve_right id
    rw [List.append_nil] at hp
    subst hp
    have e1:([false,true].flatMap fun a=>F (a,false)++F (a,true))=Z1q t L s Sr:=by
      show F (false,false)++F (false,true)++(F (true,false)++F (true,true)++[])=F (false,false)++(F (false,true)++(F (true,false)++(F (true,true)++[])))
      simp
    rw [e1]
    exact Fw.one (Fw.retP (Z6 rfl) (Z6r (ds:=(Z1q t L s Sr).map Z3d) (by rw [W17]; rfl)) rfl)
theorem X50 (hm:s.m ∈ t.marks) (hS:∀ r ∈ Sr,r.m ∈ t.marks) (hl:Sr.length ≤ 400):g_all_steps [t.D,Z21 L,spD s,Z6q Sr] = .ok (Z2q (U4 t L s Sr)):=by
  refine Z00 ?_
  unfold Y0k
  have l1:=Z87 (t:=t) (L:=L) (s:=s)
  have l2:=Z8d (t:=t) (s:=s)
  have l3:=Y0u (t:=t) (L:=L) (s:=s) (Sr:=Sr)
  refine Fw.one (Fw.retP (x := .d (Z2q (U4 t L s Sr))) (Z2l (ds:=(U4 t L s Sr).map Z3d) (Z6g (Y7 (Z5 (Z6 rfl) (Z5 (Z6 rfl) (Z5 (Z6 rfl) Y1))) (W4 rfl (Z49 (Y28 hm)))) rfl (Z6g (Y7 (Z5 (Z6 rfl) (Z5 (Z6 rfl) Y1)) (W4 rfl (Y9f (Y9p hm)))) rfl (Z6g (Y7 (Z5 (Z6 rfl) (Z5 (Z6 rfl) (Z5 (Z6 rfl) (Z5 (Z6 rfl) Y1)))) (W4 rfl (Z42 (Y4d hm hS hl)))) rfl Y1))) ?_ ?_) Y4 rfl)
  · rw [List.append_nil,← List.map_append,← List.map_append,← List.map_append,← List.map_append]
    exact Y50 _
  · unfold U4
    rw [List.length_map,List.length_append,List.length_append,sizeLine_eq]
    omega
end
end Lw
namespace Lw
open PySem PySem.Spec L2 Bv
open PyProof.Rows hiding St
variable [HasW]
def blN (b:Bool):Int:=if b=true then 1 else 0
def spK (s:Sp):List Leaf:=[.text s.m, .text s.wh, .num (blN s.he), .num (blN s.ot), .num (blN s.wa), .num (blN s.we)]
theorem X2n {s:Sp}:(spD s).tkey?=some (spK s):=rfl
theorem Y7x {a b:Bool} (h:blN a=blN b):a=b:=by cases a <;> cases b <;> first | rfl | cases h
theorem W58 {s r:Sp} (h:spK s=spK r):s=r:=by
  unfold spK at h
  simp only [List.cons.injEq,Leaf.text.injEq,Leaf.num.injEq,and_true] at h
  obtain ⟨a,b,c,d,e,f⟩:=h
  cases s; cases r
  simp only [Sp.mk.injEq]
  exact ⟨a,b,Y7x c,Y7x d,Y7x e,Y7x f⟩
section
variable {α:Type} {k:α→Sp} {v:α→X} {y:Sp}
theorem X8u {r:Sp}:decide ((spD r).tkey?=some (spK y))=decide (r=y):=by
  rw [X2n,Bool.eq_iff_iff]
  simp only [decide_eq_true_eq,Option.some.injEq]
  exact ⟨W58,fun e=>by rw [e]⟩
theorem X7i {l:List α}:(Z7c (l.map fun a=>(spD (k a),v a)) (spK y)).isSome=decide (y ∈ l.map k):=by
  unfold Z7c
  rw [Option.isSome_map]
  induction l with
  | nil=>rfl
  | cons a l ih =>
    rw [List.map_cons,List.find?_cons,X8u,List.map_cons]
    by_cases c:k a=y
    · rw [decide_eq_true c]; simp [c]
    · rw [decide_eq_false c]
      show (List.find? (fun p=>decide (p.1.tkey?=some (spK y))) (l.map fun a=>(spD (k a),v a))).isSome=_
      rw [ih,Bool.eq_iff_iff]
      simp only [decide_eq_true_eq,List.mem_cons]
      exact ⟨.inr,fun h=>h.resolve_left fun e=>c e.symm⟩
theorem W3d {l:List α} {x:X} (h:y ∉ l.map k):Y6c (l.map fun a=>(spD (k a),v a)) (spD y) (spK y) x=(l.map fun a=>(spD (k a),v a))++[(spD y,x)]:=by
  unfold Y6c
  rw [if_neg]
  intro z
  obtain ⟨p,hp,e⟩:=List.any_eq_true.mp z
  obtain ⟨a,ha,rfl⟩:=List.mem_map.mp hp
  rw [X8u] at e
  exact h (List.mem_map.mpr ⟨a,ha,of_decide_eq_true e⟩)
end
def spX (s:Sp):X := .d (spD s)
theorem W14 {l:List Sp}:l.map spX=(l.map spD).map X.d:=by
  rw [List.map_map]
  rfl
section
variable {T:Sto} {x:StQ}
theorem Z7i {T:Sto}:Z3j ["Step"] "later" T (.d (Z3d x))=some (.d (spD x.later)):=rfl
end
end Lw
namespace Lw
open PySem PySem.Spec L2 Bv
open PyProof.Rows hiding St
variable [HasW]
def Y01:List Str:=["again", "fallen", "lost", "strange", "stuck", "vain"]
def X1a:List Str:=["alike", "back", "late", "near"]
def sqD (b:Bool) (ds:List D):D:=if b=true then .lst ds else .tup ds
def Z43 (L:List Str):List Str:=X1a.filter fun x=>decide (x ∈ L)
theorem Y4z {L:List Str} (h:∀ x ∈ L,x ∈ X1a) {x:Str}:x ∈ Z43 L ↔ x ∈ L:=by
  unfold Z43
  rw [List.mem_filter,decide_eq_true_eq]
  exact ⟨fun z=>z.2,fun z=>⟨h x z,z⟩⟩
section
variable {T:Sto} {b:Bool} {ds:List D} {ss:List Str}
theorem W6b:Y1u T (.d (sqD b ds))=some (ds.map X.d, .free):=by cases b <;> rfl
theorem V13 {w:Str}:inD (.str w) (sqD b (ss.map D.str))=some (.bl (decide (w ∈ ss))):=by cases b <;> first | exact Z8p | exact W2r
theorem W9h:Z3i [.d (sqD b ds)] T = .ok (.d (.int ds.length)) T:=by cases b <;> first | exact W44 | exact W78
theorem W9i:g_is_sequence [sqD b ds] = .ok (.bl true):=by cases b <;> rfl
theorem X8x (hl:ss.length < 1000):Y1h [.d (sqD b (ss.map D.str))] T = .ok (.d (.int (Z7s ss).length)) T:=by
  have hb:ss.length + 1 < scanBound:=by
    have:(1001:Nat) ≤ scanBound:=by decide
    omega
  have hi:items T (.d (sqD b (ss.map D.str)))=some ((ss.map D.str).map X.d):=by cases b <;> rfl
  show (match (items T (.d (sqD b (ss.map D.str)))).bind Bv.strs? with
    | some xs=>if decide (xs.length + 1 < scanBound) then R.ok (X.d (.int (Z7s xs).length)) T else .bad
    | none => .bad)=_
  rw [hi,Option.bind_some,W3i]
  show (if decide (ss.length + 1 < scanBound) then R.ok (X.d (.int (Z7s ss).length)) T else .bad)=_
  rw [if_pos (decide_eq_true hb)]
theorem X8y (h:ss.Nodup) (hl:ss.length < 1000):g_are_unlike [sqD b (ss.map D.str)] = .ok (.bl true):=by
  refine Z00 ?_
  unfold Z5m
  have hs:Y1m (Z3 0) (ev0 1 ([sqD b (ss.map D.str)].map X.d)) [] = .ok (.d (.int ss.length)) []:=by
    show Y1h [.d (sqD b (ss.map D.str))] []=_
    rw [X8x hl,Y2t h]
  exact Fw.one (Fw.retP (X8 hs (Y7 (Z5 (Z6 rfl) Y1) W9h) Y4 Y4 (V0q (by rw [List.length_map]))) Y4 rfl)
theorem W4x {w:Str}:isX (Z7f "str") [("Row",false),("Tool",false)] T (.d (.str w))=some true:=by
  show (Z7f "str").lookup "str" = some true
  decide +kernel
theorem X9h {w:Str}:g_is_word [.str w,Z21 ss] = .ok (.bl (decide (w ∈ ss))):=by
  refine Z00 ?_
  unfold Y3y
  exact Fw.one (Fw.retP (Y71 (Y4h (Z6 rfl) W4x) rfl (X8 (Z6 rfl) (Z6 rfl) Y4 Y4 Z8p)) Y4 rfl)
theorem Z8g (hn:ss.Nodup) (hL:∀ x ∈ ss,x ∈ X1a):g_need_lets [sqD b (ss.map D.str)] = .ok (Z21 (Z43 ss)):=by
  have hl:ss.length ≤ 4:=hn.length_le_of_subset (l₂:=X1a) hL
  refine Z00 ?_
  unfold Y0o
  have e1:Z4p (.nm 1) (Q9 (Z3 0)) (Z0n) (Y0 (Y9 2 (X5 [] (callP g_is_word))) (Z0 (Z3 1) (Z0 (m_c (.tup ((["alike", "back", "late", "near"]:List Str).map D.str))) (Z7)))) [1] (ev0 2 ([sqD b (ss.map D.str)].map X.d)) [] = .ok (.d (.lst ((ss.map fun _=>true).map D.bl))) []:=by
    rw [List.map_map]
    refine Y1j (fun s=>X.d (.str s)) (fun _=>D.bl true) (l:=ss) (Z10 (Z6 rfl) (W6b.trans (by rw [List.map_map]; rfl))) (hz4 (by omega)) fun s hs=>⟨_,rfl,?_⟩
    exact Y7 (Z5 (Z6 rfl) (Z5 V9 Y1)) (W4 rfl (Y9f ((X9h (ss:=X1a)).trans (by rw [decide_eq_true (hL s hs)]))))
  have e2:(ss.map fun _=>true).all id=true:=by simp
  refine Fw.if_ (b:=false) (Z34 (Z3a (W1 (Y7 (Z5 (Z6 rfl) Y1) (W4 rfl (Y3g W9i))) rfl)) (Z34 (Z3a (W1 (Y7 (Z5 e1 Y1) (W31.trans (by rw [e2]))) rfl)) (Z3a (W1 (Y7 (Z5 (Z6 rfl) Y1) (W4 rfl (Y3g (X8y hn (by omega))))) rfl)))) (Fw.iff (Fw.seqNil ?_))
  refine Fw.one (Fw.retP (S1:=[]) (Y7 (Z5 (x := .d (.lst ((Z43 ss).map D.str))) ?_ Y1) W6y) Y4 rfl)
  exact Y4n (fun s=>X.d (.str s)) D.str (fun s=>decide (s ∈ ss)) (l:=X1a) (Z10 V9 Y00) (hz4 (by simp [X1a])) fun s _=>⟨_,rfl,Z0v (X8 (Z6 rfl) (Z6 rfl) Y4 Y4 V13),fun _=>Z6 rfl⟩
end
section
variable {t:TQ} {L L2:List Str}
theorem X4z (h:∀ x,x ∈ L ↔ x ∈ L2) (s:Sp) (S:List Sp):U4 t L s S=U4 t L2 s S:=by
  have h1:lAl L=lAl L2:=by rw [Bool.eq_iff_iff]; simpa using h _
  have h2:lBk L=lBk L2:=by rw [Bool.eq_iff_iff]; simpa using h _
  have h3:lLt L=lLt L2:=by rw [Bool.eq_iff_iff]; simpa using h _
  have h4:lNr L=lNr L2:=by rw [Bool.eq_iff_iff]; simpa using h _
  unfold U4 Z1p Z1q Y70 X1u Y0s Z99
  rw [h1,h2,h3,h4]
theorem Y2f (h:∀ x,x ∈ L ↔ x ∈ L2) {s:Sp} (hr:Rc t L s):Rc t L2 s:=by
  induction hr with
  | beg=>exact .beg
  | st a b c i1 i2=>exact .st i1 (by unfold Stp at b ⊢; rw [← X4z h]; exact b) i2
end
end Lw
namespace Lw
open PySem PySem.Spec L2 Bv
open PyProof.Rows hiding St
variable [HasW]
section
variable {T:Sto} {b:Bool} {ds:List D} {ss:List Str}
theorem Y0a {f:Str} (h:f ∈ Y01):g_need_fault [.str f] = .ok .non:=by
  refine Z00 ?_
  unfold Z82
  exact Fw.one (Fw.if_ (b:=false) (Z3a (W1 (Y7 (Z5 (Z6 rfl) (Z5 V9 Y1)) (W4 rfl (Y9f (d := .bl true) ((X9h (ss:=Y01)).trans (by rw [decide_eq_true h]))))) rfl)) (Fw.iff (Fw.seqNil (Fw.nil rfl))))
end
end Lw
namespace Lw
open PySem PySem.Spec L2 Bv
open PyProof.Rows hiding St
variable [HasW]
def W2p:MS:=(Y2 (V6 10 (V8 (X4 ["Step"] "later" (Z3 9)) Z5n (Q4 (m_c (.int 2))))) (Z0k (Z0d (Y2i true (Z3 10) (Z3 3))) (Y2 (Y5c (Z3 3) (Z3 10) (m_c (.bl true))) (U1 (Z3b Q5 Q0 (Z3 4) (Z0 (Z3 10) Z7)))) W7))
def V2k:MS:=(Y2 (Z14 (.tp [(.nm 5),(.nm 6)]) (Z3b Q5 Z8n (Z3 4) Z7)) (Y2 (Z0k (Y6 (Y0 (Y9 3 (X5 [] (callP g_shows_own))) (Z0 (Z3 0) (Z0 (Z3 5) (Z0 (Z3 6) Z7))))) (X6 (m_c (.bl false))) W7) (Y2 (V6 7 (V4 (Z0 (Z3 5) (Z0 (Z3 6) (Z0 (m_c (.bl true)) (Z0 (m_c (.bl false)) (Z0 (m_c (.bl true)) (Z0 (m_c (.bl false)) Z7)))))))) (Y2 (V6 8 (Q8 (Z0 (Y0 (Y9 4 (X5 [] (callP g_given_step))) (Z0 (Z3 0) (Z0 (Z3 7) (Z0 (V4 Z7) (Z0 (m_c (.str "mine")) Z7))))) Z7))) (Y2 (Z0k (Z0d (Y5 neD (Z3 5) (X4 ["Tool"] "blank" (Z3 0)))) (U1 (Z3b Q5 Q0 (Z3 8) (Z0 (Y0 (Y9 4 (X5 [] (callP g_looked_step))) (Z0 (Z3 0) (Z0 (Z3 7) (Z0 (V4 Z7) (Z0 (Y5 eqD (Z3 6) (m_c (.str "mine"))) Z7))))) Z7))) W7) (Z2o (.nm 9) (Q9 (Z3 8)) W2p))))))
def ik:MS:=(Y2 (Z2j 3 4 (Z0 (Y4q (V4 (Z0 (Z3 1) (Z0 (Z3 2) Z7))) (m_c (.bl true))) (Z0 (Q8 (Z0 (V4 (Z0 (Z3 1) (Z0 (Z3 2) Z7))) Z7)) Z7))) (Y2 (Z7e (Z0d (Y5 gtD (Y0 Z3i (Z0 (Z3 4) (Z7))) (m_c (.int 0)))) V2k) (X6 (m_c (.bl true)))))
theorem V04:Y16=ik:=by kernel_rfl
def V2l:MS:=(Y2 (Z0k (Z0i (Y6 (Y0 (Y9 3 (X5 [] (callP g_shows_fault))) (Z0 (Z3 0) (Z0 (Z3 2) (Z0 (Z3 4) Z7))))) (Z0d (Y5 gtD (Y0 Z3i (Z0 (Y0 (Y9 4 (X5 [] (callP g_steps_to_fault))) (Z0 (Z3 0) (Z0 (Z3 1) (Z0 (Z3 2) (Z0 (Z3 4) Z7))))) Z7)) (m_c (.int 0))))) (X6 (m_c (.bl true))) W7) (Z0k (Q3 (Z0d (Y5 eqD (Z3 2) (m_c (.str "lost")))) (Y6 (Y0 (Y9 3 (X5 [] (callP g_is_lost_from))) (Z0 (Z3 0) (Z0 (Z3 1) (Z0 (Z3 4) Z7)))))) (X6 (m_c (.bl true))) W7))
def im:MS:=(Y2 (Z2o (.nm 4) (Q9 (Z3 3)) V2l) (X6 (m_c (.bl false))))
theorem V05:Y7v=im:=by kernel_rfl
section
variable {t:TQ} {m w:Str} {T:Sto}
theorem Y5k:g_shows_own [t.D, .str m, .str w] = .ok (.bl (Z18 t m w)):=by
  refine Z00 ?_
  unfold Y0p
  exact Fw.one (Fw.retP (Y1e (X8 (Z6 rfl) (U6 (Z6 rfl) Y83) Y4 Y4 Z8p) (X8 (Z6 rfl) V9 Y4 Y4 Z28)) Y4 rfl)
end
def p2D (p:Str × Str):D := .tup [.str p.1, .str p.2]
def p2K (p:Str × Str):List Leaf:=[.text p.1, .text p.2]
section
variable {α:Type} {k:α→Str × Str} {v:α→X} {y:Str × Str}
theorem W28 {r:Str × Str}:decide ((p2D r).tkey?=some (p2K y))=decide (r=y):=by
  obtain ⟨a,b⟩:=r
  obtain ⟨c,d⟩:=y
  rw [show (p2D (a,b)).tkey?=some [.text a, .text b] from rfl]
  unfold p2K
  simp
theorem W47 {l:List α}:(Z7c (l.map fun a=>(p2D (k a),v a)) (p2K y)).isSome=decide (y ∈ l.map k):=by
  unfold Z7c
  rw [Option.isSome_map]
  induction l with
  | nil=>rfl
  | cons a l ih =>
    rw [List.map_cons,List.find?_cons,W28,List.map_cons]
    by_cases c:k a=y
    · rw [decide_eq_true c]; simp [c]
    · rw [decide_eq_false c]
      show (List.find? (fun p=>decide (p.1.tkey?=some (p2K y))) (l.map fun a=>(p2D (k a),v a))).isSome=_
      rw [ih,Bool.eq_iff_iff]
      simp only [decide_eq_true_eq,List.mem_cons]
      exact ⟨.inr,fun h=>h.resolve_left fun e=>c e.symm⟩
theorem W85 {l:List α} {x:X} (h:y ∉ l.map k):Y6c (l.map fun a=>(p2D (k a),v a)) (p2D y) (p2K y) x=(l.map fun a=>(p2D (k a),v a))++[(p2D y,x)]:=by
  unfold Y6c
  rw [if_neg]
  intro z
  obtain ⟨p,hp,e⟩:=List.any_eq_true.mp z
  obtain ⟨a,ha,rfl⟩:=List.mem_map.mp hp
  rw [W28] at e
  exact h (List.mem_map.mpr ⟨a,ha,of_decide_eq_true e⟩)
end
section
variable {t:TQ} {L:List Str} {s r:Sp} {x:StQ} {T S:Sto} {m w f:Str} {b:Bool} {N W:List (Str × Str)}
def knX (p:Str × Str):D × X:=(p2D p, .d (.bl true))
def wtX (p:Str × Str):X := .d (p2D p)
def Z20 (N W:List (Str × Str)) (J:Sto):Sto := .tdc (N.map knX) :: .lst (W.map wtX) :: J
theorem W82 {p:Str × Str} {J:Sto}:Z8n (.r 1) [] (Z20 N (W++[p]) J) = .ok (.d (p2D p)) (Z20 N W J):=by
  have h1:Z25 (Z20 N (W++[p]) J) (.r 1)=some (1,(W++[p]).map wtX):=rfl
  have h2:((W++[p]).map wtX)[((W++[p]).map wtX).length - 1]?=some (wtX p):=by simp
  unfold Z8n
  simp only [h1,h2]
  show R.ok (wtX p) ((Z20 N (W++[p]) J).set 1 (.lst ((W++[p]).map wtX).dropLast))=_
  rw [show ((W++[p]).map wtX).dropLast=W.map wtX by simp]
  rfl
def evK (t:TQ) (m w:Str) (o5 o6 o7 o8 o9 o10:Option X):Ev:=[some (.d t.D),some (.d (.str m)),some (.d (.str w)),some (.r 0),some (.r 1),o5,o6,o7,o8,o9,o10]
theorem X83 (hk:t.Ok) (hm:m ∈ t.marks) (hw:w ∈ Z22):g_is_stuck [t.D, .str m, .str w] = .ok (.bl (Y7i t m w)):=by
  refine Z00 ?_
  rw [V04]
  unfold ik
  refine Fw.par (x := .r 0) (y := .r 1) (S1:=Z20 [(m,w)] [(m,w)] []) ?_ ?_
  · refine Z5 (S1:=[.tdc ([(m,w)].map knX)]) ?_ (Z5 (Z7b (Z5 (Z1r (ds:=[.str m, .str w]) (Z5 (Z6 rfl) (Z5 (Z6 rfl) Y1)) rfl (hz4 (by simp))) Y1) (hz4 (by simp))) Y1)
    rfl
  show Fw ((_:MS) (evK t m w none none none none none none) _) _
  refine Fw.while_ 20 (by decide) (fun n e S=>∃ (N W:List (Str × Str)) (J:Sto) (o5 o6 o7 o8 o9 o10:Option X),e=evK t m w o5 o6 o7 o8 o9 o10∧S=Z20 N W J∧(∀ o ∈ J,∃ xs:List StQ,o = .lst (xs.map stX))∧DfOk t m w N W∧n=20 - N.length + W.length∧W.length ≤ N.length) (fun e S=>Y5y t m w∧∃ o5 o6 o7 o8 o9 o10,e=evK t m w o5 o6 o7 o8 o9 o10) ⟨_,_,[],_,_,_,_,_,_,rfl,rfl,fun _ h=>(nomatch h),X92,by simp,by simp⟩ ?_ ?_
  · rintro n e S ⟨N,W,J,o5,o6,o7,o8,o9,o10,rfl,rfl,hJ,hd,hn,hwn⟩
    refine ⟨decide ((0:Int) < (W.length:Nat)),Z20 N W J,Z0v (X8 (Y7 (Z5 (Z6 rfl) Y1) ((X3r (xs:=W.map wtX) rfl).trans (by rw [List.length_map]))) V9 Y4 Y4 Y1i),fun hc=>?_,fun hc=>?_⟩
    · have h0:W.length=0:=by have:=of_decide_eq_false hc; omega
      have h0:=List.eq_nil_of_length_eq_zero h0
      subst h0
      exact ⟨hd.end_,_,_,_,_,_,_,rfl⟩
    have h0:W ≠ []:=fun e=>by subst e; have:=of_decide_eq_true hc; simp at this
    obtain ⟨W,p,rfl⟩:∃ V p,W=V++[p]:=⟨W.dropLast,W.getLast h0,(List.dropLast_concat_getLast h0).symm⟩
    have hpN:p ∈ N:=hd.wt p (by simp)
    obtain ⟨pm,pw⟩:=(hd.pr p hpN).ok hk hm hw
    have lN:=hd.len hk hm hw
    refine ⟨20 - N.length + W.length,by rw [hn,List.length_append]; simp; omega,?_⟩
    unfold V2k
    refine Fw.asg (Y1f (Z6 rfl) (Z4b (xs:=(W++[p]).map wtX) rfl) Y1 W82) rfl ?_
    refine Fw.if_ (b:=Z18 t p.1 p.2) (W1 (Y7 (Z5 (Z6 rfl) (Z5 (Z6 rfl) (Z5 (Z6 rfl) Y1))) (W4 rfl (Z49 Y5k))) rfl) (Fw.ifc (fun hb=>?_) fun hb=>?_)
    · have hs:=hd.shows hpN hb
      have:Y7i t m w=false:=by
        cases c:Y7i t m w with
        | false=>rfl
        | true=>exact absurd (Y2x.mp c) hs
      exact Fw.retP V9 Y4 (.rp (by rw [this]; rfl))
    refine Fw.seqNil ?_
    refine Fw.set (x := .d (spD (stS p.1 p.2))) (Z1r (Z5 (Z6 rfl) (Z5 (Z6 rfl) (Z5 V9 (Z5 V9 (Z5 V9 (Z5 V9 Y1)))))) rfl (hz4 (by simp))) ?_
    have ht0:∀ {e:Ev} {S:Sto},V4 (Z7) e S = .ok (.d (Z21 [])) S:=fun {e S}=>Z1r (ds:=[]) Y1 rfl (hz4 (by simp))
    let g1:=given t (stS p.1 p.2) [] "mine"
    let l1:=looked t (stS p.1 p.2) [] (decide (p.2 = "mine"))
    refine Fw.set (x := .r (Z20 N W J).length) (S1:=Z20 N W J++[.lst ([g1].map stX)]) (Z7b (S1:=Z20 N W J) (xs:=[stX g1]) (Z5 (Y7 (Z5 (Z6 rfl) (Z5 (Z6 rfl) (Z5 ht0 (Z5 V9 Y1)))) (W4 rfl (Z42 (Z7l (s:=stS p.1 p.2) pm)))) Y1) (hz4 (by simp))) ?_
    let q:=(Z20 N W J).length
    let E:Option X→Option X→Ev:=fun o9 o10=>evK t m w (some (.d (.str p.1))) (some (.d (.str p.2))) (some (.d (spD (stS p.1 p.2)))) (some (.r q)) o9 o10
    have hat:∀ {A:Sto} {o:O},A.length=q→(A++[o])[q]?=some o:=fun {A o} h=>by rw [← h]; simp
    refine Fw.seqN (P:=fun e1 S1=>e1=E o9 o10∧S1=Z20 N W J++[.lst ((Y6l t p.1 p.2).map stX)]) ?_ ?_
    · refine Fw.one (Fw.if_ (b := !decide (p.1=t.m0)) (Z0v (X8 (Z6 rfl) (U6 (Z6 rfl) Z1z) Y4 Y4 Z7d)) (Fw.ifc (fun hc=>?_) fun hc=>?_))
      · have e1:Y6l t p.1 p.2=[g1]++[l1]:=by unfold Y6l; rw [if_pos hc]; rfl
        refine Fw.expr (x := .d .non) (S1:=Z20 N W J++[.lst ([g1].map stX++[stX l1])]) (Y1f (Z6 rfl) (Z4b (xs:=[g1].map stX) (hat rfl)) (Z5 (Y7 (Z5 (Z6 rfl) (Z5 (Z6 rfl) (Z5 ht0 (Z5 (X8 (Z6 rfl) V9 Y4 Y4 Z28) Y1)))) (W4 rfl (Z42 (Y2h (s:=stS p.1 p.2) pm)))) Y1) ((Y03 (xs:=[g1].map stX) (hat rfl) (hz4 (n:=2) (by simp))).trans (congrArg (R.ok _) ?_))) (Fw.nil ⟨_,_,rfl,rfl,by rw [e1]; rfl⟩)
        rw [List.set_append_right _ _ (Nat.le_refl _)]
        simp
        rfl
      · have e1:Y6l t p.1 p.2=[g1]:=by unfold Y6l; rw [if_neg (nt hc)]
        exact Fw.seqNil (Fw.nil ⟨_,_,rfl,rfl,by rw [e1]⟩)
    rintro e1 S1 ⟨rfl,rfl⟩
    let O8:O := .lst ((Y6l t p.1 p.2).map stX)
    refine Fw.one (Fw.for_ (l:=Y6l t p.1 p.2) (f:=stX) (lk := .lst q ((Y6l t p.1 p.2).map stX)) (S1:=Z20 N W (J++[O8])) (Z10 (Z6 rfl) ?_) (fun l e S=>∃ (N2 W2:List (Str × Str)) (o9 o10:Option X),e=E o9 o10∧S=Z20 N2 W2 (J++[O8])∧DfIn t m w N2 W2 p l∧(∀ x ∈ l,x ∈ Y6l t p.1 p.2)∧20 - N2.length + W2.length=20 - N.length + W.length∧W2.length ≤ N2.length) (fun _ _=>False) ⟨N,W,_,_,rfl,rfl,hd.pop,fun _ h=>h,rfl,by rw [List.length_append] at hwn; simp at hwn; omega⟩ ?_ ?_ ?_)
    · show (match (Z20 N W (J++[O8]))[q]? with
        | some (.lst xs)=>some (xs,Lk.lst q xs)
        | _=>none)=_
      rw [show (Z20 N W (J++[O8]))[q]?=some O8 from hat (A:=Z20 N W J) rfl]
    · rintro l e S ⟨N2,W2,o9,o10,rfl,rfl,_⟩
      have:(Z20 N2 W2 (J++[O8]))[q]?=some O8:=hat (A:=Z20 N2 W2 J) rfl
      show (match (Z20 N2 W2 (J++[O8]))[q]? with
        | some (.lst zs)=>decide (zs=(Y6l t p.1 p.2).map stX)
        | _=>false)=true
      rw [this]
      simp [O8]
    · rintro x l e S ⟨N2,W2,o9,o10,rfl,rfl,hD,hl,hn2,hw2⟩
      refine ⟨E (some (stX x)) o10,rfl,?_⟩
      unfold W2p
      refine Fw.set (Z4a (U6 (Z6 rfl) Z7i) Y4i (Z5a V9) V3r) ?_
      have hpr:D.tup [.str x.later.m, .str x.later.wh]=p2D x.pr:=rfl
      rw [hpr]
      have hwx:=hl x (by simp)
      have hin:∀ {T:Sto},T=Z20 N2 W2 (J++[O8])→(tkX T (.r 0) (.d (p2D x.pr))).map (fun p=>((Z7c p.1 p.2.2).isSome ^^ true))=some (!decide (x.pr ∈ N2)):=fun {T} hT=>by
        subst hT
        show some ((Z7c (N2.map knX) (p2K x.pr)).isSome ^^ true)=_
        rw [show (N2.map knX)=N2.map fun a=>(p2D (id a),X.d (.bl true)) from rfl,W47,Bool.xor_true,List.map_id]
      refine Fw.one (Fw.if_ (b := !decide (x.pr ∈ N2)) (Z0v (X3f (Z6 rfl) (Z6 rfl) (hin rfl))) (Fw.ifc (fun hb=>?_) fun hb=>?_))
      · have hno:x.pr ∉ N2:=by simpa using hb
        have hD2:=hD.new hwx hno
        have l2:(N2++[x.pr]).length ≤ 20:=by
          have h1:∀ z ∈ N2++[x.pr],z ∈ t.marks.flatMap fun a=>Z22.map fun b=>(a,b):=fun z hz=>by
            obtain ⟨a,b⟩:=(hD2.pr z hz).ok hk hm hw
            exact List.mem_flatMap.mpr ⟨z.1,a,List.mem_map.mpr ⟨z.2,b,rfl⟩⟩
          have h2:=hD2.nd.length_le_of_subset h1
          have h3:(t.marks.flatMap fun a=>Z22.map fun b=>(a,b)).length ≤ t.marks.length * 4:=Z3v fun a _=>by simp [Z22]
          have h4:t.marks.length ≤ 5:=by have:=hk.few; show t.ms.length + 1 ≤ 5; omega
          omega
        rw [List.length_append] at l2
        have hput:X2s (Z20 N2 W2 (J++[O8])) (.r 0) (.d (p2D x.pr))=some (0,N2.map knX,p2D x.pr,p2K x.pr):=by
          show (if decide ((N2.map knX).length < sizeLine) then _ else _)=_
          rw [if_pos (decide_eq_true (by rw [List.length_map,sizeLine_eq]; omega))]
          rfl
        refine Fw.seqSeq (Fw.seq (e1:=E (some (stX x)) (some (.d (p2D x.pr)))) (S1:=Z20 (N2++[x.pr]) W2 (J++[O8])) ((X81 V9 (Z6 rfl) (Z6 rfl) hput).trans (congrArg (RO.go (.nx _)) ?_)) ?_)
        · rw [show (N2.map knX)=N2.map fun a=>(p2D (id a),X.d (.bl true)) from rfl,W85 (by rw [List.map_id]; exact hno)]
          unfold Z20
          rw [List.map_append]
          rfl
        · refine Fw.expr (Y1f (Z6 rfl) (Z4b (xs:=W2.map wtX) rfl) (Z5 (Z6 rfl) Y1) (Y03 (xs:=W2.map wtX) rfl ?_)) (Fw.nil (.nx ⟨N2++[x.pr],W2++[x.pr],_,_,rfl,?_,hD2,fun y hy=>hl y (List.mem_cons_of_mem _ hy),?_,?_⟩))
          · rw [List.length_map,sizeLine_eq]; simp at l2; omega
          · unfold Z20
            simp only [List.map_append]
            rfl
          · rw [List.length_append,List.length_append]
            simp at l2 ⊢
            omega
          · rw [List.length_append,List.length_append]
            simp
            omega
      · have hin:x.pr ∈ N2:=by simpa using hb
        exact Fw.seqNil (Fw.nil (.nx ⟨N2,W2,_,_,rfl,rfl,hD.old hin,fun y hy=>hl y (List.mem_cons_of_mem _ hy),hn2,hw2⟩))
    · intro e S hor
      obtain ⟨N2,W2,o9,o10,rfl,rfl,hD,_,hn2,hw2⟩:=hor.resolve_right id
      refine Fw.nil (.nx ⟨N2,W2,J++[O8],_,_,_,_,_,_,rfl,rfl,fun o ho=>?_,hD.done hb,hn2.symm,hw2⟩)
      rcases List.mem_append.mp ho with ho | ho
      · exact hJ o ho
      · exact ⟨_,List.mem_singleton.mp ho⟩
  · rintro e S ⟨hs,o5,o6,o7,o8,o9,o10,rfl⟩
    exact Fw.one (Fw.retP V9 Y4 (by rw [Y2x.mpr hs]; rfl))
end
end Lw
namespace Lw
open PySem PySem.Spec L2 Bv
open PyProof.Rows hiding St
variable [HasW]
theorem V0x:¬ ("strange" : Str) = "again" ∧ ¬ ("strange" : Str) = "stuck" ∧ ¬ ("again" : Str) = "stuck" := by decide +kernel
noncomputable def Y7c (t:TQ) (f:Str) (s:Sp):Bool:=s.he && (if f = "strange" then decide (s.m ∈ t.sh) && Y2q s.wh else if f = "again" then decide (s.m ∈ t.as) && decide (s.wh = "mine") else decide (f = "stuck") && Y7i t s.m s.wh)
theorem X5f {t:TQ} {f:Str} {s:Sp}:Y7c t f s=true ↔ W3q t f s:=by
  obtain ⟨n1,n2,n3⟩:=V0x
  unfold Y7c W3q
  by_cases h1:f = "strange"
  · subst h1
    simp [n1,n2]
  · by_cases h2:f = "again"
    · subst h2
      simp [h1,n3]
    · simp [h1,h2,Y2x]
section
variable {t:TQ} {L:List Str} {s r:Sp} {x:StQ} {T S:Sto} {m w f:Str} {b:Bool} {l:List Sp}
theorem Y5j (hk:t.Ok) (hm:s.m ∈ t.marks) (hw:s.wh ∈ Z22):g_shows_fault [t.D, .str f,spD s] = .ok (.bl (Y7c t f s)):=by
  refine Z00 ?_
  unfold Z76 Y7c
  refine Fw.asg (Z4a (Z6 rfl) Y4i (Z5a V9) ss3) rfl ?_
  refine Fw.if_ (b := !s.he) (Z4v (W1 (Z6 rfl) rfl)) (Fw.ifc (fun hb=>?_) fun hb=>?_)
  · have h:s.he=false:=by simpa using hb
    exact Fw.retP V9 Y4 (by rw [h]; rfl)
  have h:s.he=true:=by simpa using hb
  rw [h,Bool.true_and]
  refine Fw.seqNil (Fw.if_ (b:=decide (f = "strange")) (Z0v (X8 (Z6 rfl) V9 Y4 Y4 Z28)) (Fw.ifc (fun hb=>?_) fun hb=>?_))
  · rw [if_pos (of_decide_eq_true hb)]
    exact Fw.retP (Y1e (X8 (Z6 rfl) (U6 (Z6 rfl) Y83) Y4 Y4 Z8p) (Y7 (Z5 (Z6 rfl) Y1) (W4 rfl (Y3g Y65)))) Y4 rfl
  rw [if_neg (of_decide_eq_false hb)]
  refine Fw.seqNil (Fw.if_ (b:=decide (f = "again")) (Z0v (X8 (Z6 rfl) V9 Y4 Y4 Z28)) (Fw.ifc (fun hb=>?_) fun hb=>?_))
  · rw [if_pos (of_decide_eq_true hb)]
    exact Fw.retP (Y1e (X8 (Z6 rfl) (U6 (Z6 rfl) X55) Y4 Y4 Z8p) (X8 (Z6 rfl) V9 Y4 Y4 Z28)) Y4 rfl
  rw [if_neg (of_decide_eq_false hb)]
  exact Fw.seqNil (Fw.one (Fw.retP (Y1e (X8 (Z6 rfl) V9 Y4 Y4 Z28) (Y7 (Z5 (Z6 rfl) (Z5 (Z6 rfl) (Z5 (Z6 rfl) Y1))) (W4 rfl (Z49 (X83 hk hm hw))))) Y4 rfl))
theorem W0j {S1:Sto}:ixO S1 (.d (spD x.later)) 0=some (.d (.str x.later.m)):=rfl
theorem W0k {S1:Sto}:ixO S1 (.d (spD x.later)) 1=some (.d (.str x.later.wh)):=rfl
theorem X97 {e:Ev} {S1:Sto} {xs:List StQ} (h0:e[0]?=some (some (.d t.D))) (h7:e[7]?=some (some (.d (Z2q xs)))) (hl:e.length=9) (hx:xs.length ≤ 10):Z4p (.nm 8) (Q9 (Z3 7)) (W8 (Y6 (Y0 (Y9 3 (X5 [] (callP g_shows_own))) (Z0 (Z3 0) (Z0 (Z1m (X4 ["Step"] "later" (Z3 8)) (m_c (.int 0))) (Z0 (Z1m (X4 ["Step"] "later" (Z3 8)) (m_c (.int 1))) (Z7))))))) (Z3 8) [8] e S1 = .ok (.d (Z2q (xs.filter fun x => !Z18 t x.later.m x.later.wh))) S1:=by
  refine Y4n (fun x=>X.d (Z3d x)) Z3d (fun x => !Z18 t x.later.m x.later.wh) (l:=xs) (Z10 (Z6 h7) Z9k) (hz4 (by omega)) fun x _=>?_
  have g8:((Z05 e [8]).set 8 (some (X.d (Z3d x))))[8]?=some (some (.d (Z3d x))):=List.getElem?_set_self (by rw [Z60]; omega)
  have g0:((Z05 e [8]).set 8 (some (X.d (Z3d x))))[0]?=some (some (.d t.D)):=by
    rw [List.getElem?_set_ne (by decide)]
    show (e.set 8 none)[0]?=_
    rw [List.getElem?_set_ne (by decide)]
    exact h0
  refine ⟨_,rfl,?_,fun _=>Z6 g8⟩
  exact Z4v (W1 (Y7 (Z5 (Z6 g0) (Z5 (Z3u (U6 (Z6 g8) Z7i) V9 W0j) (Z5 (Z3u (U6 (Z6 g8) Z7i) V9 W0k) Y1))) (W4 rfl (Z49 Y5k))) rfl)
theorem X6z (hm:s.m ∈ t.marks):g_steps_to_fault [t.D,Z21 L, .str f,spD s] = .ok (Z2q (Z3s t L f s)):=by
  refine Z00 ?_
  unfold Z5x Z3s
  refine Fw.asg (Z4a (Z6 rfl) Y4i (Z5a V9) ss3) rfl ?_
  refine Fw.if_ (b := !s.he) (Z4v (W1 (Z6 rfl) rfl)) (Fw.ifc (fun hb=>?_) fun hb=>?_)
  · rw [if_pos hb]
    exact Fw.retP (Z2l (ds:=[]) Y1 rfl (hz4 (by simp))) Y4 rfl
  rw [if_neg (nt hb)]
  refine Fw.seqNil (Fw.set (Z2l (ds:=[]) Y1 rfl (hz4 (by simp))) ?_)
  let E:List StQ→Ev:=fun xs=>[some (.d t.D),some (.d (Z21 L)),some (.d (.str f)),some (.d (spD s)),some (.d (.str s.m)),some (.d (.str s.wh)),some (.d (.bl s.he)),some (.d (Z2q xs)),none]
  have l1:=Z87 (t:=t) (L:=L) (s:=s)
  have l2:=Z8d (t:=t) (s:=s)
  have fin:∀ {xs:List StQ},xs.length ≤ 10→Fw ((X6 (Z4p (.nm 8) (Q9 (Z3 7)) (W8 (Y6 (Y0 (Y9 3 (X5 [] (callP g_shows_own))) (Z0 (Z3 0) (Z0 (Z1m (X4 ["Step"] "later" (Z3 8)) (m_c (.int 0))) (Z0 (Z1m (X4 ["Step"] "later" (Z3 8)) (m_c (.int 1))) (Z7))))))) (Z3 8) [8])) (E xs) []) (fun r=>Z9q r = .ok (Z2q (xs.filter fun x => !Z18 t x.later.m x.later.wh))):=fun {xs} hx=>Fw.one (Fw.retP (X97 (xs:=xs) rfl rfl rfl hx) Y4 rfl)
  refine Fw.if_ (b:=decide (f = "vain")) (Z0v (X8 (Z6 rfl) V9 Y4 Y4 Z28)) (Fw.ifc (fun hb=>?_) fun hb=>?_)
  · rw [if_pos (of_decide_eq_true hb)]
    exact Fw.set (Z2l (ds:=[Z3d (given t s ["give", "mine"] "mine")]) (Z5 (Y7 (Z5 (Z6 rfl) (Z5 (Z6 rfl) (Z5 Z79 (Z5 V9 Y1)))) (W4 rfl (Z42 (Z7l hm)))) Y1) rfl (hz4 (by simp))) (fin (xs:=[given t s ["give", "mine"] "mine"]) (by simp))
  rw [if_neg (of_decide_eq_false hb)]
  refine Fw.if_ (b:=decide (f = "fallen") && Z18 t s.m s.wh) (Z4g (Z0v (X8 (Z6 rfl) V9 Y4 Y4 Z28)) fun _=>W1 (Y7 (Z5 (Z6 rfl) (Z5 (Z6 rfl) (Z5 (Z6 rfl) Y1))) (W4 rfl (Z49 Y5k))) rfl) (Fw.ifc (fun hc=>?_) fun hc=>?_)
  · rw [if_pos hc]
    refine Fw.set (x := .d (Z2q (Z1p t L s++Z1b t s))) (S1:=[]) (X8 (Y7 (Z5 (Z6 rfl) (Z5 (Z6 rfl) (Z5 (Z6 rfl) Y1))) (W4 rfl (Z49 (Y28 hm)))) (Y7 (Z5 (Z6 rfl) (Z5 (Z6 rfl) Y1)) (W4 rfl (Y9f (Y9p hm)))) Y4 Y4 ?_) (fin (xs:=Z1p t L s++Z1b t s) (by rw [List.length_append]; omega))
    rw [show Z2q (Z1p t L s++Z1b t s) = .lst ((Z1p t L s).map Z3d++(Z1b t s).map Z3d) by unfold Z2q; rw [List.map_append]]
    exact W2d (by rw [List.length_map,List.length_map]; omega)
  · rw [if_neg (nt hc)]
    exact Fw.seqNil (fin (xs:=[]) (by simp))
theorem W0q (hm:s.m ∈ t.marks):g_is_lost_from [t.D,Z21 L,spD s] = .ok (.bl (Z8e t L s)):=by
  refine Z00 ?_
  unfold Z68 Z8e
  refine Fw.asg (Z4a (Z6 rfl) Y4i (Z5a V9) ss3) rfl ?_
  refine Fw.if_ (b := !s.he || !decide (s.wh = "mine")) (Y9h (Z4v (W1 (Z6 rfl) rfl)) fun _=>Z0v (X8 (Z6 rfl) V9 Y4 Y4 Z7d)) (Fw.ifc (fun hb=>?_) fun hb=>?_)
  · refine Fw.retP V9 Y4 ?_
    have:(s.he && (decide (s.wh = "mine") && (lAl L || (lNr L || decide ((t.bec "carry" s.m).1=t.m0)))))=false:=by
      revert hb
      cases s.he <;> cases decide (s.wh = "mine") <;> simp
    rw [this]
    rfl
  refine Fw.seqNil (Fw.one (Fw.retP (d := .bl (lAl L || (lNr L || decide ((t.bec "carry" s.m).1=t.m0)))) (Z4h (X8 V9 (Z6 rfl) Y4 Y4 Y3h) (Z4h (X8 V9 (Z6 rfl) Y4 Y4 Y3h) (X8 (Z3u (Z5y (Z6 rfl) rfl (Z5 V9 (Z5 (Z6 rfl) Y1)) (W4 rfl (Z49 (Y3z hm)))) V9 bi0) (U6 (Z6 rfl) Z1z) Y4 Y4 Z28))) Y4 ?_))
  have h1:s.he=true∧decide (s.wh = "mine")=true:=by
    revert hb
    cases s.he <;> cases decide (s.wh = "mine") <;> simp
  rw [h1.1,h1.2,Bool.true_and,Bool.true_and]
  rfl
theorem W43 {xs:List StQ}:decide ((0:Int) < (xs.length:Nat))=decide (xs ≠ []):=by
  rw [Bool.eq_iff_iff]
  simp only [decide_eq_true_eq]
  constructor
  · intro h e
    rw [e] at h
    simp at h
  · intro h
    have:=List.length_pos_iff.mpr h
    omega
theorem Y4t:Met t L f s ↔ (Y7c t f s || decide (Z3s t L f s ≠ []))=true ∨ (decide (f = "lost") && Z8e t L s)=true:=by
  unfold Met
  rw [Bool.or_eq_true,Bool.and_eq_true,decide_eq_true_eq,decide_eq_true_eq,X5f,or_assoc]
theorem X1z (hk:t.Ok) (hl:∀ s ∈ l,s.m ∈ t.marks∧s.wh ∈ Z22):g_is_met [t.D,Z21 L, .str f,Z6q l] = .ok (.bl (X3y t L f l)):=by
  refine Z00 ?_
  rw [V05]
  unfold im
  refine Fw.for_ (l:=l) (f:=fun s=>X.d (spD s)) (lk := .free) (S1:=[]) (Z10 (Z6 rfl) X9f) (fun l2 e S=>∃ (pre:List Sp) (o4:Option X),l=pre++l2∧(∀ s ∈ pre,¬ Met t L f s)∧e=[some (.d t.D),some (.d (Z21 L)),some (.d (.str f)),some (.d (Z6q l)),o4]∧S=[]) (fun _ _=>False) ⟨[],none,rfl,fun _ h=>(nomatch h),rfl,rfl⟩ (fun _ _ _ _=>rfl) ?_ ?_
  · rintro s l2 e S ⟨pre,o4,hp,hn,rfl,rfl⟩
    have hs:s ∈ l:=by rw [hp]; simp
    obtain ⟨hm,hw⟩:=hl s hs
    refine ⟨_,rfl,?_⟩
    unfold V2l
    refine Fw.if_ (b:=Y7c t f s || decide (Z3s t L f s ≠ [])) (Y9h (W1 (Y7 (Z5 (Z6 rfl) (Z5 (Z6 rfl) (Z5 (Z6 rfl) Y1))) (W4 rfl (Z49 (Y5j hk hm hw)))) rfl) fun _=>Z0v (X8 (Y7 (Z5 (Y7 (Z5 (Z6 rfl) (Z5 (Z6 rfl) (Z5 (Z6 rfl) (Z5 (Z6 rfl) Y1)))) (W4 rfl (Z42 (X6z hm)))) Y1) (W78.trans (by rw [List.length_map]))) V9 Y4 Y4 (Y1i.trans (by rw [W43])))) (Fw.ifc (fun hb=>?_) fun hb=>?_)
    · refine Fw.retP V9 Y4 (.rp ?_)
      rw [Z9t.mpr ⟨s,hs,Y4t.mpr (.inl hb)⟩]
      rfl
    refine Fw.seqNil (Fw.one (Fw.if_ (b:=decide (f = "lost") && Z8e t L s) (Z4g (Z0v (X8 (Z6 rfl) V9 Y4 Y4 Z28)) fun _=>W1 (Y7 (Z5 (Z6 rfl) (Z5 (Z6 rfl) (Z5 (Z6 rfl) Y1))) (W4 rfl (Z49 (W0q hm)))) rfl) (Fw.ifc (fun hc=>?_) fun hc=>?_)))
    · refine Fw.retP V9 Y4 (.rp ?_)
      rw [Z9t.mpr ⟨s,hs,Y4t.mpr (.inr hc)⟩]
      rfl
    · refine Fw.seqNil (Fw.nil (.nx ⟨pre++[s],_,by rw [hp]; simp,fun y hy=>?_,rfl,rfl⟩))
      rcases List.mem_append.mp hy with hy | hy
      · exact hn y hy
      · rw [List.mem_singleton.mp hy]
        exact fun z=>(Y4t.mp z).elim (nt hb) (nt hc)
  · intro e S hor
    obtain ⟨pre,o4,hp,hn,rfl,rfl⟩:=hor.resolve_right id
    rw [List.append_nil] at hp
    refine Fw.one (Fw.retP V9 Y4 ?_)
    have:X3y t L f l=false:=by
      cases c:X3y t L f l with
      | false=>rfl
      | true =>
        obtain ⟨s,hs,hm⟩:=Z9t.mp c
        exact absurd hm (hn s (by rw [← hp]; exact hs))
    rw [this]
    rfl
end
section
variable {t:TQ} {L L2:List Str}
theorem X3s (h:∀ x,x ∈ L ↔ x ∈ L2) (f:Str) (s:Sp):Met t L f s ↔ Met t L2 f s:=by
  have h1:lAl L=lAl L2:=by rw [Bool.eq_iff_iff]; simpa using h _
  have h3:lLt L=lLt L2:=by rw [Bool.eq_iff_iff]; simpa using h _
  have h4:lNr L=lNr L2:=by rw [Bool.eq_iff_iff]; simpa using h _
  unfold Met Z3s Z8e Z1p
  rw [h1,h3,h4]
theorem W0m (h:∀ x,x ∈ L ↔ x ∈ L2) (f:Str):Y52 t L f=Y52 t L2 f:=by
  rw [Bool.eq_iff_iff,Y3t,Y3t]
  exact ⟨fun ⟨s,a,b⟩=>⟨s,Y2f h a,(X3s h f s).mp b⟩,fun ⟨s,a,b⟩=>⟨s,Y2f (fun x=>(h x).symm) a,(X3s h f s).mpr b⟩⟩
end
end Lw
namespace Lw
open PySem PySem.Spec L2 Bv
open PyProof.Rows hiding St
variable [HasW]
def TQ.L (t:TQ):Bv.D:=V2a t.m0 t.ms t.sh t.as t.rows
section
variable {p q t:TQ} {T:Sto} {m w m0:Str} {ms sh as:List Str} {rows:List Z7g}
end
end Lw
namespace Lw
open PySem
def W9z (t:TQ) (s:Sp) (w who:Str):Sp:=⟨(t.bec w s.m).1,if (t.bec w s.m).1=t.m0 then "none" else if (t.bec w s.m).2=true then who else s.wh,s.he,s.ot,s.wa,s.we⟩
def V09 (t:TQ) (L:List Str) (s:Sp):List Sp :=
  ((if (s.he || (s.wa && lLt L))=true then [W9z t s "give" "mine"] else [])++(if (s.ot || (s.we && lLt L))=true then [W9z t s "give" (if s.ot=true then "theirs" else "other")] else [])) ++
  ((if (!decide (s.m=t.m0) && s.he)=true then [W9z t s (if s.wh = "mine" then "right" else "wrong") ""] else [])++(if (!decide (s.m=t.m0) && s.ot)=true then [W9z t s (if s.wh = "theirs" then "right" else "wrong") ""] else []))
def X7d (w:Str) (o free:Bool):List Str:=if (decide (w ∈ (["none", "mine"]:List Str)))=true then [w] else if (!o)=true then ["other"] else if free=true then ["theirs", "other"] else [w]
def V3g (L:List Str) (s:Sp) (h o:Bool):Bool :=
  if (h && (o && !lAl L))=true then false
  else if (!h && !o)=true then true
  else if (!s.he && !s.ot)=true then (lBk L || (!s.wa && !s.we))
  else (lAl L || (lBk L || decide (h=s.he∧o=s.ot)))
def W77 (t:TQ) (L:List Str) (s r:Sp) (h o:Bool):List Sp :=
  if (!decide (r.m=t.m0) && (((r.he && h) || ((r.ot && o) || lNr L)) && !decide ((t.bec "carry" r.m).1=t.m0)))=true then
    (X7d r.wh o (lAl L || lNr L)).map fun one=>⟨(t.bec "carry" r.m).1,one,h,o,s.wa || h,s.we || o⟩ else []
def lEd (t:TQ) (L:List Str) (s:Sp) (S:List Sp) (h o:Bool):List Sp :=
  if (s.he || s.ot)=(h || o) then (X7d s.wh o (lAl L || lBk L)).map fun one=>⟨s.m,one,h,o,s.wa || h,s.we || o⟩
  else if s.m ≠ t.m0 then (if (t.bec (edW (s.he || s.ot)) s.m).1 ≠ t.m0 then X7d s.wh o (lAl L || lBk L) else (["none"]:List Str)).map fun one=>⟨(t.bec (edW (s.he || s.ot)) s.m).1,one,h,o,s.wa || h,s.we || o⟩
  else ⟨s.m, "none",h,o,s.wa || h,s.we || o⟩ :: (if (h || o)=true then S else []).flatMap fun r=>W77 t L s r h o
def V3f (t:TQ) (L:List Str) (s:Sp) (S:List Sp) (p:Bool × Bool):List Sp:=if V3g L s p.1 p.2=true then lEd t L s S p.1 p.2 else []
def X7c (t:TQ) (L:List Str) (s:Sp) (S:List Sp):List Sp:=V09 t L s++B4.flatMap (V3f t L s S)
section
variable {t:TQ} {L:List Str} {s r y:Sp} {S:List Sp} {x:StQ} {h o:Bool}
structure LcAt (t:TQ) (L:List Str) (N:List Sp) (i k:Nat):Prop where
  hd:begun t ∈ N
  nd:N.Nodup
  rc:∀ s ∈ N,Rc t L s
  il:i ≤ N.length
  kl:k ≤ N.length
  c1:∀ s ∈ N.take i,∀ y ∈ X7c t L s [],y ∈ N
  c2:∀ s ∈ N.take k,Z8i t s=true→∀ y ∈ X7c t L s (N.take k),y ∈ N
structure LcIn (t:TQ) (L:List Str) (N0 N:List Sp) (S P:List Sp):Prop where
  pre:N0 <+: N
  nd:N.Nodup
  rc:∀ s ∈ N,Rc t L s
  dn:∀ s ∈ P,∀ y ∈ X7c t L s S,y ∈ N
end
end Lw
namespace Lw
open PySem PySem.Spec L2 Bv
open PyProof.Rows hiding St
variable [HasW]
section
variable {t:TQ} {L:List Str} {s r y:Sp} {S T:Sto} {m w f:Str} {b h o:Bool} {Sr:List Sp}
end
end Lw
namespace Lw
open PySem PySem.Spec L2 Bv
open PyProof.Rows hiding St
variable [HasW]
def spP (s:Sp):PyData := .tuple [.str s.m, .str s.wh, .bool s.he, .bool s.ot, .bool s.wa, .bool s.we]
theorem W3g {s:Sp}:(spD s).py=some (spP s):=rfl
theorem Y3r {a b:Bool}:PyData.eqv (.bool a) (.bool b)=decide (a=b):=by cases a <;> cases b <;> simp [PyData.eqv]
theorem W7r {s r:Sp}:PyData.eqv (spP s) (spP r)=decide (s=r):=by
  have h:PyData.eqv (spP s) (spP r)=(PyData.eqv (.str s.m) (.str r.m) && (PyData.eqv (.str s.wh) (.str r.wh) && (PyData.eqv (.bool s.he) (.bool r.he) && (PyData.eqv (.bool s.ot) (.bool r.ot) && (PyData.eqv (.bool s.wa) (.bool r.wa) && (PyData.eqv (.bool s.we) (.bool r.we) && true)))))):=by
    simp only [spP,PyData.eqv,PyData.eqvAll]
  rw [h,Y4f,Y4f,Y3r,Y3r,Y3r,Y3r,Bool.eq_iff_iff]
  obtain ⟨a,b,c,d,e,f⟩:=s
  obtain ⟨a',b',c',d',e',f'⟩:=r
  simp
theorem X8g:∀ l:List Sp,pys (l.map spD)=some (l.map spP)
  | []=>rfl
  | s :: l=>Z9v W3g (X8g l)
theorem X0y {s:Sp}:(spP s).depth ≤ 2:=by simp [spP,PyData.depth,PyData.depthAll]
theorem X0z:∀ l:List Sp,PyData.depthAll (l.map spP) ≤ 2
  | []=>by simp [PyData.depthAll]
  | s :: l=>by
    have h1:=X0y (s:=s)
    have h2:=X0z l
    simp only [List.map_cons,PyData.depthAll]
    omega
theorem W3u (l:List Sp) (s:Sp):((l.map spP).any fun z=>PyData.eqv z (spP s))=decide (s ∈ l):=by
  induction l with
  | nil=>rfl
  | cons a r ih =>
    rw [List.map_cons,List.any_cons,ih,W7r,Bool.eq_iff_iff]
    simp only [Bool.or_eq_true,decide_eq_true_eq,List.mem_cons]
    exact ⟨fun h=>h.imp Eq.symm id,fun h=>h.imp Eq.symm id⟩
section
variable {t:TQ} {L:List Str} {s r y:Sp} {S T:Sto} {m w f:Str} {b h o:Bool} {l Sr:List Sp}
theorem W9f:(D.lst (l.map spD)).py=some (.list (l.map spP)):=by
  show (match pys (l.map spD) with
    | some l=>some (PyData.list l)
    | none=>none)=_
  rw [X8g]
theorem W5o:Y90 (spD s) (Z6q l)=some (.bl (!decide (s ∈ l))):=by
  have d1:dOk (spP s)=true:=by unfold dOk; exact decide_eq_true (by have:=X0y (s:=s); omega)
  have d2:dOk (.list (l.map spP))=true:=by
    unfold dOk
    have:=X0z l
    refine decide_eq_true ?_
    simp only [PyData.depth]
    omega
  unfold Y90 Bv.inB Z6q
  rw [W9f,W3g]
  show Option.map (fun b=>D.bl (!b)) (if dOk (spP s) && dOk (.list (l.map spP)) then some ((l.map spP).any fun z=>PyData.eqv z (spP s)) else none)=_
  rw [d1,d2,W3u]
  rfl
end
end Lw
namespace Lw
open PySem PySem.Spec L2 Bv
open PyProof.Rows hiding St
variable [HasW]
section
variable {t:TQ} {L:List Str} {s r y:Sp} {S T:Sto} {m w f:Str} {b h o:Bool} {l Sr:List Sp} {N W:List (Str × Str)} {p:Str × Str}
end
end Lw
namespace Lw
open PySem PySem.Spec L2 Bv
open PyProof.Rows hiding St
variable [HasW]
def W2o:MS:=(Z0k (Z0d (Y2i true (X4 ["Step"] "later" (Z3 5)) (Z3 2))) (Z2h (m_c (.bl false))) W7)
def V2j:MS:=(Z2o (.nm 5) (Q9 (Y0 (Y9 4 (X5 [] (callP g_all_steps))) (Z0 (Z3 0) (Z0 (Z3 1) (Z0 (Z3 4) (Z0 (Z3 3) (Z7))))))) W2o)
def ic:MS:=(Y2 (V6 3 (Y0 Y2a (Z0 (Z3 2) Z7))) (Y2 (Z2o (.nm 4) (Y4j (Z3 2)) V2j) (Z2h (m_c (.bl true)))))
theorem V03:Y0m=ic:=by kernel_rfl
section
variable {t:TQ} {L:List Str} {S T:Sto} {f:Str} {s y:Sp} {V U:List Sp}
theorem Y4k (hs:SpOk t s):g_is_standing [t.D,spD s] = .ok (.bl true):=by
  have e1:Y90 (.str s.m) (Z21 t.marks)=some (.bl false):=W22.trans (by rw [decide_eq_true hs.mm]; rfl)
  have e2:Y90 (.str s.wh) (.tup ((["none", "mine", "theirs", "other"]:List Str).map D.str))=some (.bl false):=X16.trans (by rw [decide_eq_true (show s.wh ∈ (["none", "mine", "theirs", "other"]:List Str) from hs.wh)]; rfl)
  have e3:neD (.bl (decide (s.m=t.m0))) (.bl (decide (s.wh = "none")))=some (.bl false):=W8o.trans (by rw [decide_eq_decide.mpr hs.bl,bne_self_eq_false])
  refine Z00 ?_
  unfold Z73
  refine Fw.if_ (b:=false) (Z34 (Z3a (W1 (Y4h (Z6 rfl) rfl) rfl)) (Z0v (X8 (Y7 (Z5 (Z6 rfl) Y1) W44) V9 Y4 Y4 rfl))) (Fw.iff (Fw.seqNil ?_))
  refine Fw.asg (Z6 rfl) rfl ?_
  refine Fw.if_ (b:=false) (Z34 (Z3a (W1 (Y4h (Z6 rfl) rfl) rfl)) (Z34 (Z0v (X8 (Z6 rfl) (U6 (Z6 rfl) X56) Y4 Y4 e1)) (Z34 (Z3a (W1 (Y4h (Z6 rfl) rfl) rfl)) (Z0v (X8 (Z6 rfl) V9 Y4 Y4 e2))))) (Fw.iff (Fw.seqNil ?_))
  refine Fw.if_ (b:=false) (Z3a (W1 (Y7 (Z5 (S1:=[]) (x := .d (.lst (([s.he,s.ot,s.wa,s.we].map fun _=>true).map D.bl))) ?_ (Y1 (S:=[]))) (W31 (T:=[]))) rfl)) (Fw.iff (Fw.seqNil ?_))
  · rw [List.map_map]
    exact Y1j (fun b=>X.d (.bl b)) (fun _=>D.bl true) (l:=[s.he,s.ot,s.wa,s.we]) (Z10 (Z1r (ds:=[s.he,s.ot,s.wa,s.we].map D.bl) (Z5 (Z6 rfl) (Z5 (Z6 rfl) (Z5 (Z6 rfl) (Z5 (Z6 rfl) Y1)))) rfl (hz4 (by simp))) Y00) (hz4 (by simp)) fun b _=>⟨_,rfl,Y4h (Z6 rfl) rfl⟩
  have e4:(decide (s.wh = "theirs") && !s.ot)=false:=by
    by_cases c:s.wh = "theirs"
    · rw [hs.th c]; simp
    · rw [decide_eq_false c]; rfl
  refine Fw.if_ (b:=false) (Z34 (Z0v (X8 (X8 (Z6 rfl) (U6 (Z6 rfl) Z1z) Y4 Y4 Z28) (X8 (Z6 rfl) V9 Y4 Y4 Z28) Y4 Y4 e3)) ((Z4g (b:=decide (s.wh = "theirs")) (c := !s.ot) (Z0v (X8 (Z6 rfl) V9 Y4 Y4 Z28)) fun _=>Z4v (W1 (Z6 rfl) rfl)).trans (by rw [e4]))) (Fw.iff (Fw.seqNil ?_))
  refine Fw.one (Fw.retP (Y1e (p:=true) (q:=true) ((Z4h (p:=s.wa) (q := !s.he) (Z6 rfl) (Y9g (Z6 rfl) rfl)).trans ?_) ((Z4h (p:=s.we) (q := !s.ot) (Z6 rfl) (Y9g (Z6 rfl) rfl)).trans ?_)) Y4 rfl)
  · have:=hs.he
    cases h1:s.he <;> cases h2:s.wa <;> simp_all
  · have:=hs.ot
    cases h1:s.ot <;> cases h2:s.we <;> simp_all
def knU (s:Sp):D × X:=(spD s, .d (.bl true))
def uq (acc:List Sp):List Sp→List Sp
  | []=>acc
  | s :: V=>uq (if s ∈ acc then acc else acc++[s]) V
theorem X7s:∀ {V acc:List Sp},s ∈ uq acc V ↔ s ∈ acc ∨ s ∈ V
  | [],acc=>by simp [uq]
  | r :: V,acc=>by
    unfold uq
    rw [X7s]
    by_cases c:r ∈ acc
    · rw [if_pos c]
      constructor
      · rintro (h | h)
        · exact .inl h
        · exact .inr (List.mem_cons_of_mem _ h)
      · rintro (h | h)
        · exact .inl h
        · rcases List.mem_cons.mp h with rfl | h
          · exact .inl c
          · exact .inr h
    · rw [if_neg c,List.mem_append,List.mem_singleton,List.mem_cons]
      constructor
      · rintro ((h | h) | h)
        · exact .inl h
        · exact .inr (.inl h)
        · exact .inr (.inr h)
      · rintro (h | h | h)
        · exact .inl (.inl h)
        · exact .inl (.inr h)
        · exact .inr h
theorem X4i:∀ {V acc:List Sp},acc.Nodup→(uq acc V).Nodup
  | [],_,h=>h
  | r :: V,acc,h=>by
    unfold uq
    refine X4i ?_
    by_cases c:r ∈ acc
    · rw [if_pos c]; exact h
    · rw [if_neg c]
      exact List.nodup_append.mpr ⟨h,by simp,fun a ha b hb=>by rw [List.mem_singleton.mp hb]; rintro rfl; exact c ha⟩
theorem W1w:y ∈ U→Y6c (U.map knU) (spD y) (spK y) (.d (.bl true))=U.map knU:=fun h=>by
  unfold Y6c
  rw [if_pos,List.map_map]
  · refine List.map_congr_left fun a _=>?_
    show (if (spD a).tkey?=some (spK y) then (spD a,X.d (.bl true)) else (spD a,X.d (.bl true)))=_
    rw [ite_self]
    rfl
  · rw [List.any_map,List.any_eq_true]
    exact ⟨y,h,by show decide ((spD y).tkey?=some (spK y))=true; rw [X2n]; exact decide_eq_true rfl⟩
theorem W86:Y6c (U.map knU) (spD y) (spK y) (.d (.bl true))=(if y ∈ U then U else U++[y]).map knU:=by
  by_cases c:y ∈ U
  · rw [if_pos c]; exact W1w c
  · rw [if_neg c,List.map_append]
    exact W3d (k:=fun a=>a) (v:=fun _=>X.d (.bl true)) (by rw [List.map_id']; exact c)
theorem W73:((Z7c (U.map knU) (spK y)).isSome)=decide (y ∈ U):=by
  have:=X7i (k:=fun a=>a) (v:=fun _=>X.d (.bl true)) (l:=U) (y:=y)
  rw [List.map_id'] at this
  exact this
theorem W38 {i:Nat} {e:Ev} {mk mv:M} (h:∀ s ∈ V,∃ e1,Tg.asg S (.nm i) (spX s) e=some e1∧mk e1 S = .ok (spX s) S∧mv e1 S = .ok (.d (.bl true)) S):∀ {U:List Sp},U.length + V.length ≤ 4000→Y9b (.nm i) .free Z0n mk mv e (U.map knU) (V.map spX) S = .ok ((uq U V).map knU) S:=by
  induction V with
  | nil=>intro U _; rfl
  | cons s V ih =>
    intro U hl
    rw [List.length_cons] at hl
    obtain ⟨e1,h1,h2,h3⟩:=h s (by simp)
    have hd:dcT (U.map knU) (spX s) (.d (.bl true))=some ((if s ∈ U then U else U++[s]).map knU):=by
      show (if decide ((U.map knU).length < sizeLine) then ((spD s).tkey?).map fun q=>Y6c (U.map knU) (spD s) q (.d (.bl true)) else none)=_
      rw [if_pos (decide_eq_true (by rw [List.length_map,sizeLine_eq]; omega)),X2n]
      show some (Y6c (U.map knU) (spD s) (spK s) (.d (.bl true)))=_
      rw [W86]
    have ih2:=ih (fun r hr=>h r (List.mem_cons_of_mem _ hr)) (U:=if s ∈ U then U else U++[s]) (by
      by_cases c:s ∈ U
      · rw [if_pos c]; omega
      · rw [if_neg c,List.length_append,List.length_singleton]; omega)
    rw [List.map_cons]
    unfold Y9b
    simp only [Lk.ok,if_true,h1,Z0n,R.ne,R.bind,h2,h3,hd,ih2]
    rfl
theorem W4c {i:Nat} {mi:MIt} {e:Ev} {mk mv:M} {vs:List Nat} (hi:mi e S = .ok (V.map spX, .free) S) (hl:V.length ≤ 4000) (h:∀ s ∈ V,∃ e1,Tg.asg S (.nm i) (spX s) (Z05 e vs)=some e1∧mk e1 S = .ok (spX s) S∧mv e1 S = .ok (.d (.bl true)) S) :
    X7k (.nm i) mi Z0n mk mv vs e S = .ok (.r S.length) (S++[.tdc ((uq [] V).map knU)]):=by
  unfold X7k
  rw [hi]
  show (Y9b (.nm i) .free Z0n mk mv (Z05 e vs) [] (V.map spX) S).bind _=_
  rw [show ([]:List (D × X))=([]:List Sp).map knU from rfl,W38 h (by simpa using hl)]
  rfl
theorem X7g {n:Nat} (hS:tdX S (.r n)=some (U.map knU)) (hl:U.length ≤ 4000):Y2a [.r n] S = .ok (.d (Z6q U)) S:=by
  show (match tdX S (.r n) with
    | some kvs=>if decide (kvs.length ≤ sizeLine) then R.ok (X.d (.lst (kvs.map fun p:D × X=>p.1))) S else .bad
    | none => .bad)=_
  rw [hS]
  show (if decide ((U.map knU).length ≤ sizeLine) then R.ok (X.d (.lst ((U.map knU).map (·.1)))) S else .bad)=_
  rw [if_pos (decide_eq_true (by rw [List.length_map,sizeLine_eq]; omega)),List.map_map]
  rfl
theorem W41:Y9m (U.map knU)=U.map spX:=by
  unfold Y9m
  rw [List.map_map]
  rfl
open Classical in
noncomputable def Z3k (t:TQ) (L:List Str) (U:List Sp):Bool:=decide (∀ s ∈ U,∀ x ∈ U4 t L s U,x.later ∈ U)
theorem Z48:Z3k t L U=true ↔ ∀ s ∈ U,∀ x ∈ U4 t L s U,x.later ∈ U:=by simp [Z3k]
theorem X6g {x:StQ} (hs:s ∈ U) (hx:x ∈ U4 t L s U) (hn:x.later ∉ U):Z3k t L U=false:=by
  cases c:Z3k t L U with
  | false=>rfl
  | true=>exact absurd (Z48.mp c s hs x hx) hn
theorem W9t:OkS [.tfc (U.map knU)]:=by
  unfold OkS
  simp only [List.all_cons,List.all_nil,Bool.and_true]
  show (U.map knU).all _=true
  rw [List.all_map]
  exact List.all_eq_true.mpr fun _ _=>rfl
theorem X4h {c:Bool}:trunc 1 (R.ok (.d (.bl c)) [.tfc (U.map knU)]) = .ok (.d (.bl c)) [.tfc (U.map knU)]:=by
  have h:cut 1 [O.tfc (U.map knU)]=some [.tfc (U.map knU)]:=W9t.cut0
  show (match some (X.d (.bl c)),cut 1 [O.tfc (U.map knU)] with
    | some y,some T=>R.ok y T
    | _,_=>R.ok (X.d (.bl c)) [.tfc (U.map knU)])=_
  rw [h]
theorem X4q (hm:∀ s ∈ U,s.m ∈ t.marks) (hl:U.length ≤ 400):g_is_closed [.d t.D, .d (Z21 L), .r 0] [.tdc (U.map knU)] = .ok (.d (.bl (Z3k t L U))) [.tfc (U.map knU)]:=by
  have td1:tdX [.tdc (U.map knU)] (.r 0)=some (U.map knU):=rfl
  let E:Option X→Option X→Ev:=fun o4 o5=>[some (.d t.D),some (.d (Z21 L)),some (.r 0),some (.d (Z6q U)),o4,o5]
  refine W56 (P:=fun r=>r = .ok (.d (.bl (Z3k t L U))) [.tfc (U.map knU)]) ?_
  rw [V03]
  unfold ic
  refine Fw.set (Y7 (Z5 (Z6 rfl) Y1) (X7g td1 (by omega))) ?_
  have hit:Y4j (Z3 2) (E none none) [.tdc (U.map knU)] = .ok (U.map spX, .free) [.tfc (U.map knU)]:=by
    unfold Y4j
    rw [show Z3 2 (E none none) [.tdc (U.map knU)] = .ok (.r 0) [.tdc (U.map knU)] from Z6 rfl]
    show R.ok (Y9m (U.map knU),Lk.free) [.tfc (U.map knU)]=_
    rw [W41]
  refine Fw.for_ (l:=U) (f:=spX) (lk := .free) (S1:=[.tfc (U.map knU)]) hit (fun l e S=>∃ (pre:List Sp) (o4 o5:Option X),U=pre++l∧(∀ s ∈ pre,∀ x ∈ U4 t L s U,x.later ∈ U)∧e=E o4 o5∧S=[.tfc (U.map knU)]) (fun _ _=>False) ⟨[],none,none,rfl,fun _ h=>(nomatch h),rfl,rfl⟩ (fun _ _ _ _=>rfl) ?_ ?_
  · rintro s l e S ⟨pre,o4,o5,hp,hd,rfl,rfl⟩
    have hs:s ∈ U:=by rw [hp]; simp
    refine ⟨E (some (spX s)) o5,rfl,?_⟩
    unfold V2j
    refine Fw.one (Fw.for_ (l:=U4 t L s U) (f:=fun x=>X.d (Z3d x)) (lk := .free) (S1:=[.tfc (U.map knU)]) (Z10 (Y7 (Z5 (Z6 rfl) (Z5 (Z6 rfl) (Z5 (Z6 rfl) (Z5 (Z6 rfl) Y1)))) (W4 rfl (Z42 (X50 (hm s hs) hm hl)))) Z9k) (fun l2 e S=>∃ (pr2:List StQ) (o5:Option X),U4 t L s U=pr2++l2∧(∀ x ∈ pr2,x.later ∈ U)∧e=E (some (spX s)) o5∧S=[.tfc (U.map knU)]) (fun _ _=>False) ⟨[],_,rfl,fun _ h=>(nomatch h),rfl,rfl⟩ (fun _ _ _ _=>rfl) ?_ ?_)
    · rintro x l2 e S ⟨pr2,o5,hp2,hd2,rfl,rfl⟩
      have hx:x ∈ U4 t L s U:=by rw [hp2]; simp
      refine ⟨E (some (spX s)) (some (.d (Z3d x))),rfl,?_⟩
      unfold W2o
      have hin:(tkX [.tfc (U.map knU)] (.r 0) (.d (spD x.later))).map (fun p=>((Z7c p.1 p.2.2).isSome ^^ true))=some (!decide (x.later ∈ U)):=by
        show some ((Z7c (U.map knU) (spK x.later)).isSome ^^ true)=_
        rw [W73,Bool.xor_true]
      refine Fw.one (Fw.if_ (b := !decide (x.later ∈ U)) (Z0v (X3f (U6 (Z6 rfl) rfl) (Z6 rfl) hin)) (Fw.ifc (fun hb=>?_) fun hb=>?_))
      · have hn:x.later ∉ U:=by simpa using hb
        exact Fw.ret V9 (.rt (.rt (by rw [X6g hs hx hn]; exact X4h)))
      · have hy:x.later ∈ U:=by simpa using hb
        refine Fw.seqNil (Fw.nil (.nx ⟨pr2++[x],_,by rw [hp2]; simp,fun z hz=>?_,rfl,rfl⟩))
        rcases List.mem_append.mp hz with hz | hz
        · exact hd2 z hz
        · rw [List.mem_singleton.mp hz]; exact hy
    · intro e S hor
      obtain ⟨pr2,o5,hp2,hd2,rfl,rfl⟩:=hor.resolve_right id
      rw [List.append_nil] at hp2
      refine Fw.nil (.nx ⟨pre++[s],_,_,by rw [hp]; simp,fun r hr=>?_,rfl,rfl⟩)
      rcases List.mem_append.mp hr with hr | hr
      · exact hd r hr
      · rw [List.mem_singleton.mp hr]
        intro x hx
        exact hd2 x (by rw [← hp2]; exact hx)
  · intro e S hor
    obtain ⟨pre,o4,o5,hp,hd,rfl,rfl⟩:=hor.resolve_right id
    rw [List.append_nil] at hp
    have:Z3k t L U=true:=Z48.mpr fun s hs=>hd s (by rw [← hp]; exact hs)
    exact Fw.one (Fw.ret V9 (by rw [this]; exact X4h))
end
end Lw
namespace Lw
open PySem PySem.Spec L2 Bv
open PyProof.Rows hiding St
variable [HasW]
section
variable {t:TQ} {L ls:List Str} {S T:Sto} {f:Str} {s y:Sp} {V U:List Sp} {b:Bool}
def Y5x (V:List Sp):D := .tup (V.map spD)
noncomputable def Z4m (t:TQ) (L:List Str) (f:Str) (U:List Sp):Bool:=decide (begun t ∈ U) && (Z3k t L U && !X3y t L f U)
theorem V2b (hk:t.Ok) (hV:∀ s ∈ V,SpOk t s):(∀ s ∈ uq [] V,SpOk t s)∧(uq [] V).length ≤ 320:=by
  have h1:∀ s ∈ uq [] V,SpOk t s:=fun s hs=>hV s ((X7s.mp hs).resolve_left (by simp))
  exact ⟨h1,X8w hk (X4i List.nodup_nil) h1⟩
theorem X9r {T:Sto} (hT:tdX T (.r 0)=some (U.map knU)):(tkX T (.r 0) (.d (spD y))).map (fun p=>((Z7c p.1 p.2.2).isSome ^^ true))=some (!decide (y ∈ U)):=by
  unfold tkX
  rw [hT]
  show some ((Z7c (U.map knU) (spK y)).isSome ^^ true)=_
  rw [W73,Bool.xor_true]
theorem Y9k (hk:t.Ok) (hn:ls.Nodup) (hL:∀ x ∈ ls,x ∈ X1a) (hf:f ∈ Y01) (hV:∀ s ∈ V,SpOk t s) (hl:V.length ≤ 2000):g_paper_holds [t.D,sqD b (ls.map D.str), .str f,Y5x V] = .ok (.bl (Z4m t (Z43 ls) f (uq [] V))):=by
  obtain ⟨hU,lU⟩:=V2b hk hV
  refine Z00 ?_
  unfold Z75
  refine Fw.set (Y7 (Z5 (Z6 rfl) Y1) (W4 rfl (Y3g (Z8g hn hL)))) ?_
  refine Fw.expr (Y7 (Z5 (Z6 rfl) Y1) (W4 rfl (Y3g (Y0a hf)))) ?_
  let E:Option X→Ev:=fun o5=>[some (.d t.D),some (.d (sqD b (ls.map D.str))),some (.d (.str f)),some (.d (Y5x V)),some (.d (Z21 (Z43 ls))),o5,none,none]
  show Fw ((_:MS) (E none) _) _
  refine Fw.if_ (b:=false) (Z34 (Z3a (W1 (Y4h (Z6 rfl) rfl) rfl)) (Z3a (W1 (Y7 (Z5 (S1:=[]) (x := .d (.lst ((V.map fun _=>true).map D.bl))) ?_ (Y1 (S:=[]))) (W31 (T:=[]))) ?_))) (Fw.iff (Fw.seqNil ?_))
  · rw [List.map_map]
    exact Y1j (fun s=>X.d (spD s)) (fun _=>D.bl true) (l:=V) (Z10 (Z6 rfl) Y00) (by rw [sizeLine_eq]; omega) fun s hs=>⟨_,rfl,Y7 (Z5 (Z6 rfl) (Z5 (Z6 rfl) Y1)) (W4 rfl (Y9f (Y4k (hV s hs))))⟩
  · show some ((V.map fun _=>true).all id)=_
    congr 1
    rw [List.all_eq_true]
    intro x hx
    obtain ⟨_,_,rfl⟩:=List.mem_map.mp hx
    rfl
  let U:=uq [] V
  have lU:U.length ≤ 320:=lU
  refine Fw.set (x := .r 0) (S1:=[.tdc (U.map knU)]) (W4c (Z10 (Z6 rfl) Y00) (by omega) fun s hs=>⟨_,rfl,Z6 rfl,V9⟩) ?_
  show Fw ((_:MS) (E (some (.r 0))) _) _
  have eb:Z0d (Y2i true (Y0 (Y9 1 (X5 [] (callP g_begun))) (Z0 (Z3 0) (Z7))) (Z3 5)) (E (some (.r 0))) [.tdc (U.map knU)] = .ok (!decide (begun t ∈ U)) [.tdc (U.map knU)]:=Z0v (X3f (Y7 (Z5 (Z6 rfl) Y1) (W4 rfl (Y3g Y87))) (Z6 rfl) (X9r rfl))
  by_cases hb:begun t ∈ U
  · rw [decide_eq_true hb] at eb
    have ec:Y0 (Y9 3 (X5 [] g_is_closed)) (Z0 (Z3 0) (Z0 (Z3 4) (Z0 (Z3 5) (Z7)))) (E (some (.r 0))) [.tdc (U.map knU)] = .ok (.d (.bl (Z3k t (Z43 ls) U))) [.tfc (U.map knU)]:=Y7 (Z5 (Z6 rfl) (Z5 (Z6 rfl) (Z5 (Z6 rfl) Y1))) (W4 rfl (X4q (fun s hs=>(hU s hs).mm) (by omega)))
    refine Fw.if_ (b := !Z3k t (Z43 ls) U) (Z34 eb (Z4v (W1 ec rfl))) (Fw.ifc (fun hc=>?_) fun hc=>Fw.seqNil ?_)
    · have hc:Z3k t (Z43 ls) U=false:=by simpa using hc
      exact Fw.retP V9 Y4 (by show _=PR.ok (D.bl (Z4m t (Z43 ls) f U)); unfold Z4m; rw [hc,Bool.false_and,Bool.and_false]; rfl)
    · have hc:Z3k t (Z43 ls) U=true:=by simpa using hc
      refine Fw.one (Fw.retP (Y9g (Y7 (Z5 (Z6 rfl) (Z5 (Z6 rfl) (Z5 (Z6 rfl) (Z5 (Y7 (Z5 (Z6 rfl) Y1) (X7g (U:=U) rfl (by omega))) Y1)))) (W4 rfl (Z42 (X1z hk fun s hs=>⟨(hU s hs).mm,(hU s hs).wh⟩)))) rfl) Y4 ?_)
      show PR.ok (D.bl (!X3y t (Z43 ls) f U))=PR.ok (D.bl (Z4m t (Z43 ls) f U))
      unfold Z4m
      rw [hc,decide_eq_true hb,Bool.true_and,Bool.true_and]
  · rw [decide_eq_false hb] at eb
    refine Fw.if_ (b:=true) (W2l eb) (Fw.ift (Fw.retP V9 Y4 ?_))
    show _=PR.ok (D.bl (Z4m t (Z43 ls) f U))
    unfold Z4m
    rw [decide_eq_false hb,Bool.false_and]
    rfl
end
end Lw
namespace Lw
open PySem PySem.Spec L2 Bv
open PyProof.Rows hiding St
variable [HasW]
section
variable {t:TQ} {L ls:List Str} {f:Str} {s:Sp} {V U U2:List Sp} {b:Bool}
theorem Y88 (h1:begun t ∈ U) (h2:Z3k t L U=true) (hr:Rc t L s):s ∈ U:=by
  induction hr with
  | beg=>exact h1
  | st hs hx hsrc ih1 ih2=>exact Z48.mp h2 _ ih1 _ (Y0x.mpr ⟨hx,ih2⟩)
theorem X5c (hr:Rc t L s) (hn:s ∉ U):Z4m t L f U=false:=by
  unfold Z4m
  by_cases h1:begun t ∈ U
  · cases h2:Z3k t L U with
    | false=>rw [Bool.false_and,Bool.and_false]
    | true=>exact absurd (Y88 h1 h2 hr) hn
  · rw [decide_eq_false h1,Bool.false_and]
theorem W3m:s ∈ uq [] V ↔ s ∈ V:=X7s.trans (by simp)
end
end Lw
namespace Lw
open PySem PySem.Spec L2 Bv
open PyProof.Rows hiding St
variable [HasW]
def V2e:MS:=(Y2 (Z0k (Z0d (Y5 W62 (X4 ["Step"] "row" (Z3 3)) (m_c .non))) (Y3e (X4 ["Closure"] "rows_done" (Z3 0)) (X4 ["Step"] "row" (Z3 3)) (m_c (.bl true))) W7) (Z0k (Z0d (Y2i true (X4 ["Step"] "later" (Z3 3)) (X4 ["Closure"] "ahead" (Z3 0)))) (Y2 (Y5c (X4 ["Closure"] "ahead" (Z3 0)) (X4 ["Step"] "later" (Z3 3)) (V4 (Z0 (Z3 1) (Z0 (Z3 3) Z7)))) (U1 (Z3b Q5 Q0 (X4 ["Closure"] "order" (Z3 0)) (Z0 (X4 ["Step"] "later" (Z3 3)) Z7)))) W7))
def cn:MS:=(Z2o (.nm 3) (Q9 (Z3 2)) V2e)
theorem V0h:Z5i=cn:=by kernel_rfl
def V2i:MS:=(U1 (Z1n "Closure" "note" (Y9 3 (X5 [] Z1s)) (Z3 0) (Z0 (Z3 3) (Z0 (Y0 (Y9 4 (X5 [] (callP g_edition_steps))) (Z0 (X4 ["Closure"] "maker" (Z3 0)) (Z0 (X4 ["Closure"] "lets" (Z3 0)) (Z0 (Z3 3) (Z0 (Q7 (Z0 (Z3 1) Z7)) Z7))))) Z7))))
def gf:MS:=(Y2 (U1 (Z1n "Closure" "note" (Y9 3 (X5 [] Z1s)) (Z3 0) (Z0 (Z3 1) (Z0 (Y0 (Y9 4 (X5 [] (callP g_all_steps))) (Z0 (X4 ["Closure"] "maker" (Z3 0)) (Z0 (X4 ["Closure"] "lets" (Z3 0)) (Z0 (Z3 1) (Z0 (Z3 2) Z7))))) Z7)))) (Y2 (Z2o (.nm 3) (Q9 (X4 ["Closure"] "resting" (Z3 0))) V2i) (Z0k (Q3 (Z0d (Y5 eqD (Z1m (Z3 1) (m_c (.int 0))) (X4 ["Tool"] "blank" (X4 ["Closure"] "maker" (Z3 0))))) (Q3 (W8 (Y6 (Z1m (Z3 1) (m_c (.int 2))))) (W8 (Y6 (Z1m (Z3 1) (m_c (.int 3))))))) (U1 (Z3b Q5 Q0 (X4 ["Closure"] "resting" (Z3 0)) (Z0 (Z3 1) Z7))) W7)))
theorem V0y:Z3t=gf:=by kernel_rfl
def V2d:MS:=(Y2 (U1 (Z1n "Closure" "go_from" (Y9 3 (X5 [] Z2m)) (Z3 0) (Z0 (Z1m (X4 ["Closure"] "order" (Z3 0)) (Z3 4)) (Z0 (V8 (X4 ["Closure"] "order" (Z3 0)) Z5n (Q4 (Y5 Z8j (Z3 4) (m_c (.int 1))))) Z7)))) (X2g 4 W98 (m_c (.int 1))))
def ci:MS:=(Y2 (Z0s ["Closure"] "maker" (Z3 0) (Z3 1)) (Y2 (Z0s ["Closure"] "lets" (Z3 0) (Z3 2)) (Y2 (V6 3 (Y0 (Y9 1 (X5 [] (callP g_begun))) (Z0 (Z3 1) Z7))) (Y2 (Z0s ["Closure"] "order" (Z3 0) (Q8 (Z0 (Z3 3) Z7))) (Y2 (Z0s ["Closure"] "ahead" (Z3 0) (Y4q (Z3 3) (m_c .non))) (Y2 (Z0s ["Closure"] "rows_done" (Z3 0) X1x) (Y2 (Z0s ["Closure"] "resting" (Z3 0) (Q8 Z7)) (Y2 (V6 4 (m_c (.int 0))) (Z7e (Z0d (Y5 ltD (Z3 4) (Y0 Z3i (Z0 (X4 ["Closure"] "order" (Z3 0)) (Z7))))) V2d)))))))))
theorem V0d:Z5h=ci:=by kernel_rfl
def ahV:Option (Sp × StQ)→X
  | none => .d .non
  | some (s,x) => .d (.tup [spD s,Z3d x])
def rwX (k:Nat):D × X:=(.int k, .d (.bl true))
def ahX (a:Sp × Option (Sp × StQ)):D × X:=(spD a.1,ahV a.2)
def clF (t:TQ) (L:List Str):List (Str × X):=[("maker", .d t.D),("lets", .d (Z21 L)),("order", .r 1),("ahead", .r 2),("rows_done", .r 3),("resting", .r 4)]
def clS (t:TQ) (L:List Str) (c:Cl):Sto:=[.ins "Closure" (clF t L), .lst (c.ord.map spX), .tdc (c.ahd.map ahX), .dic (c.rws.map rwX), .lst (c.rst.map spX)]
theorem W7k {t:TQ} {L:List Str} {c:Cl}:OkS (clS t L c):=by
  unfold OkS clS
  simp only [List.all_cons,List.all_nil,Bool.and_true,Bool.and_eq_true]
  refine ⟨rfl,?_,?_,?_,?_⟩
  · show (c.ord.map spX).all (okX _)=true
    rw [List.all_map]; exact List.all_eq_true.mpr fun _ _=>rfl
  · show (c.ahd.map ahX).all _=true
    rw [List.all_map]
    refine List.all_eq_true.mpr fun a _=>?_
    obtain ⟨y,o⟩:=a
    cases o <;> rfl
  · show (c.rws.map rwX).all _=true
    rw [List.all_map]; exact List.all_eq_true.mpr fun _ _=>rfl
  · show (c.rst.map spX).all (okX _)=true
    rw [List.all_map]; exact List.all_eq_true.mpr fun _ _=>rfl
theorem X4g {t:TQ} {L:List Str} {c:Cl}:trunc 5 (R.ok (.d .non) (clS t L c)) = .ok (.d .non) (clS t L c):=X05 W7k.cut0
section
variable {t:TQ} {L:List Str} {c c2:Cl} {s r:Sp} {x:StQ} {xs:List StQ} {Sr:List Sp}
theorem X1g {T:Sto}:Z3j ["Step"] "row" T (.d (Z3d x))=some (.d (W66 x.row)):=rfl
theorem W52 {k:Nat}:Y69 (c.rws.map rwX) (.int k) (.d (.bl true))=(c.row (some k)).map rwX:=by
  have hi:∀ j:Nat,(D.int j=D.int k)→j=k:=fun j e=>by
    have:(j:Int)=k:=by injection e
    omega
  show _=(if k ∈ c.rws then c.rws else c.rws++[k]).map rwX
  by_cases h:k ∈ c.rws
  · rw [if_pos h]
    refine W51 (fun p hp e=>?_) ⟨rwX k,List.mem_map.mpr ⟨k,h,rfl⟩,rfl⟩
    obtain ⟨j,_,rfl⟩:=List.mem_map.mp hp
    rfl
  · rw [if_neg h,W50 (fun p hp e=>?_),List.map_append]
    · rfl
    · obtain ⟨j,hj,rfl⟩:=List.mem_map.mp hp
      have:=hi j e
      subst this
      exact h hj
def evN (s:Sp) (xs:List StQ) (o:Option X):Ev:=[some (.r 0),some (.d (spD s)),some (.d (Z2q xs)),o]
theorem W1c (c:Cl) (s:Sp) (x:StQ):(c.note1 s x).ord.length ≤ c.ord.length + 1∧(c.note1 s x).rws.length ≤ c.rws.length + 1∧((c.ahd.map (·.1)=c.ord)→(c.note1 s x).ahd.map (·.1)=(c.note1 s x).ord):=by
  have h1:(c.row x.row).length ≤ c.rws.length + 1:=by
    cases x.row with
    | none=>show c.rws.length ≤ _; omega
    | some k =>
      show (if k ∈ c.rws then c.rws else c.rws++[k]).length ≤ _
      split
      · omega
      · simp
  unfold Cl.note1
  split
  · exact ⟨by simp,h1,id⟩
  · exact ⟨by simp,h1,fun h=>by simp [h]⟩
theorem W1d:Z1s [.r 0, .d (spD s), .d (Z2q xs)] (clS t L c) = .ok (.d .non) (clS t L (c.note s xs)) ∨ ¬ (c.ahd.map (·.1)=c.ord∧c.ord.length + xs.length < 100000∧c.rws.length + xs.length < 100000):=by
  by_cases hq:c.ahd.map (·.1)=c.ord∧c.ord.length + xs.length < 100000∧c.rws.length + xs.length < 100000
  case neg=>exact .inr hq
  obtain ⟨ha,hl,hr⟩:=hq
  refine .inl ?_
  suffices h:Fw (cn (evN s xs none) (clS t L c)) (fun r=>∃ e,r = .go (.nx e) (clS t L (c.note s xs))) by
    obtain ⟨e,h⟩:=h
    show trunc _ (Z8m (Z5i _ _))=_
    rw [V0h]
    show trunc 5 (Z8m (cn (evN s xs none) (clS t L c)))=_
    rw [h]
    exact X4g
  unfold cn
  refine Fw.one (Fw.for_ (l:=xs) (f:=fun x=>X.d (Z3d x)) (lk := .free) (S1:=clS t L c) (Z10 (Z6 rfl) Z9k) (fun l e S=>∃ (c1:Cl) (o:Option X),e=evN s xs o∧S=clS t L c1∧c1.ahd.map (·.1)=c1.ord∧c1.ord.length + l.length < 100000∧c1.rws.length + l.length < 100000∧c1.note s l=c.note s xs) (fun _ _=>False) ⟨c,none,rfl,rfl,ha,hl,hr,rfl⟩ (fun _ _ _ _=>rfl) ?_ ?_)
  · rintro x l e S ⟨c1,o,rfl,rfl,ha,hl,hr,hn⟩
    refine ⟨evN s xs (some (.d (Z3d x))),rfl,?_⟩
    rw [List.length_cons] at hl hr
    unfold V2e
    refine Fw.seqN (P:=fun e1 S1=>e1=evN s xs (some (.d (Z3d x)))∧S1=clS t L { c1 with rws:=c1.row x.row }) ?_ ?_
    · cases hrow:x.row with
      | none =>
        refine Fw.one (Fw.if_ (b:=false) (Z0v (X8 (U6 (Z6 rfl) X1g) V9 Y4 Y4 (by rw [hrow]; rfl))) (Fw.iff (Fw.seqNil (Fw.nil ⟨_,_,rfl,rfl,rfl⟩))))
      | some k =>
        refine Fw.one (Fw.if_ (b:=true) (Z0v (X8 (U6 (Z6 rfl) X1g) V9 Y4 Y4 (by rw [hrow]; rfl))) (Fw.ift (Fw.dput (p:=(3,c1.rws.map rwX, .int k)) V9 (U6 (x := .r 0) (z := .r 3) (Z6 rfl) rfl) (U6 (Z6 rfl) X1g) ?_ (Fw.nil ⟨_,_,rfl,rfl,?_⟩))))
        · rw [hrow]
          show (if decide ((c1.rws.map rwX).length < sizeLine) then _ else _)=_
          rw [if_pos (decide_eq_true (by rw [List.length_map,sizeLine_eq]; omega))]
          rfl
        · rw [W52]
          rfl
    rintro e1 S1 ⟨rfl,rfl⟩
    have hin:∀ {T:Sto},T=clS t L { c1 with rws:=c1.row x.row }→(tkX T (.r 2) (.d (spD x.later))).map (fun p=>((Z7c p.1 p.2.2).isSome ^^ true))=some (!decide (x.later ∈ c1.ord)):=fun {T} hT=>by
      subst hT
      show some ((Z7c (c1.ahd.map ahX) (spK x.later)).isSome ^^ true)=_
      rw [show (c1.ahd.map ahX)=c1.ahd.map fun a=>(spD a.1,ahV a.2) from rfl,X7i,ha,Bool.xor_true]
    obtain ⟨n1,n2,n3⟩:=W1c c1 s x
    have nx:∀ {S2:Sto},S2=clS t L (c1.note1 s x)→Trn (fun e S=>∃ (c1:Cl) (o:Option X),e=evN s xs o∧S=clS t L c1∧c1.ahd.map (·.1)=c1.ord∧c1.ord.length + l.length < 100000∧c1.rws.length + l.length < 100000∧c1.note s l=c.note s xs) (fun _ _=>False) (fun r=>∃ e,r = .go (.nx e) (clS t L (c.note s xs))) (.go (.nx (evN s xs (some (.d (Z3d x))))) S2):=fun hS => .nx ⟨c1.note1 s x,_,rfl,hS,n3 ha,by omega,by omega,hn⟩
    refine Fw.one (Fw.if_ (b := !decide (x.later ∈ c1.ord)) (Z0v (X3f (U6 (Z6 rfl) Z7i) (U6 (x := .r 0) (z := .r 2) (Z6 rfl) rfl) (hin rfl))) (Fw.ifc (fun hb=>?_) fun hb=>?_))
    · have hno:x.later ∉ c1.ord:=by simpa using hb
      have e1:c1.note1 s x=⟨c1.ord++[x.later],c1.ahd++[(x.later,some (s,x))],c1.row x.row,c1.rst⟩:=if_neg hno
      refine Fw.seqSeq ?_
      have hla:c1.ahd.length=c1.ord.length:=by rw [← ha,List.length_map]
      have hput:X2s (clS t L { c1 with rws:=c1.row x.row }) (.r 2) (.d (spD x.later))=some (2,c1.ahd.map ahX,spD x.later,spK x.later):=by
        show (if decide ((c1.ahd.map ahX).length < sizeLine) then _ else _)=_
        rw [if_pos (decide_eq_true (by rw [List.length_map,sizeLine_eq]; omega))]
        rfl
      refine Fw.seq (e1:=evN s xs (some (.d (Z3d x)))) (S1:=[.ins "Closure" (clF t L), .lst (c1.ord.map spX), .tdc ((c1.ahd++[(x.later,some (s,x))]).map ahX), .dic ((c1.row x.row).map rwX), .lst (c1.rst.map spX)]) ((X81 (Z1r (ds:=[spD s,Z3d x]) (Z5 (Z6 rfl) (Z5 (Z6 rfl) Y1)) rfl (hz4 (by simp))) (U6 (x := .r 0) (z := .r 2) (Z6 rfl) rfl) (U6 (Z6 rfl) Z7i) hput).trans (congrArg (RO.go (.nx _)) ?_)) ?_
      · rw [show (c1.ahd.map ahX)=c1.ahd.map fun a=>(spD a.1,ahV a.2) from rfl,W3d (by rw [ha]; exact hno),List.map_append]
        rfl
      · refine Fw.expr (Y1f (U6 (x := .r 0) (z := .r 1) (Z6 rfl) rfl) (Z4b (xs:=c1.ord.map spX) rfl) (Z5 (U6 (Z6 rfl) Z7i) Y1) (Y03 (xs:=c1.ord.map spX) rfl (by rw [List.length_map,sizeLine_eq]; omega))) (Fw.nil (nx ?_))
        rw [e1]
        unfold clS
        simp only [List.map_append]
        rfl
    · have hin:x.later ∈ c1.ord:=by simpa using hb
      have e1:c1.note1 s x={ c1 with rws:=c1.row x.row }:=if_pos hin
      exact Fw.seqNil (Fw.nil (nx (by rw [e1])))
  · intro e S hor
    obtain ⟨c1,o,rfl,rfl,ha,hl,hr,hn⟩:=hor.resolve_right id
    exact Fw.nil ⟨_,by rw [← hn]; rfl⟩
theorem Y93 (h:ClOk t L c) (h1:c.ord.length + xs.length < 100000) (h2:c.rws.length + xs.length < 100000):Z1s [.r 0, .d (spD s), .d (Z2q xs)] (clS t L c) = .ok (.d .non) (clS t L (c.note s xs)) :=
  W1d.resolve_right fun z=>z ⟨h.ah,h1,h2⟩
theorem W3s (hl:Sr.length ≤ 320):(U4 t L s Sr).length ≤ 6000:=by
  have l1:=Z87 (t:=t) (L:=L) (s:=s)
  have l2:=Z8d (t:=t) (s:=s)
  have l3:=Y0u (t:=t) (L:=L) (s:=s) (Sr:=Sr)
  unfold U4
  rw [List.length_append,List.length_append]
  omega
def evG (s:Sp) (Sr:List Sp) (o:Option X):Ev:=[some (.r 0),some (.d (spD s)),some (.d (Z6q Sr)),o]
theorem W7x {i:Nat} (hk:t.Ok) (h:ClAt t L c i) (hs:c.ord[i]?=some s):Z2m [.r 0, .d (spD s), .d (Z6q (c.ord.take (i + 1)))] (clS t L c) = .ok (.d .non) (clS t L (Cl.go t L c s (c.ord.take (i + 1)))):=by
  have hm:s ∈ c.ord:=List.mem_of_getElem? hs
  have lc:=h.ok.len hk
  have lr:=h.ok.rlen hk
  have lt:(c.ord.take (i + 1)).length ≤ 320:=Nat.le_trans (List.length_take_le' _ _) lc
  have hmk:∀ r ∈ c.ord,r.m ∈ t.marks:=fun r hr=>((h.ok.rc r hr).ok hk).mm
  have hsm:=hmk s hm
  obtain ⟨h1,l1,_⟩:=Y40 (xs:=U4 t L s (c.ord.take (i + 1))) h.ok hm fun x hx=>by
    obtain ⟨a,b⟩:=Y0x.mp hx
    exact ⟨a,fun r e=>List.mem_of_mem_take (b r e)⟩
  have hrst:∀ o ∈ c.rst,o ∈ c.ord:=fun o ho=>by rw [h.rst] at ho; exact List.mem_of_mem_take (List.mem_filter.mp ho).1
  let Sr:=c.ord.take (i + 1)
  let c1:=c.note s (U4 t L s Sr)
  have ltS:Sr.length ≤ 320:=lt
  have ll:(U4 t L s Sr).length ≤ 6000:=W3s ltS
  have e1:=Y93 (s:=s) (xs:=U4 t L s Sr) h.ok (by omega) (by omega)
  suffices hw:Fw (gf (evG s Sr none) (clS t L c)) (fun r=>∃ e,r = .go (.nx e) (clS t L (Cl.go t L c s Sr))) by
    obtain ⟨e,hw⟩:=hw
    show trunc _ (Z8m (Z3t _ _))=_
    rw [V0y]
    show trunc 5 (Z8m (gf (evG s Sr none) (clS t L c)))=_
    rw [hw]
    exact X4g
  unfold gf
  refine Fw.expr (Z5y (x := .r 0) (Z6 rfl) rfl (Z5 (Z6 rfl) (Z5 (Y7 (Z5 (U6 (x := .r 0) (z := .d t.D) (Z6 rfl) rfl) (Z5 (U6 (x := .r 0) (z := .d (Z21 L)) (Z6 rfl) rfl) (Z5 (Z6 rfl) (Z5 (Z6 rfl) Y1)))) (W4 rfl (Z42 (X50 hsm (fun r hr=>hmk r (List.mem_of_mem_take hr)) (Nat.le_trans ltS (by decide)))))) Y1)) (W4 rfl e1)) ?_
  have hr1:c1.rst=c.rst:=l1.rst
  refine Fw.for_ (l:=c.rst) (f:=spX) (lk := .lst 4 (c.rst.map spX)) (S1:=clS t L c1) (Z10 (U6 (x := .r 0) (z := .r 4) (Z6 rfl) rfl) (by show some (c1.rst.map spX,Lk.lst 4 (c1.rst.map spX))=_; rw [hr1])) (fun l e S=>∃ (c2:Cl) (o:Option X),e=evG s Sr o∧S=clS t L c2∧ClOk t L c2∧s ∈ c2.ord∧(∀ o ∈ l,o ∈ c2.ord)∧c2.rst=c.rst∧Cl.rests t L c2 s l=Cl.rests t L c1 s c.rst) (fun _ _=>False) ⟨c1,none,rfl,rfl,h1,l1.ord.subset hm,fun o ho=>l1.ord.subset (hrst o ho),hr1,rfl⟩ ?_ ?_ ?_
  · rintro l e S ⟨c2,o,rfl,rfl,_,_,_,hr2,_⟩
    show decide (c2.rst.map spX=c.rst.map spX)=true
    rw [hr2]
    simp
  · rintro o l e S ⟨c2,o3,rfl,rfl,k1,k2,k3,k4,k5⟩
    refine ⟨evG s Sr (some (spX o)),rfl,?_⟩
    have ho:=k3 o (by simp)
    have hom:o.m ∈ t.marks:=((k1.rc o ho).ok hk).mm
    have le:=Y0u (t:=t) (L:=L) (s:=o) (Sr:=[s])
    have lc2:=k1.len hk
    have lr2:=k1.rlen hk
    have ed:∀ x ∈ Z1q t L o [s],Stp t L o x∧∀ r,x.src=some r→r ∈ c2.ord:=fun x hx=>by
      obtain ⟨h1,h2⟩:=Y0x.mp (W2h hx)
      exact ⟨h1,fun r e=>by rw [List.mem_singleton.mp (h2 r e)]; exact k2⟩
    obtain ⟨n1,n2,_⟩:=Y40 k1 ho ed
    have e2:=Y93 (s:=o) (xs:=Z1q t L o [s]) k1 (by simp at le; omega) (by simp at le; omega)
    unfold V2i
    refine Fw.one (Fw.expr (Z5y (x := .r 0) (Z6 rfl) rfl (Z5 (Z6 rfl) (Z5 (Y7 (Z5 (U6 (x := .r 0) (z := .d t.D) (Z6 rfl) rfl) (Z5 (U6 (x := .r 0) (z := .d (Z21 L)) (Z6 rfl) rfl) (Z5 (Z6 rfl) (Z5 (Z2l (ds:=[spD s]) (Z5 (Z6 rfl) Y1) rfl (hz4 (by simp))) Y1)))) (W4 rfl (Z42 (Y4d (Sr:=[s]) hom (fun r hr=>by rw [List.mem_singleton.mp hr]; exact hsm) (by simp))))) Y1)) (W4 rfl e2)) (Fw.nil (.nx ⟨c2.note o (Z1q t L o [s]),_,rfl,rfl,n1,n2.ord.subset k2,fun y hy=>n2.ord.subset (k3 y (List.mem_cons_of_mem _ hy)),n2.rst.trans k4,k5⟩)))
  · intro e S hor
    obtain ⟨c2,o3,rfl,rfl,k1,k2,_,k4,k5⟩:=hor.resolve_right id
    have k5:c2=Cl.rests t L c1 s c.rst:=k5
    have e3:Cl.go t L c s Sr=if Z8i t s=true then { c2 with rst:=c2.rst++[s] } else c2:=by rw [k5]; rfl
    refine Fw.one (Fw.if_ (b:=Z8i t s) (Z4g (Z0v (X8 (Z3u (Z6 rfl) V9 si0) (U6 (U6 (x := .r 0) (z := .d t.D) (Z6 rfl) rfl) Z1z) Y4 Y4 Z28)) fun _=>Z4g (Z4v (W1 (Z3u (Z6 rfl) V9 si2) rfl)) fun _=>Z4v (W1 (Z3u (Z6 rfl) V9 si3) rfl)) (Fw.ifc (fun hb=>?_) fun hb=>?_))
    · rw [if_pos hb] at e3
      refine Fw.expr (Y1f (U6 (x := .r 0) (z := .r 4) (Z6 rfl) rfl) (Z4b (xs:=c2.rst.map spX) rfl) (Z5 (Z6 rfl) Y1) (Y03 (xs:=c2.rst.map spX) rfl ?_)) (Fw.nil ⟨evG s Sr o3,?_⟩)
      · rw [List.length_map,sizeLine_eq,k4,h.rst]
        have:((c.ord.take i).filter (Z8i t)).length ≤ 320:=Nat.le_trans (List.length_filter_le _ _) (Nat.le_trans (List.length_take_le' _ _) lc)
        omega
      · rw [e3]
        unfold clS
        simp only [List.map_append]
        rfl
    · rw [if_neg (nt hb)] at e3
      exact Fw.seqNil (Fw.nil ⟨evG s Sr o3,by rw [e3]⟩)
theorem X90 (xs:List X) (i:Nat):Z6f xs none (some ((i:Int) + 1))=xs.take (i + 1):=by
  rw [X6i xs (by omega)]
  rfl
theorem W0e (hk:t.Ok):∃ c i,Z0w [.r 0, .d t.D, .d (Z21 L)] [.ins "Closure" []] = .ok (.d .non) (clS t L c)∧ClAt t L c i∧c.ord.length ≤ i:=by
  have n:¬ (("maker" : Str) = "lets")∧¬ (("maker" : Str) = "order")∧¬ (("maker" : Str) = "ahead")∧¬ (("maker" : Str) = "rows_done")∧¬ (("maker" : Str) = "resting")∧¬ (("lets" : Str) = "order")∧¬ (("lets" : Str) = "ahead")∧¬ (("lets" : Str) = "rows_done")∧¬ (("lets" : Str) = "resting")∧¬ (("order" : Str) = "ahead")∧¬ (("order" : Str) = "rows_done")∧¬ (("order" : Str) = "resting")∧¬ (("ahead" : Str) = "rows_done")∧¬ (("ahead" : Str) = "resting")∧¬ (("rows_done" : Str) = "resting"):=by decide +kernel
  obtain ⟨n1,n2,n3,n4,n5,n6,n7,n8,n9,n10,n11,n12,n13,n14,n15⟩:=n
  suffices hw:Fw (ci [some (.r 0),some (.d t.D),some (.d (Z21 L)),none,none] [.ins "Closure" []]) (fun r=>∃ c i e,r = .go (.nx e) (clS t L c)∧ClAt t L c i∧c.ord.length ≤ i) by
    obtain ⟨c,i,e,hw,h1,h2⟩:=hw
    refine ⟨c,i,?_,h1,h2⟩
    show Z8m (Z5h _ _)=_
    rw [V0d]
    show Z8m (ci [some (.r 0),some (.d t.D),some (.d (Z21 L)),none,none] _)=_
    rw [hw]
    rfl
  unfold ci
  have fl:∀ {f:Str} {m:M} {e:Ev} {fs fs2:List (Str × X)} {y:X} {R R2:Sto} {k:MS} {Q:RO→Prop},e[0]?=some (some (.r 0))→m e (.ins "Closure" fs :: R) = .ok y (.ins "Closure" fs :: R2)→Z6l f y fs=fs2→fs.length < 1000→Fw (k e (.ins "Closure" fs2 :: R2)) Q→Fw (Y2 (Z0s ["Closure"] f (Z3 0) m) k e (.ins "Closure" fs :: R)) Q:=fun {f m e fs fs2 y R R2 k Q} h0 hm hf hl hq=>by
    refine Fw.fld hm (Z6 h0) (S3 := .ins "Closure" fs2 :: R2) ?_ hq
    show (if (["Closure"]:List Str).contains "Closure" && decide (fs.length < 1000) then some (O.ins "Closure" (Z6l f y fs) :: R2) else none)=_
    rw [decide_eq_true hl,hf]
    rfl
  refine fl (fs2:=[("maker", .d t.D)]) (R2:=[]) rfl (Z6 rfl) rfl (Nat.le_of_ble_eq_true rfl) ?_
  refine fl (fs2:=[("maker", .d t.D),("lets", .d (Z21 L))]) (R2:=[]) rfl (Z6 rfl) (by simp [Z6l,n1]) (Nat.le_of_ble_eq_true rfl) ?_
  refine Fw.set (Y7 (Z5 (Z6 rfl) Y1) (W4 rfl (Y3g Y87))) ?_
  refine fl (fs2:=[("maker", .d t.D),("lets", .d (Z21 L)),("order", .r 1)]) (R2:=[.lst [spX (begun t)]]) rfl (Z7b (Z5 (Z6 rfl) Y1) (hz4 (by simp))) (by simp [Z6l,n2,n6]) (Nat.le_of_ble_eq_true rfl) ?_
  refine fl (fs2:=[("maker", .d t.D),("lets", .d (Z21 L)),("order", .r 1),("ahead", .r 2)]) (R2:=[.lst [spX (begun t)], .tdc [ahX (begun t,none)]]) rfl (by rfl) (by simp [Z6l,n3,n7,n10]) (Nat.le_of_ble_eq_true rfl) ?_
  refine fl (fs2:=[("maker", .d t.D),("lets", .d (Z21 L)),("order", .r 1),("ahead", .r 2),("rows_done", .r 3)]) (R2:=[.lst [spX (begun t)], .tdc [ahX (begun t,none)], .dic []]) rfl (by rfl) (by simp [Z6l,n4,n8,n11,n13]) (Nat.le_of_ble_eq_true rfl) ?_
  refine fl (fs2:=clF t L) (R2:=[.lst [spX (begun t)], .tdc [ahX (begun t,none)], .dic [], .lst []]) rfl (Z7b Y1 (hz4 (by simp))) (by simp [Z6l,n5,n9,n12,n14,n15,clF]) (Nat.le_of_ble_eq_true rfl) ?_
  refine Fw.set V9 ?_
  let E:Nat→Ev:=fun i=>[some (.r 0),some (.d t.D),some (.d (Z21 L)),some (spX (begun t)),some (.d (.int i))]
  show Fw ((_:MS) (E 0) (clS t L (Cl.new t))) _
  refine Fw.one (Fw.while_ 400 (by decide) (fun n e S=>∃ (c:Cl) (i:Nat),e=E i∧S=clS t L c∧ClAt t L c i∧i ≤ c.ord.length∧n=400 - i) (fun e S=>∃ (c:Cl) (i:Nat),e=E i∧S=clS t L c∧ClAt t L c i∧c.ord.length ≤ i) ⟨_,0,rfl,rfl,W8p,Nat.zero_le _,rfl⟩ ?_ ?_)
  · rintro n e S ⟨c,i,rfl,rfl,h,hi,hn⟩
    have lc:=h.ok.len hk
    refine ⟨decide ((i:Int) < (c.ord.length:Nat)),clS t L c,Z0v (X8 (Z6 rfl) (Y7 (Z5 (U6 (x := .r 0) (z := .r 1) (Z6 rfl) rfl) Y1) ((X3r (xs:=c.ord.map spX) rfl).trans (by rw [List.length_map]))) Y4 Y4 Y1x),fun hc=>⟨c,i,rfl,rfl,h,?_⟩,fun hc=>?_⟩
    · have:=of_decide_eq_false hc; omega
    have hi2:i < c.ord.length:=by have:=of_decide_eq_true hc; omega
    obtain ⟨s,hs⟩:∃ s,c.ord[i]?=some s:=⟨c.ord[i],List.getElem?_eq_getElem hi2⟩
    refine ⟨400 - (i + 1),by omega,?_⟩
    unfold V2d
    have hix:ixO (clS t L c) (.r 1) (i:Int)=some (spX s):=by
      show atI (c.ord.map spX) (i:Int)=_
      unfold atI ixN
      rw [List.length_map,if_pos (by omega),if_pos (by omega)]
      show (c.ord.map spX)[((i:Nat):Int).toNat]?=_
      rw [Int.toNat_natCast,List.getElem?_map,hs]
      rfl
    have hsl:slX (clS t L c) (.r 1) none (some ((i:Int) + 1))=some (.d (Z6q (c.ord.take (i + 1)))):=by
      show (ds? (Z6f (c.ord.map spX) none (some ((i:Int) + 1)))).map (fun ds=>X.d (.lst ds))=_
      rw [X90,← List.map_take,W14,Y50]
      rfl
    obtain ⟨g1,g2⟩:=V0z h hs
    refine Fw.expr (Z5y (x := .r 0) (Z6 rfl) rfl (Z5 (Z3u (U6 (x := .r 0) (z := .r 1) (Z6 rfl) rfl) (Z6 rfl) hix) (Z5 (Z4a (U6 (x := .r 0) (z := .r 1) (Z6 rfl) rfl) Y4i (Z5a (X8 (Z6 rfl) V9 Y4 Y4 Z30)) hsl) Y1)) (W4 rfl (W7x hk h hs))) ?_
    refine Fw.one (Fw.aug (Z6 rfl) V9 Z30 (Fw.nil (.nx ⟨_,i + 1,rfl,rfl,g1,?_,rfl⟩)))
    have:=g2.length_le
    omega
  · rintro e S ⟨c,i,rfl,rfl,h1,h2⟩
    exact Fw.nil ⟨c,i,_,rfl,h1,h2⟩
theorem Y33 (hk:t.Ok):∃ c,made "Closure" mkM Z0w [.d t.D, .d (Z21 L)] [] = .ok (.r 0) (clS t L c)∧ClOk t L c∧(∀ s,s ∈ c.ord ↔ Rc t L s)∧∀ k,k ∈ c.rws ↔ ∃ s x,Tk t L s x∧x.row=some k:=by
  obtain ⟨c,i,h,h1,h2⟩:=W0e (L:=L) hk
  refine ⟨c,?_,h1.ok,(h1.all h2).1,(h1.all h2).2⟩
  show mkM 0 (Z0w [.r 0, .d t.D, .d (Z21 L)] [.ins "Closure" []])=_
  rw [h]
  rfl
end
end Lw
namespace Lw
open PySem PySem.Spec L2 Bv
open PyProof.Rows hiding St
variable [HasW]
section
variable {t:TQ} {L ls:List Str} {T S:Sto} {f:Str} {b:Bool}
theorem W8h {m0 m1 m2 m3:M} {e:Ev} {c:Cl} (hk:t.Ok) (h1:ClOk t L c) (h2:∀ s,s ∈ c.ord ↔ Rc t L s) (e0:m0 e S = .ok (.d t.D) S) (e1:m1 e S = .ok (.d (Z21 L)) S) (e2:m2 e S = .ok (.d (.str f)) S) (e3:m3 e S = .ok (.r 1) (clS t L c)) :
    Y0 (Y9 4 (X5 [] (callP g_is_met))) (Z0 m0 (Z0 m1 (Z0 m2 (Z0 m3 (Z7))))) e S = .ok (.d (.bl (Y52 t L f))) (clS t L c):=by
  have hin:∀ s ∈ c.ord,s.m ∈ t.marks∧s.wh ∈ Z22:=fun s hs=>by
    have:=(h1.rc s hs).ok hk
    exact ⟨this.mm,this.wh⟩
  have hg:gets (clS t L c) [.d t.D, .d (Z21 L), .d (.str f), .r 1]=some [t.D,Z21 L, .str f,Z6q c.ord]:=by
    have h:(X.r 1).get (clS t L c)=some (Z6q c.ord):=Z6r (by rw [← W14]; rfl)
    unfold gets gets gets gets gets
    rw [h]
    rfl
  rw [← Z9s (f:=f) h2]
  exact Y7 (Z5 e0 (Z5 e1 (Z5 e2 (Z5 e3 Y1)))) (W4 rfl (W4i hg (X1z hk hin) rfl))
theorem W1p {m0 m1:M} {e:Ev} {c:Cl} (hc:made "Closure" mkM Z0w [.d t.D, .d (Z21 L)] [] = .ok (.r 0) (clS t L c)) (e0:m0 e [] = .ok (.d t.D) []) (e1:m1 e [] = .ok (.d (Z21 L)) []):X4 ["Closure"] "order" (Y0 (Y9 2 (X5 [] (made "Closure" mkM Z0w))) (Z0 m0 (Z0 m1 (Z7)))) e [] = .ok (.r 1) (clS t L c) :=
  U6 (x := .r 0) (Y7 (Z5 e0 (Z5 e1 Y1)) (W4 rfl hc)) rfl
end
end Lw
namespace Lw
open PySem PySem.Spec L2 Bv
open PyProof.Rows hiding St
variable [HasW]
section
variable {t:TQ} {L ls fs:List Str} {T S:Sto} {f:Str} {b b2:Bool}
theorem X8a (hk:t.Ok) (hn:ls.Nodup) (hL:∀ x ∈ ls,x ∈ X1a) (hf:f ∈ Y01):∃ N:List Sp,N.Nodup∧(∀ s,s ∈ N ↔ Rc t ls s)∧g_paper [t.D,sqD b (ls.map D.str), .str f] = .ok (if Y52 t ls f=true then .non else .tup (N.map spD)):=by
  obtain ⟨c,e,h1,h2,_⟩:=Y33 (L:=Z43 ls) hk
  have hm:∀ x,x ∈ Z43 ls ↔ x ∈ ls:=fun x=>Y4z hL
  refine ⟨c.ord,h1.nd,fun s=>(h2 s).trans ⟨Y2f hm,Y2f fun x=>(hm x).symm⟩,?_⟩
  rw [← W0m hm f]
  refine Z00 ?_
  unfold X1i
  refine Fw.set (Y7 (Z5 (Z6 rfl) Y1) (W4 rfl (Y3g (Z8g hn hL)))) ?_
  refine Fw.expr (Y7 (Z5 (Z6 rfl) Y1) (W4 rfl (Y3g (Y0a hf)))) ?_
  refine Fw.set (W1p e (Z6 rfl) (Z6 rfl)) ?_
  have hme:∀ {e:Ev},e[0]?=some (some (.d t.D))→e[3]?=some (some (.d (Z21 (Z43 ls))))→e[2]?=some (some (.d (.str f)))→e[4]?=some (some (.r 1))→Y6 (Y0 (Y9 4 (X5 [] (callP g_is_met))) (Z0 (Z3 0) (Z0 (Z3 3) (Z0 (Z3 2) (Z0 (Z3 4) (Z7)))))) e (clS t (Z43 ls) c) = .ok (Y52 t (Z43 ls) f) (clS t (Z43 ls) c):=fun a0 a3 a2 a4=>W1 (W8h hk h1 h2 (Z6 a0) (Z6 a3) (Z6 a2) (Z6 a4)) rfl
  cases hb:Y52 t (Z43 ls) f with
  | true =>
    rw [if_pos rfl]
    exact Fw.one (Fw.retP (Y6x ((hme rfl rfl rfl rfl).trans (by rw [hb])) V9) Y4 rfl)
  | false =>
    rw [if_neg (by simp)]
    exact Fw.one (Fw.retP (Y6w ((hme rfl rfl rfl rfl).trans (by rw [hb])) (Y7 (Z5 (Z6 rfl) Y1) (W9v (ds:=c.ord.map spD) (by rw [← W14]; rfl)))) Y4 rfl)
end
end Lw
namespace Bv
open PySem PySem.Spec L2
open PyProof.Rows hiding St
variable [HasW]
end Bv
namespace Bv
open PySem PySem.Spec L2
open PyProof.Rows hiding St
variable [HasW]
end Bv
namespace Bv
open PySem PySem.Spec L2
open PyProof.Rows hiding St
variable [HasW]
structure RpOk (p:PyData) (n:Nat):Prop where
  sh:p.showable=true
  nd:p.hasDict=false
  le:p.shown.length ≤ n
  ok:PyData.strOk p.shown=true
end Bv
namespace Lw
open PySem PySem.Spec L2 Bv
open PyProof.Rows hiding St
variable [HasW]
theorem X35 {α β:Type} {f:α→β} {as bs:List β} (h:as.Perm bs):∀ {l:List α},bs=l.map f→∃ l2:List α,as=l2.map f∧l2.Perm l:=by
  induction h with
  | nil =>
    intro l e
    cases l with
    | nil=>exact ⟨[],rfl, .refl _⟩
    | cons a l=>cases e
  | cons x _ ih =>
    intro l e
    cases l with
    | nil=>cases e
    | cons a l =>
      rw [List.map_cons,List.cons.injEq] at e
      obtain ⟨rfl,e⟩:=e
      obtain ⟨l2,rfl,p⟩:=ih e
      exact ⟨a :: l2,rfl,p.cons a⟩
  | swap x y l0 =>
    intro l e
    match l,e with
    | a :: b :: l,e =>
      simp only [List.map_cons,List.cons.injEq] at e
      obtain ⟨rfl,rfl,rfl⟩:=e
      exact ⟨b :: a :: l,rfl, .swap a b l⟩
  | trans _ _ ih1 ih2 =>
    intro l e
    obtain ⟨l2,e2,p2⟩:=ih2 e
    obtain ⟨l3,e3,p3⟩:=ih1 e2
    exact ⟨l3,e3,p3.trans p2⟩
def W59 (s:Sp):PyData := .tuple [.str s.m, .str s.wh, .bool s.he, .bool s.ot, .bool s.wa, .bool s.we]
section
variable {s r:Sp} {l as bs:List Sp}
theorem W57:(spD s).py=some (W59 s):=rfl
theorem X6t:Y5w (spD s)=W59 s:=rfl
theorem X5i:(W59 s).depth ≤ 2:=by simp [W59,PyData.depth,PyData.depthAll]
theorem W15:PySem.W.alike (W59 s) (W59 r)=true:=by simp [W59,PySem.W.alike,PySem.W.alikeAll]
theorem W1k (h:l.length ≤ 4000):Y97 (l.map spD)=true:=by
  unfold Y97
  rw [Bool.and_eq_true,Bool.and_eq_true,List.all_eq_true,List.all_eq_true,decide_eq_true_eq]
  refine ⟨fun d hd=>?_,fun d hd=>List.all_eq_true.mpr fun e he=>?_,by rw [List.length_map]; exact h⟩
  · obtain ⟨s,_,rfl⟩:=List.mem_map.mp hd
    rw [W57,X6t,Bool.and_eq_true,Bool.and_eq_true,decide_eq_true_eq]
    exact ⟨rfl,rfl,Nat.le_trans X5i (by decide)⟩
  · obtain ⟨s,_,rfl⟩:=List.mem_map.mp hd
    obtain ⟨r,_,rfl⟩:=List.mem_map.mp he
    rw [X6t,X6t]
    exact W15
theorem X8s:∃ bs:List Sp,Y5m (as.map spD)=bs.map spD∧bs.Perm as:=by
  have h:(Y5m (as.map spD)).Perm (as.map spD):=List.mergeSort_perm _ _
  obtain ⟨l2,e,p⟩:=X35 h rfl
  exact ⟨l2,e,p⟩
end
end Lw
namespace Lw
open PySem PySem.Spec L2 Bv
open PyProof.Rows hiding St
variable [HasW]
section
variable {t:TQ} {L ls:List Str} {T S:Sto} {b:Bool}
theorem X5h {c:Cl} (h:c.ord.length ≤ 400):Z89 [.r 1] (clS t L c) = .ok (.d (.lst (Y5m (c.ord.map spD)))) (clS t L c):=by
  have e1:Q5 (clS t L c) (.r 1)=true:=rfl
  have e2:(items (clS t L c) (.r 1)).bind ds?=some (c.ord.map spD):=by
    show (some (c.ord.map spX)).bind ds?=_
    rw [W14,Option.bind_some,Y50]
  simp only [Z89,e1,e2,if_true,W1k (l:=c.ord) (by omega)]
theorem W0n (hL:∀ x ∈ ls,x ∈ X1a) {s:Sp}:Rc t (Z43 ls) s ↔ Rc t ls s:=⟨Y2f fun x=>Y4z hL,Y2f fun x=>(Y4z hL).symm⟩
theorem X02 (hk:t.Ok) (hn:ls.Nodup) (hL:∀ x ∈ ls,x ∈ X1a):∃ N:List Sp,g_standings [t.D,sqD b (ls.map D.str)] = .ok (.tup (Y5m (N.map spD)))∧N.Nodup∧∀ s,s ∈ N ↔ Rc t ls s:=by
  obtain ⟨c,e,h1,h2,_⟩:=Y33 (L:=Z43 ls) hk
  refine ⟨c.ord,?_,h1.nd,fun s=>(h2 s).trans (W0n hL)⟩
  refine Z00 ?_
  unfold Y0q
  exact Fw.one (Fw.retP (S1:=clS t (Z43 ls) c) (Y7 (Z5 (Y7 (Z5 (U6 (x := .r 0) (z := .r 1) (Y7 (Z5 (Z6 rfl) (Z5 (Y7 (Z5 (Z6 rfl) Y1) (W4 rfl (Y3g (Z8g hn hL)))) Y1)) (W4 rfl e)) rfl) Y1) (X5h (Nat.le_trans (h1.len hk) (by decide)))) Y1) W6y) Y4 rfl)
end
end Lw
namespace Lw
open PySem PySem.Spec L2 Bv
open PyProof.Rows hiding St
variable [HasW]
def HW:List Str:=["give", "carry", "drop", "back", "right", "wrong"]
structure Bis (R:Str→Str→Prop) (m0 n0:Str) (sh th as bs:List Str) (bec ced:Str→Str→Str × Bool):Prop where
  zero:R m0 n0
  blank:∀ {a b},R a b→(a=m0 ↔ b=n0)
  shw:∀ {a b},R a b→(a ∈ sh ↔ b ∈ th)
  ask:∀ {a b},R a b→(a ∈ as ↔ b ∈ bs)
  took:∀ {a b w},R a b→w ∈ HW→(bec w a).2=(ced w b).2
  next:∀ {a b w},R a b→w ∈ HW→R (bec w a).1 (ced w b).1
section
variable {R:Str→Str→Prop} {m0 n0:Str} {sh th as bs:List Str} {bec ced:Str→Str→Str × Bool}
theorem X64:("give" : Str) ∈ HW:=by simp [HW]
theorem X3l:("carry" : Str) ∈ HW:=by simp [HW]
theorem W4t:("drop" : Str) ∈ HW:=by simp [HW]
theorem W4s:("back" : Str) ∈ HW:=by simp [HW]
theorem W0c:("right" : Str) ∈ HW:=by simp [HW]
theorem W0d:("wrong" : Str) ∈ HW:=by simp [HW]
theorem Bis.symm (h:Bis R m0 n0 sh th as bs bec ced):Bis (fun b a=>R a b) n0 m0 th sh bs as ced bec:=⟨h.zero,fun r=>(h.blank r).symm,fun r=>(h.shw r).symm,fun r=>(h.ask r).symm,fun r hw=>(h.took r hw).symm,fun r hw=>h.next r hw⟩
end
end Lw
namespace Lw
open PySem PySem.Spec L2 Bv
open PyProof.Rows hiding St ahead
variable [HasW]
abbrev W9x (R:Str→Str→Prop) (t u:TQ):Prop:=Bis R t.m0 u.m0 t.sh u.sh t.as u.as t.bec u.bec
def SpR (R:Str→Str→Prop) (s z:Sp):Prop:=∃ n,z={ s with m:=n }∧R s.m n
def W97 (R:Str→Str→Prop):Option Sp→Option Sp→Prop
  | none,none=>True
  | some r,some r2=>SpR R r r2
  | _,_=>False
structure StR (R:Str→Str→Prop) (x y:StQ):Prop where
  later:SpR R x.later y.later
  src:W97 R x.src y.src
section
variable {R:Str→Str→Prop} {t u:TQ} {L:List Str} {s r:Sp} {n n2:Str} {S S2:List Sp} {x:StQ} {h o wa we:Bool} {f:Str} {how:List Str} {w:Str} {b:Bool}
variable (I:W9x R t u)
include I
theorem W0p:Y4p b ∈ HW:=by unfold Y4p; split; exact W0c; exact W0d
theorem W7q:edW b ∈ HW:=by unfold edW; split; exact W4t; exact W4s
theorem Z7k (rm:R s.m n):StR R (given t s how w) (given u { s with m:=n } how w):=by
  have rn:=I.next rm X64
  refine ⟨⟨(u.bec "give" n).1,?_,rn⟩,trivial⟩
  unfold given
  dsimp only
  rw [← I.took rm X64]
  congr 1
  by_cases c:(t.bec "give" s.m).1=t.m0
  · rw [if_pos c,if_pos ((I.blank rn).mp c)]
  · rw [if_neg c,if_neg fun z=>c ((I.blank rn).mpr z)]
theorem Y2g (rm:R s.m n):StR R (looked t s how b) (looked u { s with m:=n } how b):=by
  have rn:=I.next rm (W0p I (b:=b))
  refine ⟨⟨(u.bec (Y4p b) n).1,?_,rn⟩,trivial⟩
  unfold looked
  dsimp only
  congr 1
  by_cases c:(t.bec (Y4p b) s.m).1=t.m0
  · rw [if_pos c,if_pos ((I.blank rn).mp c)]
  · rw [if_neg c,if_neg fun z=>c ((I.blank rn).mpr z)]
theorem Y27 (rm:R s.m n) (hx:x ∈ Z1p t L s):∃ y ∈ Z1p u L { s with m:=n },StR R x y:=by
  unfold Z1p at hx ⊢
  dsimp only
  rcases List.mem_append.mp hx with hx | hx
  · split at hx
    · rename_i c
      rw [if_pos c,List.mem_singleton.mp hx]
      exact ⟨_,List.mem_append_left _ (List.mem_singleton.mpr rfl),Z7k I rm⟩
    · rename_i c
      rw [if_neg c]
      split at hx
      · rename_i c2
        rw [if_pos c2,List.mem_singleton.mp hx]
        exact ⟨_,List.mem_append_left _ (List.mem_singleton.mpr rfl),Z7k I rm⟩
      · cases hx
  · split at hx
    · rename_i c
      rw [if_pos c,List.mem_singleton.mp hx]
      exact ⟨_,List.mem_append_right _ (List.mem_singleton.mpr rfl),Z7k I rm⟩
    · rename_i c
      rw [if_neg c]
      split at hx
      · rename_i c2
        rw [if_pos c2,List.mem_singleton.mp hx]
        exact ⟨_,List.mem_append_right _ (List.mem_singleton.mpr rfl),Z7k I rm⟩
      · cases hx
theorem X1m {m:Str} (r:R m n):decide (m=t.m0)=decide (n=u.m0):=decide_eq_decide.mpr (I.blank r)
theorem X3t (rm:R s.m n) (hx:x ∈ Z1b t s):∃ y ∈ Z1b u { s with m:=n },StR R x y:=by
  unfold Z1b at hx ⊢
  dsimp only
  rw [← X1m I rm]
  rcases List.mem_append.mp hx with hx | hx
  · split at hx
    · rename_i c
      rw [if_pos c,List.mem_singleton.mp hx]
      exact ⟨_,List.mem_append_left _ (List.mem_singleton.mpr rfl),Y2g I rm⟩
    · cases hx
  · split at hx
    · rename_i c
      rw [if_pos c,List.mem_singleton.mp hx]
      exact ⟨_,List.mem_append_right _ (List.mem_singleton.mpr rfl),Y2g I rm⟩
    · cases hx
theorem X6c {r r2:Sp} (hr:SpR R r r2) (hx:x ∈ Y0s t L r h o wa we):∃ y ∈ Y0s u L r2 h o wa we,StR R x y:=by
  obtain ⟨k,rfl,rk⟩:=hr
  have rn:=I.next rk X3l
  unfold Y0s at hx ⊢
  by_cases c:r.m=t.m0
  · rw [if_pos c] at hx
    cases hx
  · rw [if_neg c] at hx
    rw [if_neg fun z=>c ((I.blank rk).mpr z)]
    obtain ⟨mv,h1,hx⟩:=List.mem_flatMap.mp hx
    obtain ⟨one,h2,rfl⟩:=List.mem_map.mp hx
    refine ⟨_,List.mem_flatMap.mpr ⟨mv,h1,List.mem_map.mpr ⟨one,?_,rfl⟩⟩,⟨⟨_,rfl,rn⟩,⟨k,rfl,rk⟩⟩⟩
    by_cases c2:(t.bec "carry" r.m).1=t.m0
    · rw [if_pos c2] at h2
      rw [if_pos ((I.blank rn).mp c2)]
      exact h2
    · rw [if_neg c2] at h2
      rw [if_neg fun z=>c2 ((I.blank rn).mpr z)]
      exact h2
theorem X93 (rm:R s.m n) (hS:∀ r ∈ S,∃ r2 ∈ S2,SpR R r r2) (hx:x ∈ Y70 t L s S h o):∃ y ∈ Y70 u L { s with m:=n } S2 h o,StR R x y:=by
  unfold Y70 at hx ⊢
  dsimp only
  by_cases c:(s.he || s.ot)=(h || o)
  · rw [if_pos c] at hx ⊢
    obtain ⟨one,h1,rfl⟩:=List.mem_map.mp hx
    exact ⟨_,List.mem_map.mpr ⟨one,h1,rfl⟩,⟨⟨n,rfl,rm⟩,trivial⟩⟩
  · rw [if_neg c] at hx ⊢
    by_cases c2:s.m=t.m0
    · rw [if_neg (not_not_intro c2)] at hx
      rw [if_neg (not_not_intro ((I.blank rm).mp c2))]
      rcases List.mem_cons.mp hx with rfl | hx
      · exact ⟨_,List.mem_cons_self,⟨⟨n,rfl,rm⟩,trivial⟩⟩
      · split at hx
        · rename_i c3
          rw [if_pos c3]
          obtain ⟨r,hr,hx⟩:=List.mem_flatMap.mp hx
          obtain ⟨r2,hr2,rr⟩:=hS r hr
          obtain ⟨y,hy,hs⟩:=X6c I rr hx
          exact ⟨y,List.mem_cons_of_mem _ (List.mem_flatMap.mpr ⟨r2,hr2,hy⟩),hs⟩
        · cases hx
    · rw [if_pos c2] at hx
      rw [if_pos fun z=>c2 ((I.blank rm).mpr z)]
      obtain ⟨one,h1,rfl⟩:=List.mem_map.mp hx
      have rn:=I.next rm (W7q I (b:=(s.he || s.ot)))
      refine ⟨_,List.mem_map.mpr ⟨one,?_,rfl⟩,⟨⟨_,rfl,rn⟩,trivial⟩⟩
      by_cases c3:(t.bec (edW (s.he || s.ot)) s.m).1=t.m0
      · rw [if_pos c3] at h1
        rw [if_pos ((I.blank rn).mp c3)]
        exact h1
      · rw [if_neg c3] at h1
        rw [if_neg fun z=>c3 ((I.blank rn).mpr z)]
        exact h1
theorem X1e (rm:R s.m n) (hS:∀ r ∈ S,∃ r2 ∈ S2,SpR R r r2) (hx:x ∈ U4 t L s S):∃ y ∈ U4 u L { s with m:=n } S2,StR R x y:=by
  unfold U4 at hx ⊢
  rcases List.mem_append.mp hx with hx | hx
  · obtain ⟨y,h1,h2⟩:=Y27 I rm hx
    exact ⟨y,List.mem_append_left _ h1,h2⟩
  rcases List.mem_append.mp hx with hx | hx
  · obtain ⟨y,h1,h2⟩:=X3t I rm hx
    exact ⟨y,List.mem_append_right _ (List.mem_append_left _ h1),h2⟩
  unfold Z1q at hx
  obtain ⟨p,hp,hx⟩:=List.mem_flatMap.mp hx
  split at hx
  · rename_i c
    obtain ⟨y,h1,h2⟩:=X93 I rm hS hx
    refine ⟨y,List.mem_append_right _ (List.mem_append_right _ ?_),h2⟩
    unfold Z1q
    refine List.mem_flatMap.mpr ⟨p,hp,?_⟩
    rw [if_pos (show X1u L { s with m:=n } p.1 p.2=true from c)]
    exact h1
  · cases hx
theorem W6o (rm:R s.m n) (hx:Stp t L s x):∀ {r2:Option Sp},W97 R x.src r2→∃ y,y ∈ U4 u L { s with m:=n } r2.toList∧StR R x y:=by
  intro r2 hr
  refine (X1e I rm (S2:=r2.toList) (fun r h=>?_) hx)
  cases e:x.src with
  | none=>rw [e] at h; cases h
  | some q =>
    rw [e] at h hr
    cases r2 with
    | none=>exact hr.elim
    | some q2 =>
      rw [show (some q:Option Sp).toList=[q] from rfl] at h
      rw [List.mem_singleton.mp h]
      exact ⟨q2,by simp,hr⟩
theorem X8z {y:StQ} {z:Sp} {A:List Sp} (hy:y ∈ U4 u L z A) (r:Sp) (hr:y.src=some r):r ∈ A:=by
  unfold U4 at hy
  rcases List.mem_append.mp hy with hy | hy
  · unfold Z1p at hy
    rcases List.mem_append.mp hy with hy | hy <;> (repeat' split at hy) <;> first | (rw [List.mem_singleton.mp hy] at hr; cases hr) | cases hy
  rcases List.mem_append.mp hy with hy | hy
  · unfold Z1b at hy
    rcases List.mem_append.mp hy with hy | hy <;> split at hy <;> first | (rw [List.mem_singleton.mp hy] at hr; cases hr) | cases hy
  unfold Z1q at hy
  obtain ⟨p,_,hy⟩:=List.mem_flatMap.mp hy
  split at hy
  · unfold Y70 at hy
    split at hy
    · obtain ⟨one,_,rfl⟩:=List.mem_map.mp hy
      cases hr
    · split at hy
      · obtain ⟨one,_,rfl⟩:=List.mem_map.mp hy
        cases hr
      · rcases List.mem_cons.mp hy with rfl | hy
        · cases hr
        · split at hy
          · obtain ⟨q,hq,hy⟩:=List.mem_flatMap.mp hy
            rw [Y31 hy] at hr
            cases hr
            exact hq
          · cases hy
  · cases hy
theorem X8h (hr:Rc t L s):∃ z,SpR R s z∧Rc u L z:=by
  induction hr with
  | beg=>exact ⟨begun u,⟨u.m0,rfl,I.zero⟩, .beg⟩
  | @st s x a b c i1 i2 =>
    obtain ⟨z,⟨n,rfl,rm⟩,hz⟩:=i1
    have key:∃ r2:Option Sp,W97 R x.src r2∧∀ q,r2=some q→Rc u L q:=by
      cases e:x.src with
      | none=>exact ⟨none,trivial,fun q h=>nomatch h⟩
      | some q =>
        obtain ⟨q2,h1,h2⟩:=i2 q e
        exact ⟨some q2,h1,fun p h=>by cases h; exact h2⟩
    obtain ⟨r2,h1,h2⟩:=key
    obtain ⟨y,hy,hs⟩:=W6o I rm b h1
    refine ⟨y.later,hs.later, .st hz ?_ fun q hq=>?_⟩
    · show y ∈ U4 u L _ y.src.toList
      have e2:y.src=r2:=by
        cases r2 with
        | none =>
          cases q:y.src with
          | none=>rfl
          | some p=>exact absurd (X8z I hy p q) (by simp)
        | some q2 =>
          have hsr:=hs.src
          cases q:y.src with
          | none =>
            rw [q] at hsr
            cases e:x.src with
            | none=>rw [e] at h1; exact h1.elim
            | some p=>rw [e] at hsr; exact hsr.elim
          | some p =>
            have:=X8z I hy p q
            rw [show (some q2:Option Sp).toList=[q2] from rfl] at this
            rw [List.mem_singleton.mp this]
      rw [e2]
      exact hy
    · refine h2 q ?_
      have:=X8z I hy q hq
      cases r2 with
      | none=>cases this
      | some q2=>rw [List.mem_singleton.mp this]
theorem Y8p {m w:Str} (rm:R m n):Z18 t m w=Z18 u n w:=by
  unfold Z18
  rw [decide_eq_decide.mpr (I.shw rm)]
theorem X9g {m w:Str} (rm:R m n) (hx:x ∈ Y6l t m w):∃ y ∈ Y6l u n w,StR R x y:=by
  unfold Y6l at hx ⊢
  rcases List.mem_cons.mp hx with rfl | hx
  · exact ⟨_,List.mem_cons_self,Z7k I (s:=stS m w) rm⟩
  · rw [← X1m I rm]
    split at hx
    · rename_i c
      rw [if_pos c,List.mem_singleton.mp hx]
      exact ⟨_,List.mem_cons_of_mem _ (List.mem_singleton.mpr rfl),Y2g I (s:=stS m w) rm⟩
    · cases hx
theorem W83 {a a2 q:Str × Str} (h1:R a.1 a2.1) (h2:a2.2=a.2) (h:Pr t a q):∃ q2,Pr u a2 q2∧R q.1 q2.1∧q2.2=q.2:=by
  induction h with
  | refl=>exact ⟨a2, .refl,h1,h2⟩
  | st h hx ih =>
    obtain ⟨q2,e1,e2,e3⟩:=ih
    obtain ⟨y,hy,hs⟩:=X9g I e2 hx
    rw [← e3] at hy
    obtain ⟨k,ek,rk⟩:=hs.later
    refine ⟨y.pr, .st e1 hy,?_,?_⟩
    · show R _ y.later.m
      rw [ek]
      exact rk
    · show y.later.wh=_
      rw [ek]
      rfl
theorem Y2y {m w:Str} (rm:R m n) (h:Y5y u n w):Y5y t m w:=fun q hq=>by
  obtain ⟨q2,h1,h2,h3⟩:=W83 I (a:=(m,w)) (a2:=(n,w)) rm rfl hq
  rw [Y8p I h2,← h3]
  exact h q2 h1
theorem Y8a (rm:R s.m n) (hst:Y5y t s.m s.wh→Y5y u n s.wh) (h:Met t L f s):Met u L f { s with m:=n }:=by
  rcases h with ⟨h1,h2⟩ | h | ⟨h1,h2⟩
  · refine .inl ⟨h1,?_⟩
    rcases h2 with ⟨a,b,c⟩ | ⟨a,b,c⟩ | ⟨a,b⟩
    · exact .inl ⟨a,(I.shw rm).mp b,c⟩
    · exact .inr (.inl ⟨a,(I.ask rm).mp b,c⟩)
    · exact .inr (.inr ⟨a,hst b⟩)
  · refine .inr (.inl ?_)
    obtain ⟨x,hx⟩:=List.exists_mem_of_ne_nil _ h
    unfold Z3s at hx ⊢
    dsimp only
    split at hx
    · cases hx
    · rename_i c
      rw [if_neg c]
      obtain ⟨hx,hs⟩:=List.mem_filter.mp hx
      have key:∀ y,StR R x y→(!Z18 u y.later.m y.later.wh)=true:=fun y hy=>by
        obtain ⟨k,ek,rk⟩:=hy.later
        rw [ek,← Y8p I rk]
        exact hs
      by_cases c2:f = "vain"
      · rw [if_pos c2] at hx ⊢
        rw [List.mem_singleton.mp hx] at key
        exact List.ne_nil_of_mem (List.mem_filter.mpr ⟨List.mem_singleton.mpr rfl,key _ (Z7k I rm)⟩)
      · rw [if_neg c2] at hx ⊢
        rw [← Y8p I rm]
        split at hx
        · rename_i c3
          rw [if_pos c3]
          rcases List.mem_append.mp hx with hx | hx
          · obtain ⟨y,hy,hr⟩:=Y27 I rm hx
            exact List.ne_nil_of_mem (List.mem_filter.mpr ⟨List.mem_append_left _ hy,key y hr⟩)
          · obtain ⟨y,hy,hr⟩:=X3t I rm hx
            exact List.ne_nil_of_mem (List.mem_filter.mpr ⟨List.mem_append_right _ hy,key y hr⟩)
        · cases hx
  · refine .inr (.inr ⟨h1,?_⟩)
    unfold Z8e at h2 ⊢
    dsimp only
    rw [← X1m I (I.next rm X3l)]
    exact h2
end
theorem X3k {R:Str→Str→Prop} {t u:TQ} {L:List Str} {f:Str} (I:W9x R t u) (h:Y52 t L f=true):Y52 u L f=true:=by
  rw [Y3t] at h ⊢
  obtain ⟨s,a,b⟩:=h
  obtain ⟨z,⟨n,rfl,rm⟩,hz⟩:=X8h I a
  exact ⟨_,hz,Y8a I rm (fun q=>Y2y (R:=fun b a=>R a b) (t:=u) (u:=t) I.symm rm q) b⟩
theorem W4r {R:Str→Str→Prop} {t u:TQ} {L:List Str} {f:Str} (I:W9x R t u):Y52 t L f=Y52 u L f:=by
  rw [Bool.eq_iff_iff]
  exact ⟨X3k I,X3k (R:=fun b a=>R a b) I.symm⟩
end Lw
namespace Lw
open PySem PySem.Spec L2 Bv
open PyProof.Rows hiding St
variable [HasW]
section
variable {t:TQ} {L:List Str} {U:List Sp} {s:Sp}
theorem X2u:∀ {V A:List Sp},s ∈ V.foldl W7d A→s ∈ A ∨ s ∈ V
  | [],_,h => .inl h
  | y :: V,A,h=>by
    rcases X2u (V:=V) h with h | h
    · unfold W7d at h
      split at h
      · exact .inl h
      · rcases List.mem_append.mp h with h | h
        · exact .inl h
        · exact .inr (by rw [List.mem_singleton.mp h]; exact List.mem_cons_self)
    · exact .inr (List.mem_cons_of_mem _ h)
theorem X2v:∀ {V A:List Sp},s ∈ A→s ∈ V.foldl W7d A
  | [],_,h=>h
  | y :: V,A,h=>X2v (V:=V) (by unfold W7d; split; exact h; exact List.mem_append_left _ h)
theorem X23:∀ {n:Nat},∀ s ∈ clC t L n,Rc t L s
  | 0,s,h=>by rw [List.mem_singleton.mp h]; exact .beg
  | n + 1,s,h=>by
    rcases X2u h with h | h
    · exact X23 s h
    · obtain ⟨a,ha,h2⟩:=List.mem_flatMap.mp h
      obtain ⟨x,hx,rfl⟩:=List.mem_map.mp h2
      obtain ⟨k1,k2⟩:=Y0x.mp hx
      exact .st (X23 a ha) k1 fun r hr=>X23 r (k2 r hr)
theorem X6f:∀ {n:Nat},begun t ∈ clC t L n
  | 0=>List.mem_cons_self
  | n + 1=>X2v X6f
theorem Y7y:Y5v t L U=Z3k t L U:=by
  rw [Bool.eq_iff_iff,Z48]
  unfold Y5v
  simp only [List.all_eq_true,decide_eq_true_eq]
theorem Y32 {n:Nat} (h:Y5v t L (clC t L n)=true):∀ s,s ∈ clC t L n ↔ Rc t L s:=fun s=>⟨X23 s,Y88 X6f (by rw [← Y7y]; exact h)⟩
theorem Z3g {b:Bool} {p:PR} (e:p = .ok (.bl b)) (h:isF p=true):b=false:=by
  subst e
  cases b
  · rfl
  · cases h
theorem X7a {b:Bool} {p:PR} (e:p = .ok (.bl b)) (h:isT p=true):b=true:=by
  subst e
  cases b
  · cases h
  · rfl
end
theorem V16:t0.Ok:=by
  refine ⟨by decide +kernel,by decide,by decide,by decide +kernel,?_,?_,by decide,?_⟩
  · exact List.Sublist.cons _ (List.Sublist.refl _)
  · exact List.Sublist.cons_cons _ (List.nil_sublist _)
  · intro r hr
    have:∀ r ∈ t0.rows,(r.1 ∈ X9k∧r.2.1 ∈ ("any" : Str) :: t0.m0 :: t0.ms∧r.2.2.1 ∈ ("same" : Str) :: t0.m0 :: t0.ms∧(r.1 ≠ "give" → r.2.2.2=true∧r.2.1 ∈ ("any" : Str) :: t0.ms)):=by decide +kernel
    exact this r hr
theorem Z5e {L:List Str} {U:List Sp} {f:Str} (hU:(U.all fun s=>decide (s.m ∈ t0.marks∧s.wh ∈ Z22))=true):g_is_met [t0.D,Z21 L, .str f,Z6q U] = .ok (.bl (X3y t0 L f U)):=X1z V16 fun s hs=>of_decide_eq_true (List.all_eq_true.mp hU s hs)
theorem Y64:(S13.all fun s=>decide (s.m ∈ t0.marks∧s.wh ∈ Z22))=true:=by kernel_rfl
theorem X49:(Y3f.all fun s=>decide (s.m ∈ t0.marks∧s.wh ∈ Z22))=true:=by kernel_rfl
theorem W8v:(Y6o.all fun s=>decide (s.m ∈ t0.marks∧s.wh ∈ Z22))=true:=by kernel_rfl
theorem X47:((clC t0 ["back"] 5).all fun s=>decide (s.m ∈ t0.marks∧s.wh ∈ Z22))=true:=by kernel_rfl
theorem X48:((clC t0 ["near"] 5).all fun s=>decide (s.m ∈ t0.marks∧s.wh ∈ Z22))=true:=by kernel_rfl
theorem W8u:((clC t0 ["late", "near"] 5).all fun s=>decide (s.m ∈ t0.marks∧s.wh ∈ Z22))=true:=by kernel_rfl
theorem V1o:((clC t0 ["alike"] 5).all fun s=>decide (s.m ∈ t0.marks∧s.wh ∈ Z22))=true:=by kernel_rfl
theorem W54 {s:Sp}:s ∈ S13 ↔ Rc t0 [] s:=by
  rw [← Y32 V2y]
  exact ⟨fun h=>of_decide_eq_true (List.all_eq_true.mp V0f s h),fun h=>of_decide_eq_true (List.all_eq_true.mp V0e s h)⟩
theorem six {P:Str→Prop} (h1:P "again") (h2:P "fallen") (h3:P "lost") (h4:P "strange") (h5:P "stuck") (h6:P "vain"):∀ f ∈ (["again", "fallen", "lost", "strange", "stuck", "vain"]:List Str),P f:=fun f hf=>by
  simp only [List.mem_cons,List.not_mem_nil,or_false] at hf
  rcases hf with rfl | rfl | rfl | rfl | rfl | rfl
  · exact h1
  · exact h2
  · exact h3
  · exact h4
  · exact h5
  · exact h6
abbrev F6:List Str:=["again", "fallen", "lost", "strange", "stuck", "vain"]
theorem W8g:∀ f ∈ F6,X3y t0 [] f S13=false:=six (Z3g (Z5e Y64) W0s) (Z3g (Z5e Y64) X7j) (Z3g (Z5e Y64) W48) (Z3g (Z5e Y64) X41) (Z3g (Z5e Y64) W0t) (Z3g (Z5e Y64) W49)
theorem V3j:∀ f ∈ F6,X3y t0 [] f Y3f=false:=six (Z3g (Z5e X49) W03) (Z3g (Z5e X49) X70) (Z3g (Z5e X49) W5k) (Z3g (Z5e X49) X45) (Z3g (Z5e X49) W04) (Z3g (Z5e X49) W5l)
theorem V00:∀ f ∈ F6,Y52 t0 [] f=false:=fun f hf=>by rw [← Z9s fun s=>W54]; exact W8g f hf
theorem V01:∀ f ∈ F6,Y52 t0 ["back"] f=decide (f = "strange"):=by
  have h:=fun f=>Z9s (f:=f) (Y32 W32)
  exact six ((h _).symm.trans (Z3g (Z5e X47) W0u)) ((h _).symm.trans (Z3g (Z5e X47) X7m)) ((h _).symm.trans (Z3g (Z5e X47) W5c)) ((h _).symm.trans (X7a (Z5e X47) X42)) ((h _).symm.trans (Z3g (Z5e X47) W0v)) ((h _).symm.trans (Z3g (Z5e X47) W5d))
theorem V02:∀ f ∈ F6,Y52 t0 ["near"] f=decide (f = "lost"):=by
  have h:=fun f=>Z9s (f:=f) (Y32 W33)
  exact six ((h _).symm.trans (Z3g (Z5e X48) W0z)) ((h _).symm.trans (Z3g (Z5e X48) X7u)) ((h _).symm.trans (X7a (Z5e X48) W5i)) ((h _).symm.trans (Z3g (Z5e X48) X43)) ((h _).symm.trans (Z3g (Z5e X48) W00)) ((h _).symm.trans (Z3g (Z5e X48) W5j))
theorem W7z:Y52 t0 ["late", "near"] "strange" = false:=(Z9s (Y32 V0g)).symm.trans (Z3g (Z5e W8u) mln)
theorem W7y:Y52 t0 ["alike"] "strange" = true:=(Z9s (Y32 X9w)).symm.trans (X7a (Z5e V1o) mal)
theorem W7i:begun t0 ∈ S13:=List.mem_cons_self
theorem X79 {L:List Str} {U:List Sp} {f:Str} (hb:begun t0 ∈ U) (hc:Y5v t0 L U=true) (hm:X3y t0 L f U=false):Z4m t0 L f U=true:=by
  unfold Z4m
  rw [decide_eq_true hb,← Y7y,hc,hm]
  rfl
theorem X0i {L:List Str} {U:List Sp} {f:Str} (hc:Y5v t0 L U=false):Z4m t0 L f U=false:=by
  unfold Z4m
  rw [← Y7y,hc]
  simp
theorem W7l:Y5v t0 [] S13=true:=by kernel_rfl
def nm (a b c p:Str):Str:=if p = "none" then a else if p = "doubt" then b else c
def NM6:List Str:=["none", "doubt", "good", "a", "back", "zz"]
def M0:List Str:=["none", "doubt", "good"]
def tab (a b c:Str):Bool:=(HW.all fun w=>M0.all fun p=>decide ((tP a b c).bec w (nm a b c p)=(nm a b c (t0.bec w p).1,(t0.bec w p).2)∧(t0.bec w p).1 ∈ M0)) && M0.all fun p=>(decide (p = "none") == decide (nm a b c p=a)) && ((decide (p ∈ (["good"]:List Str)) == decide (nm a b c p ∈ [c])) && ((decide (p ∈ (["none"]:List Str)) == decide (nm a b c p ∈ [a])) && M0.all fun q=>decide (nm a b c p=nm a b c q) == decide (p=q)))
theorem W6u:(NM6.all fun a=>NM6.all fun b=>NM6.all fun c=>decide (a=b) || (decide (a=c) || (decide (b=c) || tab a b c)))=true:=by kernel_rfl
structure Nm3 (a b c:Str):Prop where
  ha:a ∈ NM6
  hb:b ∈ NM6
  hc:c ∈ NM6
  ab:a ≠ b
  ac:a ≠ c
  bc:b ≠ c
section
variable {a b c:Str}
theorem Nm3.tab (h:Nm3 a b c):tab a b c=true:=by
  have:=List.all_eq_true.mp (List.all_eq_true.mp (List.all_eq_true.mp W6u a h.ha) b h.hb) c h.hc
  rw [decide_eq_false h.ab,decide_eq_false h.ac,decide_eq_false h.bc] at this
  simpa using this
def R0 (a b c:Str) (p q:Str):Prop:=p ∈ M0∧q=nm a b c p
theorem Nm3.row (h:Nm3 a b c) {w p:Str} (hw:w ∈ HW) (hp:p ∈ M0):(tP a b c).bec w (nm a b c p)=(nm a b c (t0.bec w p).1,(t0.bec w p).2)∧(t0.bec w p).1 ∈ M0:=by
  have:=h.tab
  unfold Lw.tab at this
  rw [Bool.and_eq_true] at this
  exact of_decide_eq_true (List.all_eq_true.mp (List.all_eq_true.mp this.1 w hw) p hp)
theorem Nm3.col (h:Nm3 a b c) {p:Str} (hp:p ∈ M0):(p = "none" ↔ nm a b c p=a)∧(p ∈ (["good"]:List Str) ↔ nm a b c p ∈ [c])∧(p ∈ (["none"]:List Str) ↔ nm a b c p ∈ [a])∧∀ q ∈ M0,nm a b c p=nm a b c q ↔ p=q:=by
  have:=h.tab
  unfold Lw.tab at this
  rw [Bool.and_eq_true] at this
  have:=List.all_eq_true.mp this.2 p hp
  rw [Bool.and_eq_true,Bool.and_eq_true,Bool.and_eq_true,beq_iff_eq,beq_iff_eq,beq_iff_eq,decide_eq_decide,decide_eq_decide,decide_eq_decide] at this
  refine ⟨this.1,this.2.1,this.2.2.1,fun q hq=>?_⟩
  have:=List.all_eq_true.mp this.2.2.2 q hq
  rw [beq_iff_eq,decide_eq_decide] at this
  exact this
theorem Nm3.bis (h:Nm3 a b c):W9x (R0 a b c) t0 (tP a b c) where
  zero:=⟨List.mem_cons_self,rfl⟩
  blank:=fun ⟨hp,e⟩=>by subst e; exact (h.col hp).1
  shw:=fun ⟨hp,e⟩=>by subst e; exact (h.col hp).2.1
  ask:=fun ⟨hp,e⟩=>by subst e; exact (h.col hp).2.2.1
  took:=fun ⟨hp,e⟩ hw=>by subst e; rw [(h.row hw hp).1]
  next:=fun ⟨hp,e⟩ hw=>by subst e; rw [(h.row hw hp).1]; exact ⟨(h.row hw hp).2,rfl⟩
def mp (a b c:Str) (s:Sp):Sp:={ s with m:=nm a b c s.m }
theorem W20 (h:Nm3 a b c) {s z:Sp} (hs:s.m ∈ M0) (hz:z.m ∈ M0) (e:mp a b c s=mp a b c z):s=z:=by
  have e1:nm a b c s.m=nm a b c z.m:=congrArg Sp.m e
  have e2:=((h.col hs).2.2.2 z.m hz).mp e1
  cases s
  cases z
  unfold mp at e
  simp only [Sp.mk.injEq] at e
  simp only at e2
  subst e2
  simp only [Sp.mk.injEq]
  exact ⟨trivial,e.2⟩
theorem X8v {s z:Sp}:SpR (R0 a b c) s z ↔ s.m ∈ M0∧z=mp a b c s:=by
  constructor
  · rintro ⟨n,rfl,hm,rfl⟩
    exact ⟨hm,rfl⟩
  · rintro ⟨hm,rfl⟩
    exact ⟨_,rfl,hm,rfl⟩
theorem Y8z {s z:Sp}:SpR (fun q p=>R0 a b c p q) z s ↔ s.m ∈ M0∧z=mp a b c s:=by
  constructor
  · rintro ⟨n,rfl,hm,e⟩
    refine ⟨hm,?_⟩
    show z={ z with m:=nm a b c n }
    rw [← e]
  · rintro ⟨hm,rfl⟩
    exact ⟨s.m,rfl,hm,rfl⟩
theorem V1u (h:Nm3 a b c) {L:List Str} {z:Sp}:Rc (tP a b c) L z ↔ ∃ s,Rc t0 L s∧s.m ∈ M0∧z=mp a b c s:=by
  constructor
  · intro hz
    obtain ⟨s,hs,hr⟩:=X8h h.bis.symm hz
    obtain ⟨k1,k2⟩:=Y8z.mp hs
    exact ⟨s,hr,k1,k2⟩
  · rintro ⟨s,hr,hm,rfl⟩
    obtain ⟨z,hz,hr⟩:=X8h h.bis hr
    obtain ⟨_,rfl⟩:=X8v.mp hz
    exact hr
theorem W8z (h:Nm3 a b c) {L:List Str} {f:Str} {U U0:List Sp} (h0:∀ s ∈ U0,s.m ∈ M0) (hU:∀ z,z ∈ U ↔ ∃ s ∈ U0,z=mp a b c s):Z4m (tP a b c) L f U=Z4m t0 L f U0:=by
  have I:=h.bis
  have hin:∀ {s:Sp},s.m ∈ M0→(mp a b c s ∈ U ↔ s ∈ U0):=fun {s} hm=>by
    rw [hU]
    exact ⟨fun ⟨z,hz,e⟩=>by rw [W20 h hm (h0 z hz) e]; exact hz,fun hs=>⟨s,hs,rfl⟩⟩
  have e1:decide (begun (tP a b c) ∈ U)=decide (begun t0 ∈ U0):=decide_eq_decide.mpr (hin (s:=begun t0) (by decide))
  have e2:Z3k (tP a b c) L U=Z3k t0 L U0:=by
    rw [Bool.eq_iff_iff,Z48,Z48]
    constructor
    · intro hc s hs x hx
      obtain ⟨y,hy,hr⟩:=X1e I (S2:=U) (n:=nm a b c s.m) ⟨h0 s hs,rfl⟩ (fun r hr=>⟨mp a b c r,(hU _).mpr ⟨r,hr,rfl⟩,X8v.mpr ⟨h0 r hr,rfl⟩⟩) hx
      obtain ⟨k1,k2⟩:=X8v.mp hr.later
      have:=hc (mp a b c s) ((hU _).mpr ⟨s,hs,rfl⟩) y hy
      rw [k2] at this
      exact (hin k1).mp this
    · intro hc z hz x hx
      obtain ⟨s,hs,rfl⟩:=(hU z).mp hz
      obtain ⟨y,hy,hr⟩:=X1e I.symm (S2:=U0) (s:=mp a b c s) (n:=s.m) ⟨h0 s hs,rfl⟩ (fun r hr=>by
        obtain ⟨q,hq,rfl⟩:=(hU r).mp hr
        exact ⟨q,hq,Y8z.mpr ⟨h0 q hq,rfl⟩⟩) hx
      obtain ⟨k1,k2⟩:=Y8z.mp hr.later
      rw [k2]
      exact (hin k1).mpr (hc s hs y hy)
  have e3:X3y (tP a b c) L f U=X3y t0 L f U0:=by
    rw [Bool.eq_iff_iff,Z9t,Z9t]
    constructor
    · rintro ⟨z,hz,hm⟩
      obtain ⟨s,hs,rfl⟩:=(hU z).mp hz
      have rm:R0 a b c s.m (nm a b c s.m):=⟨h0 s hs,rfl⟩
      exact ⟨s,hs,Y8a (R:=fun q p=>R0 a b c p q) (s:=mp a b c s) (n:=s.m) I.symm rm (fun q=>Y2y I rm q) hm⟩
    · rintro ⟨s,hs,hm⟩
      have rm:R0 a b c s.m (nm a b c s.m):=⟨h0 s hs,rfl⟩
      exact ⟨mp a b c s,(hU _).mpr ⟨s,hs,rfl⟩,Y8a I rm (fun q=>Y2y (R:=fun q p=>R0 a b c p q) (t:=tP a b c) (u:=t0) I.symm rm q) hm⟩
  unfold Z4m
  rw [e1,e2,e3]
end
end Lw
namespace Lw
open PySem PySem.Spec L2 Bv
open PyProof.Rows hiding St
variable [HasW]
section
variable {S T:Sto} {b:Nat}
end
end Lw
namespace Lw
open PySem PySem.Spec L2 Bv
open PyProof.Rows hiding St
variable [HasW]
def V3o:MS:=(U1 (Z3b Q5 Q0 (Z3 3) (Z0 (Z3b Q5 Y2b (Z3 2) (Z0 (Y0 (Y9 2 (X5 [] g__law_draw)) (Z0 (Z3 0) (Z0 (Y0 Z3i (Z0 (Z3 2) Z7)) Z7))) Z7)) Z7)))
def sh:MS:=(Y2 (Z2j 2 3 (Z0 (Y0 X7f (Z0 (Z3 1) Z7)) (Z0 (Q8 Z7) Z7))) (Y2 (Z2o (.nm 4) (Y9l (Z0 (Y0 Z3i (Z0 (Z3 2) (Z7))) (Z7))) V3o) (Z2h (Z3 3))))
theorem V12:Z4u=sh:=by kernel_rfl
theorem Y6v {α β:Type} (f:α→β):∀ (l:List α) (i:Nat),(l.map f).eraseIdx i=(l.eraseIdx i).map f
  | [],_=>rfl
  | _ :: _,0=>rfl
  | a :: l,i + 1=>by simp [List.eraseIdx,Y6v f l i]
theorem Y4g {α:Type}:∀ (l:List α) (i:Nat) (h:i < l.length),(l.eraseIdx i++[l[i]]).Perm l
  | a :: l,0,_=>by simpa using (List.perm_append_comm (l₁:=l) (l₂:=[a]))
  | a :: l,i + 1,h=>by
    have:=Y4g l i (by simpa using h)
    simpa using this.cons a
theorem W25 {k:Nat} (ds:List D):okO k (.lst (ds.map X.d))=true:=by
  show (ds.map X.d).all (okX k)=true
  rw [List.all_map]
  exact List.all_eq_true.mpr fun _ _=>rfl
theorem W8x {S:Sto} (h:OkS S) (l r:List D):OkS (S++[.lst (l.map X.d), .lst (r.map X.d)]):=by
  have:=(h.push (o := .lst (l.map X.d)) (W25 l)).push (o := .lst (r.map X.d)) (W25 r)
  rwa [List.append_assoc] at this
theorem W1v {S:Sto} {n:Nat} {ds:List D} {i:Nat} (h:S[n]?=some (.lst (ds.map X.d))) (hi:i < ds.length) (hl:ds.length < 1000):Y2b (.r n) [.d (.int (i:Nat))] S = .ok (.d ds[i]) (S.set n (.lst ((ds.eraseIdx i).map X.d))):=by
  have hlo:Z25 S (.r n)=some (n,ds.map X.d):=by
    show (match S[n]? with
      | some (.lst xs)=>some (n,xs)
      | _=>none)=_
    rw [h]
  have hix:seqIndex? (i:Int) (ds.map X.d).length=some i:=by
    unfold seqIndex?
    rw [List.length_map]
    simp [show ¬ (i:Int) < 0 by omega,hi]
  have hg:(ds.map X.d)[i]?=some (.d ds[i]):=by rw [List.getElem?_map,List.getElem?_eq_getElem hi]; rfl
  have h63:(-9223372036854775808:Int) ≤ (i:Int)∧(i:Int) < 9223372036854775808:=by omega
  unfold Y2b
  simp only [hlo,Z8c]
  rw [List.length_map] at hix
  simp [hix,hg,Y6v,h63,hi]
theorem Y5l {S:Sto} {b:Nat} {ds:List D} (hS:OkS S) (hb:Z90 S b) (hl:ds.length < 1000):∃ (ds2:List D) (S2:Sto),g__law_shuffled [.r (b + 1), .d (.lst ds)] S = .ok (.d (.lst ds2)) S2∧ds2.Perm ds∧Z7t S b S2:=by
  suffices h:Fw (Z4u (ev0 5 [.r (b + 1), .d (.lst ds)]) S) (fun r=>∃ (left found:List D) (S1:Sto),r = .go (.rt (.r (S.length + 1))) (S1++[.lst (left.map X.d), .lst (found.map X.d)])∧found.Perm ds∧Z7t S b S1) by
    obtain ⟨left,found,S1,e,hp,dl⟩:=h
    refine ⟨found,S1,X8m e ?_ ?_,hp,dl⟩
    · show (if decide (S.length + 1 < S.length)=true then some (X.r (S.length + 1)) else ((X.r (S.length + 1)).get (S1++[.lst (left.map X.d), .lst (found.map X.d)])).map X.d)=_
      rw [if_neg (by simp)]
      rw [Z6r (ds:=found)]
      · rfl
      · rw [← dl.len]; simp
    · rw [← dl.len]
      exact (dl.ok hS hb.lt).cut
  rw [V12]
  unfold sh
  refine Fw.par (x := .r S.length) (y := .r (S.length + 1)) (S1:=S++[.lst (ds.map X.d), .lst (([]:List D).map X.d)]) ?_ ?_
  · refine (Z5 (Y7 (Z5 (Z6 rfl) Y1) (show X7f [.d (.lst ds)] S = .ok (.r S.length) (S++[.lst (ds.map X.d)]) from rfl)) (Z5 (x := .r (S.length + 1)) (S2:=S++[.lst (ds.map X.d)]++[.lst []]) ?_ Y1)).trans ?_
    · rw [show S.length + 1=(S++[O.lst (ds.map X.d)]).length by simp]
      rfl
    · rw [List.append_assoc]; rfl
  refine Fw.for_ (l:=List.range ds.length) (f:=fun (i:Nat)=>X.d (.int (0 + (i:Nat)))) (S1:=S++[.lst (ds.map X.d), .lst (([]:List D).map X.d)]) (X65 (n:=(ds.length:Nat)) (Z5 (Y7 (Z5 (Z6 rfl) Y1) ((X3r (xs:=ds.map X.d) (by simp)).trans (by rw [List.length_map]))) Y1) (X5g hl)) (fun l e T=>∃ (left found:List D) (S1:Sto) (o:Option X),e=[some (.r (b + 1)),some (.d (.lst ds)),some (.r S.length),some (.r (S.length + 1)),o]∧T=S1++[.lst (left.map X.d), .lst (found.map X.d)]∧Z7t S b S1∧left.length=l.length∧(left++found).Perm ds) (fun _ _=>False) ⟨ds,[],S,_,rfl,rfl,?_,by simp,by simp⟩ (fun _ _ _ _=>rfl) ?_ ?_
  · obtain ⟨gs,s,e1,e2,hd⟩:=hb
    refine ⟨gs,s,?_,hd⟩
    refine List.ext_getElem? fun i=>?_
    have h2:=(List.getElem?_eq_some_iff.mp e2).1
    by_cases hi:b + 1=i
    · subst hi
      rw [List.getElem?_set_self (by simpa using h2),e2]
    · rw [List.getElem?_set_ne hi]
      by_cases hj:b=i
      · subst hj
        rw [List.getElem?_set_self (by omega),e1]
      · rw [List.getElem?_set_ne hj]
  · rintro k l e T ⟨left,found,S1,o,rfl,rfl,dl,hlen,hp⟩
    refine ⟨_,rfl,?_⟩
    have k1:=dl.ok hS hb.lt
    have n1:=dl.len
    have d1:=dl.at_ hb.lt
    have lt:=d1.lt
    have hlen2:=hp.length_eq
    rw [List.length_append] at hlen2
    rw [List.length_cons] at hlen
    have dT:Z90 (S1++[.lst (left.map X.d), .lst (found.map X.d)]) b:=by
      obtain ⟨gs,s,a1,a2,a3⟩:=d1
      exact ⟨gs,s,by rw [List.getElem?_append_left (by omega)]; exact a1,by rw [List.getElem?_append_left (by omega)]; exact a2,a3⟩
    obtain ⟨d,T2,ec,d0,d2,dl2⟩:=W4e (m:=left.length) (W8x k1 left found) dT (by omega)
    obtain ⟨i,rfl⟩:∃ i:Nat,d=(i:Int):=⟨d.toNat,by omega⟩
    obtain ⟨gs,s,rfl,hd⟩:=dl2
    rw [List.set_append_left _ _ (by omega),List.set_append_left _ _ (by rw [List.length_set]; omega)] at ec
    have dl3:Z7t S b ((S1.set b (glO gs)).set (b + 1) (dlO b s)):=dl.trans ⟨gs,s,rfl,hd⟩
    generalize (S1.set b (glO gs)).set (b + 1) (dlO b s)=S3 at ec dl3
    have n3:=dl3.len
    have hi:i < left.length:=by omega
    have g0:∀ A B:O,(S3++[A,B])[S.length]?=some A:=fun A B=>by rw [← n3]; simp
    have g1:∀ A B:O,(S3++[A,B])[S.length + 1]?=some B:=fun A B=>by rw [← n3]; simp
    have s0:∀ A B A2:O,(S3++[A,B]).set S.length A2=S3++[A2,B]:=fun A B A2=>by rw [← n3]; simp
    have s1:∀ A B B2:O,(S3++[A,B]).set (S.length + 1) B2=S3++[A,B2]:=fun A B B2=>by rw [← n3]; simp
    have h0:∀ A B:O,(S1++[A,B])[S.length]?=some A:=fun A B=>by rw [← n1]; simp
    have h1:∀ A B:O,(S1++[A,B])[S.length + 1]?=some B:=fun A B=>by rw [← n1]; simp
    have ep:=W1v (S:=S3++[.lst (left.map X.d), .lst (found.map X.d)]) (n:=S.length) (g0 _ _) hi (by omega)
    rw [s0] at ep
    have ea:Q0 (.r (S.length + 1)) [.d left[i]] (S3++[.lst ((left.eraseIdx i).map X.d), .lst (found.map X.d)]) = .ok (.d .non) (S3++[.lst ((left.eraseIdx i).map X.d), .lst ((found++[left[i]]).map X.d)]):=by
      rw [Y03 (g1 _ _) (by rw [List.length_map,sizeLine_eq]; omega),s1,List.map_append]
      rfl
    refine Fw.one (Fw.expr (Y1f (Z6 rfl) (Z4b (h1 _ _)) (Z5 (Y1f (Z6 rfl) (Z4b (h0 _ _)) (Z5 (Y7 (Z5 (Z6 rfl) (Z5 (Y7 (Z5 (Z6 rfl) Y1) ((X3r (h0 _ _)).trans (by rw [List.length_map]))) Y1)) (W4 rfl ec)) Y1) ep) Y1) ea) (Fw.nil (.nx ⟨_,_,S3,_,rfl,rfl,dl3,?_,?_⟩)))
    · rw [List.length_eraseIdx_of_lt hi]
      omega
    · refine List.Perm.trans ?_ hp
      have:=Y4g left i hi
      have h3:(left.eraseIdx i++(found++[left[i]])).Perm ((left.eraseIdx i++[left[i]])++found):=by
        rw [List.append_assoc]
        exact List.Perm.append_left _ List.perm_append_comm
      exact h3.trans (this.append_right found)
  · rintro e T (⟨left,found,S1,o,rfl,rfl,dl,hlen,hp⟩ | h)
    · have:left=[]:=List.length_eq_zero_iff.mp (by simpa using hlen)
      subst this
      exact Fw.one (Fw.ret (Z6 rfl) ⟨[],found,S1,rfl,by simpa using hp,dl⟩)
    · exact h.elim
end Lw
namespace Lw
open PySem PySem.Spec L2 Bv
open PyProof.Rows hiding St
variable [HasW]
def unS:D→Str
  | .str s=>s
  | _ => ""
theorem X8c {ds:List D} {ss:List Str} (h:ds.Perm (ss.map D.str)):∃ ts:List Str,ds=ts.map D.str∧ts.Perm ss:=by
  refine ⟨ds.map unS,?_,?_⟩
  · rw [List.map_map]
    have:∀ d ∈ ds,(D.str ∘ unS) d=d:=fun d hd=>by
      obtain ⟨s,_,rfl⟩:=List.mem_map.mp (h.subset hd)
      rfl
    rw [List.map_congr_left this,List.map_id']
  · have:=h.map unS
    rw [List.map_map] at this
    rw [show (unS ∘ D.str)=id from rfl,List.map_id] at this
    exact this
theorem W9d {S T:Sto} {b:Nat} {ss:List Str} (g:Gd S b T) (hl:ss.length < 1000):∃ (ts:List Str) (T2:Sto),g__law_shuffled [.r (b + 1), .d (.lst (ss.map D.str))] T = .ok (.d (.lst (ts.map D.str))) T2∧ts.Perm ss∧Gd S b T2:=by
  obtain ⟨ds2,T2,e,hp,dl⟩:=Y5l (ds:=ss.map D.str) g.ok g.at_ (by rw [List.length_map]; exact hl)
  obtain ⟨ts,rfl,hp2⟩:=X8c hp
  exact ⟨ts,T2,e,hp2,g.trans dl⟩
end Lw
namespace Lw
open PySem PySem.Spec L2 Bv
open PyProof.Rows hiding St
variable [HasW]
section
variable {a b c:Str} {S T:Sto} {ls:List Str} {f:Str} {V U0:List Sp} {k:Bool}
theorem Fw.unl {ts:List Tg} {m:M} {e e1:Ev} {S S1:Sto} {ds:List D} {k:MS} {Q:RO→Prop} (h:m e S = .ok (.d (.lst ds)) S1) (ha:Tg.asgs S1 ts (ds.map .d) e=some e1) (h2:Fw (k e1 S1) Q):Fw (Y2 (W10 ts m) k e S) Q:=by
  refine Fw.seq ?_ h2
  unfold W10
  rw [h]
  show (match Tg.asgs S1 ts (ds.map .d) e with
    | some e1=>RO.go (.nx e1) S1
    | none => .bad)=_
  rw [ha]
theorem Y4y:∀ x ∈ NM6,x ∈ Z9x:=by decide +kernel
theorem X85 (h:Nm3 a b c):(tP a b c).Ok:=by
  refine ⟨fun x hx=>?_,by show ([b,c]:List Str).length < 5; simp,by show 0 < ([b,c]:List Str).length; simp,?_,?_,?_,by show 4 ≤ 20; decide,?_⟩
  · have hx:x ∈ [a,b,c]:=hx
    simp only [List.mem_cons,List.not_mem_nil,or_false] at hx
    rcases hx with rfl | rfl | rfl
    · exact Y4y _ h.ha
    · exact Y4y _ h.hb
    · exact Y4y _ h.hc
  · show [a,b,c].Nodup
    simp [h.ab,h.ac,h.bc]
  · show [c].Sublist [b,c]
    exact List.Sublist.cons _ (List.Sublist.refl _)
  · show [a].Sublist [a,b,c]
    exact List.Sublist.cons_cons _ (List.nil_sublist _)
  · intro r hr
    have hr:r ∈ ([("give", "any",c,true),("carry", "any",b,true),("right", "any",c,true),("wrong", "any",a,true)]:List Z7g):=hr
    simp only [List.mem_cons,List.not_mem_nil,or_false] at hr
    have m1:a ∈ ("same" : Str) :: a :: [b,c]:=by simp
    have m2:b ∈ ("same" : Str) :: a :: [b,c]:=by simp
    have m3:c ∈ ("same" : Str) :: a :: [b,c]:=by simp
    rcases hr with rfl | rfl | rfl | rfl
    · exact ⟨by simp [X9k],List.mem_cons_self,m3,fun _=>⟨rfl,List.mem_cons_self⟩⟩
    · exact ⟨by simp [X9k],List.mem_cons_self,m2,fun _=>⟨rfl,List.mem_cons_self⟩⟩
    · exact ⟨by simp [X9k],List.mem_cons_self,m3,fun _=>⟨rfl,List.mem_cons_self⟩⟩
    · exact ⟨by simp [X9k],List.mem_cons_self,m1,fun _=>⟨rfl,List.mem_cons_self⟩⟩
def lnP (a b c:Str):List Str:=["marks " ++ Str.join " " [a,b,c], "shown " ++ c, "asked " ++ a, "give any take to " ++ c, "carry any to " ++ b, "right any to " ++ c, "wrong any to " ++ a]
theorem W79:(NM6.all fun a=>NM6.all fun b=>NM6.all fun c=>decide (lnP a b c=Z45 a [b,c] [c] [a] (tP a b c).rows))=true:=by kernel_rfl
theorem V1c (h:Nm3 a b c):lnP a b c=Z45 a [b,c] [c] [a] (tP a b c).rows:=of_decide_eq_true (List.all_eq_true.mp (List.all_eq_true.mp (List.all_eq_true.mp W79 a h.ha) b h.hb) c h.hc)
theorem X17:∀ x ∈ NM6,x.length ≤ 5:=by decide +kernel
theorem W46:("marks " : Str).length ≤ 20∧("shown " : Str).length ≤ 20∧("asked " : Str).length ≤ 20∧("give any take to " : Str).length ≤ 20∧("carry any to " : Str).length ≤ 20∧("right any to " : Str).length ≤ 20∧("wrong any to " : Str).length ≤ 20:=by decide +kernel
theorem X1d {x y:Str} (h:x.length + y.length ≤ 1000):Z8j (.str x) (.str y)=some (.str (x++y)):=if_pos (hz4 (by omega))
theorem X8d (h:Nm3 a b c):g__law_plain [.str a, .str b, .str c] = .ok (tP a b c).D:=by
  obtain ⟨l1,l2,l3,l4,l5,l6,l7⟩:=W46
  have la:=X17 a h.ha
  have lb:=X17 b h.hb
  have lc:=X17 c h.hc
  have hz:∀ z ∈ [a,b,c],z.length ≤ 5:=fun z hz=>by
    simp only [List.mem_cons,List.not_mem_nil,or_false] at hz
    rcases hz with rfl | rfl | rfl <;> assumption
  have hj:=X7b (T:=[]) (a := " ") hz (by rw [show (" " : Str).length=1 by decide +kernel]; simp)
  have jl:=Y2c (a := " ") hz
  have sp:(" " : Str).length=1:=by decide +kernel
  rw [sp] at jl
  have jl:(Str.join " " [a,b,c]).length ≤ 100:=by simp at jl; omega
  have hk:=X85 h
  have hl:Z8j (.lst [.str ("marks " ++ Str.join " " [a,b,c]), .str ("shown " ++ c), .str ("asked " ++ a), .str ("give any take to " ++ c)]) (.lst [.str ("carry any to " ++ b), .str ("right any to " ++ c), .str ("wrong any to " ++ a)])=some (.lst ((Z45 a [b,c] [c] [a] (tP a b c).rows).map D.str)):=by
    rw [← V1c h]
    exact W2d (by simp)
  refine Z00 ?_
  unfold Z8y
  refine Fw.set (x := .d (.lst [.str ("marks " ++ Str.join " " [a,b,c]), .str ("shown " ++ c), .str ("asked " ++ a), .str ("give any take to " ++ c)])) (S1:=[]) (Z2l (Z5 (X8 V9 (W2m V9 (Z2l (ds:=[a,b,c].map D.str) (Z5 (Z6 rfl) (Z5 (Z6 rfl) (Z5 (Z6 rfl) Y1))) rfl (hz4 (by simp))) hj) Y4 Y4 (X1d (by omega))) (Z5 (X8 V9 (Z6 rfl) Y4 Y4 (X1d (by omega))) (Z5 (X8 V9 (Z6 rfl) Y4 Y4 (X1d (by omega))) (Z5 (X8 V9 (Z6 rfl) Y4 Y4 (X1d (by omega))) Y1)))) rfl (hz4 (by simp))) ?_
  refine Fw.one (Fw.retP (X96 V9 (Z5 (W2m V9 (X8 (Z6 rfl) (Z2l (ds:=[.str ("carry any to " ++ b), .str ("right any to " ++ c), .str ("wrong any to " ++ a)]) (Z5 (X8 V9 (Z6 rfl) Y4 Y4 (X1d (by omega))) (Z5 (X8 V9 (Z6 rfl) Y4 Y4 (X1d (by omega))) (Z5 (X8 V9 (Z6 rfl) Y4 Y4 (X1d (by omega))) Y1))) rfl (hz4 (by simp))) Y4 Y4 hl) (X4y hk (List.Perm.refl _) (List.Perm.refl _))) Y1) (W4 rfl (Y9f (X8i hk (List.Perm.refl _) (List.Perm.refl _))))) Y4 rfl)
theorem X2r:g__law_thirteen [.str a, .str b, .str c] = .ok (.lst ((T13 a b c).map spD)):=by kernel_rfl
theorem X5x:T13 a b c=S13.map (mp a b c):=by kernel_rfl
def okB (U:List Sp):Bool:=U.all fun s=>decide (s.m ∈ M0) && (decide (s.wh ∈ Z22) && ((decide (s.m = "none") == decide (s.wh = "none")) && ((!s.he || s.wa) && ((!s.ot || s.we) && (!decide (s.wh = "theirs") || s.ot)))))
theorem W1g (h:okB U0=true):∀ s ∈ U0,s.m ∈ M0:=fun s hs=>by
  have:=List.all_eq_true.mp h s hs
  rw [Bool.and_eq_true] at this
  exact of_decide_eq_true this.1
theorem W23 (h:Nm3 a b c) (h0:okB U0=true) {s:Sp} (hs:s ∈ U0):SpOk (tP a b c) (mp a b c s):=by
  have:=List.all_eq_true.mp h0 s hs
  simp only [Bool.and_eq_true,decide_eq_true_eq,beq_iff_eq,decide_eq_decide] at this
  obtain ⟨k1,k2,k3,k4,k5,k6⟩:=this
  have cl:=h.col k1
  refine ⟨?_,k2,cl.1.symm.trans k3,fun e=>?_,fun e=>?_,fun e=>?_⟩
  · show nm a b c s.m ∈ [a,b,c]
    unfold nm
    split
    · simp
    · split <;> simp
  · have e:s.he=true:=e
    rw [e] at k4
    show s.wa=true
    simpa using k4
  · have e:s.ot=true:=e
    rw [e] at k5
    show s.we=true
    simpa using k5
  · have e:s.wh = "theirs" := e
    rw [decide_eq_true e] at k6
    show s.ot=true
    simpa using k6
theorem Z8b (h:Nm3 a b c) (hn:ls.Nodup) (hL:∀ x ∈ ls,x ∈ X1a) (hf:f ∈ Y01) (h0:okB U0=true) (hV:∀ z,z ∈ V ↔ ∃ s ∈ U0,z=mp a b c s) (hl:V.length ≤ 2000):g_paper_holds [(tP a b c).D,sqD k (ls.map D.str), .str f,Y5x V] = .ok (.bl (Z4m t0 (Z43 ls) f U0)):=by
  rw [Y9k (X85 h) hn hL hf (fun z hz=>by obtain ⟨s,hs,rfl⟩:=(hV z).mp hz; exact W23 h h0 hs) hl]
  rw [W8z h (W1g h0) fun z=>(W3m (V:=V)).trans (hV z)]
theorem Y3c:okB S13=true:=by kernel_rfl
theorem W1h:okB X4m=true:=by kernel_rfl
theorem Y96:okB Y6o=true:=by kernel_rfl
theorem X33:okB Y3f=true:=by kernel_rfl
theorem W7v:∀ f ∈ F6,f ∈ Y01:=by decide +kernel
theorem Y2e:∀ l ∈ ([[],["back"],["alike"],["near"],["late"],["late", "near"]]:List (List Str)),l.Nodup∧(∀ x ∈ l,x ∈ X1a)∧Z43 l=l:=by decide +kernel
theorem Y2k {z:Sp} {X0:List Sp} (hV:V.Perm (T13 a b c)):z ∈ V++X0.map (mp a b c) ↔ ∃ s ∈ S13++X0,z=mp a b c s:=by
  rw [List.mem_append,hV.mem_iff,X5x,← List.mem_append,← List.map_append,List.mem_map]
  exact ⟨fun ⟨s,hs,e⟩=>⟨s,hs,e.symm⟩,fun ⟨s,hs,e⟩=>⟨s,hs,e.symm⟩⟩
theorem Y4s {z:Sp} (hV:V.Perm (T13 a b c)):z ∈ V ↔ ∃ s ∈ S13,z=mp a b c s:=by
  have:=Y2k (z:=z) (X0:=[]) hV
  simpa using this
theorem W29:∀ f ∈ F6,Z4m t0 [] f S13=true:=fun f hf=>X79 W7i W7l (W8g f hf)
theorem V1q:∀ f ∈ F6,Z4m t0 [] f Y3f=true:=fun f hf=>X79 List.mem_cons_self W37 (V3j f hf)
theorem W80:Z4m t0 [] "strange" Y6o=true:=X79 List.mem_cons_self X91 (Z3g (Z5e W8v) mwr)
theorem W9a:S13.Nodup:=by decide +kernel
theorem X84 (h:Nm3 a b c):(T13 a b c).Nodup:=by
  rw [X5x]
  exact List.pairwise_map.mpr (List.Pairwise.imp_of_mem (fun {x y} hx hy hxy e=>hxy (W20 h (W1g Y3c x hx) (W1g Y3c y hy) e)) W9a)
theorem X38 (h:Nm3 a b c) {z:Sp}:Rc (tP a b c) [] z ↔ z ∈ T13 a b c:=by
  rw [V1u h,X5x,List.mem_map]
  constructor
  · rintro ⟨s,hs,_,rfl⟩
    exact ⟨s,W54.mpr hs,rfl⟩
  · rintro ⟨s,hs,rfl⟩
    exact ⟨s,W54.mp hs,W1g Y3c s hs,rfl⟩
theorem X63 (h:Nm3 a b c) (hf:f ∈ Y01) (hV:V.Perm (T13 a b c)):g_paper_holds [(tP a b c).D,sqD k [], .str f,Y5x V.tail] = .ok (.bl false):=by
  have hn:V.Nodup:=hV.nodup_iff.mpr (X84 h)
  cases V with
  | nil=>exact absurd hV.length_eq (by simp [T13])
  | cons v V =>
    have hl:V.length ≤ 2000:=by have:=hV.length_eq; simp [T13] at this; omega
    have hr:=Y9k (b:=k) (X85 h) (ls:=[]) (V:=V) List.nodup_nil (fun x hx=>nomatch hx) hf (fun z hz=>by
      obtain ⟨s,hs,rfl⟩:=(Y4s hV).mp (List.mem_cons_of_mem _ hz)
      exact W23 h Y3c hs) hl
    rw [show Z43 []=[] from rfl,X5c (s:=v) ((X38 h).mpr (hV.mem_iff.mp List.mem_cons_self)) fun z=>(List.nodup_cons.mp hn).1 (W3m.mp z)] at hr
    exact hr
theorem Y49 (h:Nm3 a b c) (hn:ls.Nodup) (hL:∀ x ∈ ls,x ∈ X1a) (hf:f ∈ Y01):∃ d,g_paper [(tP a b c).D,sqD k (ls.map D.str), .str f] = .ok d∧isD d .non=some (.bl (Y52 t0 ls f))∧W62 d .non=some (.bl (!Y52 t0 ls f)):=by
  obtain ⟨N,_,_,e⟩:=X8a (b:=k) (X85 h) hn hL hf
  rw [← W4r h.bis] at e
  refine ⟨_,e,?_⟩
  cases Y52 t0 ls f <;> exact ⟨rfl,rfl⟩
theorem W09 {s:Sp}:Y90 (spD s) (.lst (V.map spD))=some (.bl (!decide (s ∈ V))):=W5o
theorem W07 {i:Int}:neD (.int i) (.int i)=some (.bl false):=X72 (n:=0) rfl (by decide)
theorem W5n:neD (.lst []) (.lst [])=some (.bl false):=X72 (n:=1) rfl (by decide)
theorem V2n {x y:Bool} (h:x=y):neD (.bl x) (.bl y)=some (.bl false):=by rw [W8o,h]; simp
theorem X6u {x y:Str}:eqD (.str x) (.str y)=some (.bl (decide (x=y))):=by
  by_cases h:x=y
  · rw [decide_eq_true h]; exact W4h h
  · rw [decide_eq_false h]; exact X95 h
end
section
variable {a b c:Str} {S T:Sto} {n:Nat} {ns:List Int} {V:List Sp} {o8 o9 o10 o11 o12 o13:Option X}
abbrev evL (ns:List Int) (n:Nat) (a b c:Str) (V:List Sp) (o8 o9 o10 o11 o12 o13:Option X):Ev:=[some (.d (.scr ns)),some (.r (n + 1)),some (.d (.str a)),some (.d (.str b)),some (.d (.str c)),some (.d (tP a b c).D),some (.d (.lst ((T13 a b c).map spD))),some (.d (Y5x V)),o8,o9,o10,o11,o12,o13]
theorem plain (ns:List Int) (hl:ns.length ≤ 63):g_law [.scr ns] = .ok (.bl true):=by
  refine Z00 ?_
  unfold W3y
  obtain ⟨S2,e1,_,hS,hb⟩:=X8t (S:=[]) (ns:=ns) (k:=0) Y0z hl (by decide)
  have g:=Gd.refl hS hb
  refine Fw.set (x := .r (([]:Sto).length + 1)) (S1:=S2) (Y7 (Z5 (Z6 rfl) (Z5 V9 Y1)) (W4 rfl e1)) ?_
  obtain ⟨ts,T2,e2,hp,g2⟩:=W9d (ss:=NM6) g (by decide)
  have hlen:=hp.length_eq
  have hnd:ts.Nodup:=hp.nodup_iff.mpr (by decide +kernel)
  match ts,hlen,hnd,hp,e2 with
  | a :: b :: c :: rs,hlen,hnd,hp,e2 =>
  have h:Nm3 a b c:=by
    have h1:=List.nodup_cons.mp hnd
    have h2:=List.nodup_cons.mp h1.2
    exact ⟨hp.mem_iff.mp (by simp),hp.mem_iff.mp (by simp),hp.mem_iff.mp (by simp),fun z=>h1.1 (by simp [z]),fun z=>h1.1 (by simp [z]),fun z=>h2.1 (by simp [z])⟩
  have hk:=X85 h
  refine Fw.unl (ds:=[.str a, .str b, .str c]) (S1:=T2) (Z4a (Y7 (Z5 (Z6 rfl) (Z5 (Z2l (ds:=NM6.map D.str) (Z5 V9 (Z5 V9 (Z5 V9 (Z5 V9 (Z5 V9 (Z5 V9 Y1)))))) rfl (hz4 (by simp [NM6]))) Y1)) (W4 rfl e2)) Y4i (Z5a V9) (by
    show some (X.d (.lst (Z6f ((a :: b :: c :: rs).map D.str) none (some 3))))=_
    rw [X6i _ (by decide)]
    rfl)) rfl ?_
  refine Fw.asg (x := .d (.tup [(tP a b c).D, .lst ((T13 a b c).map spD)])) (S1:=T2) (Z1r (ds:=[(tP a b c).D, .lst ((T13 a b c).map spD)]) (Z5 (Y7 (Z5 (Z6 rfl) (Z5 (Z6 rfl) (Z5 (Z6 rfl) Y1))) (W4 rfl (Z49 (X8d h)))) (Z5 (Y7 (Z5 (Z6 rfl) (Z5 (Z6 rfl) (Z5 (Z6 rfl) Y1))) (W4 rfl (Z49 X2r))) Y1)) rfl (hz4 (by simp))) rfl ?_
  obtain ⟨ds2,T3,e3,hp3,dl⟩:=Y5l (ds:=(T13 a b c).map spD) g2.ok g2.at_ (by simp [T13])
  obtain ⟨V,rfl,hV⟩:=X35 hp3 rfl
  have lV:V.length=13:=by rw [hV.length_eq]; rfl
  refine Fw.set (x := .d (Y5x V)) (S1:=T3) (Y7 (Z5 (Y7 (Z5 (Z6 rfl) (Z5 (Z6 rfl) Y1)) (W4 rfl e3)) Y1) W6y) ?_
  show Fw ((_:MS) (evL ns ([]:Sto).length a b c V none none none none none none) T3) _
  obtain ⟨N,es,nd,mN⟩:=X02 (b:=true) hk (ls:=[]) List.nodup_nil (fun x hx=>nomatch hx)
  obtain ⟨N',es',nd',mN'⟩:=X02 (b:=false) hk (ls:=[]) List.nodup_nil (fun x hx=>nomatch hx)
  obtain ⟨bs,eb,hb⟩:=X8s (as:=N)
  obtain ⟨bs',eb',hb'⟩:=X8s (as:=N')
  rw [eb] at es
  rw [eb'] at es'
  have lN:bs.length=13:=by
    rw [hb.length_eq,((List.perm_ext_iff_of_nodup nd (X84 h)).mpr fun s=>(mN s).trans (X38 h)).length_eq]
    rfl
  have lN':bs'.length=13:=by
    rw [hb'.length_eq,((List.perm_ext_iff_of_nodup nd' (X84 h)).mpr fun s=>(mN' s).trans (X38 h)).length_eq]
    rfl
  have hin:∀ s ∈ bs',s ∈ T13 a b c:=fun s hs=>(X38 h).mp ((mN' s).mp (hb'.mem_iff.mp hs))
  have eF:bs'.filter (fun s => !decide (s ∈ T13 a b c))=[]:=List.filter_eq_nil_iff.mpr fun s hs=>by simp [hin s hs]
  have qF:=Y4n (t := .nm 13) (mi:=Q9 (Y0 (Y9 2 (X5 [] (callP g_standings))) (Z0 (Z3 5) (Z0 (V4 (Z7)) (Z7))))) (mt:=Z0d (Y5 Y90 (Z3 13) (Z3 6))) (me:=Z3 13) (vs:=[13]) (e:=evL ns ([]:Sto).length a b c V none none none none none none) (S:=T3) (fun s=>X.d (spD s)) spD (fun s => !decide (s ∈ T13 a b c)) (l:=bs') (Z10 (Y7 (Z5 (Z6 rfl) (Z5 (Z1r (ds:=[]) Y1 rfl (by decide)) Y1)) (W4 rfl (Y9f es'))) Y00) (hz4 (by omega)) fun s hs=>⟨_,rfl,Z0v (X8 (Z6 rfl) (Z6 rfl) Y4 Y4 W09),fun _=>Z6 rfl⟩
  rw [eF] at qF
  refine Fw.if_ (b:=false) (Z34 (Z0v (X8 (Y7 (Z5 (Y7 (Z5 (Z6 rfl) (Z5 (Z2l (ds:=[]) Y1 rfl (by decide)) Y1)) (W4 rfl (Y9f es))) Y1) (W44.trans (by rw [List.length_map,lN]; rfl))) V9 Y4 Y4 W07)) (Z0v (X8 qF (Z2l (ds:=[]) Y1 rfl (by decide)) Y4 Y4 W5n))) (Fw.iff (Fw.seqNil ?_))
  have l0:=Y2e [] (by simp)
  have lb:=Y2e ["back"] (by simp)
  have la:=Y2e ["alike"] (by simp)
  have ln:=Y2e ["near"] (by simp)
  have llt:=Y2e ["late"] (by simp)
  have lln:=Y2e ["late", "near"] (by simp)
  have eb1:∀ {e:Ev} {T:Sto},Q7 (Z0 (m_c (.str "back")) (Z7)) e T = .ok (.d (sqD true ((["back"]:List Str).map D.str))) T:=fun {e T}=>Z2l (ds:=[.str "back"]) (Z5 V9 Y1) rfl (hz4 (by simp))
  have ea1:∀ {e:Ev} {T:Sto},Q7 (Z0 (m_c (.str "alike")) (Z7)) e T = .ok (.d (sqD true ((["alike"]:List Str).map D.str))) T:=fun {e T}=>Z2l (ds:=[.str "alike"]) (Z5 V9 Y1) rfl (hz4 (by simp))
  have en1:∀ {e:Ev} {T:Sto},Q7 (Z0 (m_c (.str "near")) (Z7)) e T = .ok (.d (sqD true ((["near"]:List Str).map D.str))) T:=fun {e T}=>Z2l (ds:=[.str "near"]) (Z5 V9 Y1) rfl (hz4 (by simp))
  have el1:∀ {e:Ev} {T:Sto},Q7 (Z0 (m_c (.str "late")) (Z7)) e T = .ok (.d (sqD true ((["late"]:List Str).map D.str))) T:=fun {e T}=>Z2l (ds:=[.str "late"]) (Z5 V9 Y1) rfl (hz4 (by simp))
  have e01:∀ {e:Ev} {T:Sto},Q7 (Z7) e T = .ok (.d (sqD true (([]:List Str).map D.str))) T:=fun {e T}=>Z2l (ds:=[]) Y1 rfl (by decide)
  have e0t:∀ {e:Ev} {T:Sto},V4 (Z7) e T = .ok (.d (sqD false (([]:List Str).map D.str))) T:=fun {e T}=>Z1r (ds:=[]) Y1 rfl (by decide)
  have hwalk:∀ {e:Ev} {T:Sto},Q9 (V4 (Z0 (m_c (.str "again")) (Z0 (m_c (.str "fallen")) (Z0 (m_c (.str "lost")) (Z0 (m_c (.str "strange")) (Z0 (m_c (.str "stuck")) (Z0 (m_c (.str "vain")) (Z7)))))))) e T = .ok (F6.map (fun f=>X.d (.str f)), .free) T:=fun {e T}=>Z10 (Z1r (ds:=F6.map D.str) (Z5 V9 (Z5 V9 (Z5 V9 (Z5 V9 (Z5 V9 (Z5 V9 Y1)))))) rfl (hz4 (by simp))) Y00
  have isn0:∀ {x y:Bool},x=y→Bv.isnB (.bl x) (.bl y)=some (.bl false):=fun e=>by subst e; show some (D.bl (!decide _))=_; simp
  refine Fw.for_ (l:=F6) (f:=fun f=>X.d (.str f)) (lk := .free) (S1:=T3) hwalk (fun l e U=>U=T3∧(∀ f ∈ l,f ∈ F6)∧∃ o8,e=evL ns ([]:Sto).length a b c V o8 none none none none none) (fun _ _=>False) ⟨rfl,fun _ h=>h,_,rfl⟩ (fun _ _ _ _=>rfl) ?_ ?_
  · rintro f l e U ⟨rfl,hfs,p8,rfl⟩
    have hf6:=hfs f (by simp)
    have hf:=W7v f hf6
    refine ⟨evL ns ([]:Sto).length a b c V (some (.d (.str f))) none none none none none,rfl,?_⟩
    have q1:=Z8b (k:=true) (f:=f) h l0.1 l0.2.1 hf Y3c (fun z=>Y4s hV) (by omega)
    rw [l0.2.2,W29 f hf6] at q1
    have q2:=X63 (k:=false) h hf hV
    have sl:∀ T:Sto,slX T (.d (Y5x V)) (some 1) none=some (.d (Y5x V.tail)):=fun T=>by
      show some (X.d (.tup (Z6f (V.map spD) (some 1) none)))=_
      rw [X27 _ (by decide)]
      cases V with
      | nil=>rfl
      | cons v V=>rfl
    refine Fw.if_ (b:=false) (Z34 (Z0v (X8 (Y7 (Z5 (Z6 rfl) (Z5 e01 (Z5 (Z6 rfl) (Z5 (Z6 rfl) Y1)))) (W4 rfl (Z42 q1))) V9 Y4 Y4 (isn0 rfl))) (Z0v (X8 (Y7 (Z5 (Z6 rfl) (Z5 e0t (Z5 (Z6 rfl) (Z5 (Z4a (Z6 rfl) (Z5a V9) Y4i (sl _)) Y1)))) (W4 rfl (Z42 q2))) V9 Y4 Y4 (isn0 rfl)))) (Fw.iff (Fw.seqNil ?_))
    have q3:=Z8b (k:=true) (f:=f) h lb.1 lb.2.1 hf Y3c (fun z=>Y4s hV) (by omega)
    rw [lb.2.2,X0i X9u] at q3
    have q4:=Z8b (k:=true) (f:=f) h la.1 la.2.1 hf Y3c (fun z=>Y4s hV) (by omega)
    rw [la.2.2,X0i X6b] at q4
    refine Fw.if_ (b:=false) (Z34 (W1 (Y7 (Z5 (Z6 rfl) (Z5 eb1 (Z5 (Z6 rfl) (Z5 (Z6 rfl) Y1)))) (W4 rfl (Z42 q3))) rfl) (W1 (Y7 (Z5 (Z6 rfl) (Z5 ea1 (Z5 (Z6 rfl) (Z5 (Z6 rfl) Y1)))) (W4 rfl (Z42 q4))) rfl)) (Fw.iff (Fw.seqNil ?_))
    obtain ⟨d1,q5,i5,_⟩:=Y49 (k:=true) h l0.1 l0.2.1 hf
    obtain ⟨d2,q6,i6,_⟩:=Y49 (k:=true) h lb.1 lb.2.1 hf
    obtain ⟨d3,q7,i7,_⟩:=Y49 (k:=true) h ln.1 ln.2.1 hf
    rw [V00 f hf6] at i5
    rw [V01 f hf6] at i6
    rw [V02 f hf6] at i7
    refine Fw.if_ (b:=false) (Z34 (Z0v (X8 (Y7 (Z5 (Z6 rfl) (Z5 e01 (Z5 (Z6 rfl) Y1))) (W4 rfl (Z49 q5))) V9 Y4 Y4 i5)) (Z0v (X8 (X8 (Y7 (Z5 (Z6 rfl) (Z5 eb1 (Z5 (Z6 rfl) Y1))) (W4 rfl (Z49 q6))) V9 Y4 Y4 i6) (X8 (Z6 rfl) V9 Y4 Y4 X6u) Y4 Y4 (V2n rfl)))) (Fw.iff (Fw.seqNil ?_))
    exact Fw.one (Fw.if_ (b:=false) (Z0v (X8 (X8 (Y7 (Z5 (Z6 rfl) (Z5 en1 (Z5 (Z6 rfl) Y1))) (W4 rfl (Z49 q7))) V9 Y4 Y4 i7) (X8 (Z6 rfl) V9 Y4 Y4 X6u) Y4 Y4 (V2n rfl))) (Fw.iff (Fw.seqNil (Fw.nil (.nx ⟨rfl,fun g hg=>hfs g (List.mem_cons_of_mem _ hg),_,rfl⟩)))))
  intro e U hor
  obtain ⟨rfl,_,p8,rfl⟩:=hor.resolve_right id
  have hstr:("strange" : Str) ∈ Y01:=by decide +kernel
  obtain ⟨d1,q1,i1,_⟩:=Y49 (k:=true) h lln.1 lln.2.1 hstr
  obtain ⟨d2,q2,_,i2⟩:=Y49 (k:=true) h la.1 la.2.1 hstr
  rw [W7z] at i1
  rw [W7y] at i2
  refine Fw.if_ (b:=false) (Z34 (Z0v (X8 (Y7 (Z5 (Z6 rfl) (Z5 (Z2l (ds:=(["late", "near"]:List Str).map D.str) (Z5 V9 (Z5 V9 Y1)) rfl (hz4 (by simp))) (Z5 V9 Y1))) (W4 rfl (Z49 q1))) V9 Y4 Y4 i1)) (Z0v (X8 (Y7 (Z5 (Z6 rfl) (Z5 ea1 (Z5 V9 Y1))) (W4 rfl (Z49 q2))) V9 Y4 Y4 i2))) (Fw.iff (Fw.seqNil ?_))
  have hadd:∀ {X0:List Sp},X0.length ≤ 13→Z8j (Y5x V) (.tup (X0.map spD))=some (Y5x (V++X0)):=fun {X0} hx=>by
    show Z8j (.tup (V.map spD)) (.tup (X0.map spD))=some (.tup ((V++X0).map spD))
    rw [List.map_append]
    exact W7e (by rw [List.length_map,List.length_map]; omega)
  let X1:List Sp:=[⟨"doubt", "mine",false,true,false,true⟩]
  let X2:List Sp:=[⟨"good", "mine",false,false,true,true⟩,⟨"doubt", "mine",false,false,true,true⟩]
  let X3:List Sp:=[⟨"good", "mine",false,false,true,true⟩,⟨"doubt", "other",false,false,true,true⟩]
  have six6:∀ {e:Ev} {T:Sto} {i:Nat} {s:Sp} ,e[i]?=some (some (.d (.str s.m)))→V4 (Z0 (Z3 i) (Z0 (m_c (.str s.wh)) (Z0 (m_c (.bl s.he)) (Z0 (m_c (.bl s.ot)) (Z0 (m_c (.bl s.wa)) (Z0 (m_c (.bl s.we)) (Z7))))))) e T = .ok (.d (spD s)) T:=fun {e T i s} hi=>Z1r (ds:=[.str s.m, .str s.wh, .bl s.he, .bl s.ot, .bl s.wa, .bl s.we]) (Z5 (Z6 hi) (Z5 V9 (Z5 V9 (Z5 V9 (Z5 V9 (Z5 V9 Y1)))))) rfl (hz4 (by simp))
  refine Fw.set (x := .d (Y5x (V++X1.map (mp a b c)))) (S1:=U) (X8 (Z6 rfl) (Z1r (ds:=(X1.map (mp a b c)).map spD) (Z5 (six6 (s:=⟨b, "mine",false,true,false,true⟩) rfl) Y1) rfl (hz4 (by simp [X1]))) Y4 Y4 (hadd (by simp [X1]))) ?_
  have hmore:=fun {ls:List Str} (hls:ls ∈ ([[],["near"],["late"],["back"]]:List (List Str)))=>by
    have hll:ls.Nodup∧(∀ x ∈ ls,x ∈ X1a)∧Z43 ls=ls∧Y5v t0 ls X4m=false:=by
      simp only [List.mem_cons,List.not_mem_nil,or_false] at hls
      rcases hls with rfl | rfl | rfl | rfl
      · exact ⟨l0.1,l0.2.1,l0.2.2,W34⟩
      · exact ⟨ln.1,ln.2.1,ln.2.2,X4t⟩
      · exact ⟨llt.1,llt.2.1,llt.2.2,X4s⟩
      · exact ⟨lb.1,lb.2.1,lb.2.2,X4r⟩
    have q:=Z8b (k:=true) (f := "strange") h hll.1 hll.2.1 hstr W1h (fun z=>Y2k (X0:=X1) hV) (by rw [List.length_append]; simp [X1]; omega)
    rw [hll.2.2.1,X0i hll.2.2.2] at q
    exact q
  refine Fw.for_ (l:=([[],["near"],["late"],["back"]]:List (List Str))) (f:=fun l=>X.d (sqD true (l.map D.str))) (lk := .free) (S1:=U) (Z10 (Z1r (ds:=([[],["near"],["late"],["back"]]:List (List Str)).map fun l=>sqD true (l.map D.str)) (Z5 e01 (Z5 en1 (Z5 el1 (Z5 eb1 Y1)))) rfl (hz4 (by simp))) Y00) (fun l e U2=>U2=U∧(∀ f ∈ l,f ∈ ([[],["near"],["late"],["back"]]:List (List Str)))∧∃ o10,e=evL ns ([]:Sto).length a b c V p8 (some (.d (Y5x (V++X1.map (mp a b c))))) o10 none none none) (fun _ _=>False) ⟨rfl,fun _ h=>h,_,rfl⟩ (fun _ _ _ _=>rfl) ?_ ?_
  · rintro ls l e U2 ⟨rfl,hfs,p10,rfl⟩
    refine ⟨evL ns ([]:Sto).length a b c V p8 (some (.d (Y5x (V++X1.map (mp a b c))))) (some (.d (sqD true (ls.map D.str)))) none none none,rfl,?_⟩
    exact Fw.one (Fw.if_ (b:=false) (Z0v (X8 (Y7 (Z5 (Z6 rfl) (Z5 (Z6 rfl) (Z5 V9 (Z5 (Z6 rfl) Y1)))) (W4 rfl (Z42 (hmore (hfs ls (by simp)))))) V9 Y4 Y4 (isn0 rfl))) (Fw.iff (Fw.seqNil (Fw.nil (.nx ⟨rfl,fun g hg=>hfs g (List.mem_cons_of_mem _ hg),_,rfl⟩)))))
  intro e U2 hor
  obtain ⟨rfl,_,p10,rfl⟩:=hor.resolve_right id
  refine Fw.set (x := .d (Y5x (V++X2.map (mp a b c)))) (S1:=U2) (X8 (Z6 rfl) (Z1r (ds:=(X2.map (mp a b c)).map spD) (Z5 (six6 (s:=⟨c, "mine",false,false,true,true⟩) rfl) (Z5 (six6 (s:=⟨b, "mine",false,false,true,true⟩) rfl) Y1)) rfl (hz4 (by simp [X2]))) Y4 Y4 (hadd (by simp [X2]))) ?_
  have q1:=Z8b (k:=true) (f := "strange") h l0.1 l0.2.1 hstr Y96 (fun z=>Y2k (X0:=X2) hV) (by rw [List.length_append]; simp [X2]; omega)
  rw [l0.2.2,W80] at q1
  have q2:=Z8b (k:=true) (f := "strange") h llt.1 llt.2.1 hstr Y96 (fun z=>Y2k (X0:=X2) hV) (by rw [List.length_append]; simp [X2]; omega)
  rw [llt.2.2,X0i X1l] at q2
  refine Fw.if_ (b:=false) (Z34 (Z0v (X8 (Y7 (Z5 (Z6 rfl) (Z5 e01 (Z5 V9 (Z5 (Z6 rfl) Y1)))) (W4 rfl (Z42 q1))) V9 Y4 Y4 (isn0 rfl))) (W1 (Y7 (Z5 (Z6 rfl) (Z5 el1 (Z5 V9 (Z5 (Z6 rfl) Y1)))) (W4 rfl (Z42 q2))) rfl)) (Fw.iff (Fw.seqNil ?_))
  refine Fw.set (x := .d (Y5x (V++X3.map (mp a b c)))) (S1:=U2) (X8 (Z6 rfl) (Z1r (ds:=(X3.map (mp a b c)).map spD) (Z5 (six6 (s:=⟨c, "mine",false,false,true,true⟩) rfl) (Z5 (six6 (s:=⟨b, "other",false,false,true,true⟩) rfl) Y1)) rfl (hz4 (by simp [X3]))) Y4 Y4 (hadd (by simp [X3]))) ?_
  refine Fw.for_ (l:=F6) (f:=fun f=>X.d (.str f)) (lk := .free) (S1:=U2) hwalk (fun l e U=>U=U2∧(∀ f ∈ l,f ∈ F6)∧∃ o8,e=evL ns ([]:Sto).length a b c V o8 (some (.d (Y5x (V++X1.map (mp a b c))))) p10 (some (.d (Y5x (V++X2.map (mp a b c))))) (some (.d (Y5x (V++X3.map (mp a b c))))) none) (fun _ _=>False) ⟨rfl,fun _ h=>h,_,rfl⟩ (fun _ _ _ _=>rfl) ?_ ?_
  · rintro f l e U ⟨rfl,hfs,p8,rfl⟩
    have hf6:=hfs f (by simp)
    have hf:=W7v f hf6
    refine ⟨evL ns ([]:Sto).length a b c V (some (.d (.str f))) (some (.d (Y5x (V++X1.map (mp a b c))))) p10 (some (.d (Y5x (V++X2.map (mp a b c))))) (some (.d (Y5x (V++X3.map (mp a b c))))) none,rfl,?_⟩
    have q3:=Z8b (k:=true) (f:=f) h l0.1 l0.2.1 hf X33 (fun z=>Y2k (X0:=X3) hV) (by rw [List.length_append]; simp [X3]; omega)
    rw [l0.2.2,V1q f hf6] at q3
    have q4:=Z8b (k:=true) (f:=f) h lb.1 lb.2.1 hf X33 (fun z=>Y2k (X0:=X3) hV) (by rw [List.length_append]; simp [X3]; omega)
    rw [lb.2.2,X0i X4w] at q4
    exact Fw.one (Fw.if_ (b:=false) (Z34 (Z0v (X8 (Y7 (Z5 (Z6 rfl) (Z5 e01 (Z5 (Z6 rfl) (Z5 (Z6 rfl) Y1)))) (W4 rfl (Z42 q3))) V9 Y4 Y4 (isn0 rfl))) (Z0v (X8 (Y7 (Z5 (Z6 rfl) (Z5 eb1 (Z5 (Z6 rfl) (Z5 (Z6 rfl) Y1)))) (W4 rfl (Z42 q4))) V9 Y4 Y4 (isn0 rfl)))) (Fw.iff (Fw.seqNil (Fw.nil (.nx ⟨rfl,fun g hg=>hfs g (List.mem_cons_of_mem _ hg),_,rfl⟩)))))
  intro e U3 hor
  obtain ⟨rfl,_,p8,rfl⟩:=hor.resolve_right id
  have q5:=Z8b (k:=true) (f := "strange") (V:=V++V.take 3) h l0.1 l0.2.1 hstr Y3c (fun z=>by
    rw [List.mem_append,← Y4s hV]
    exact ⟨fun h=>h.elim id fun h=>List.mem_of_mem_take h, .inl⟩) (by rw [List.length_append,List.length_take]; omega)
  rw [l0.2.2,W29 "strange" (by simp)] at q5
  have sl3:∀ T:Sto,slX T (.d (Y5x V)) none (some 3)=some (.d (.tup ((V.take 3).map spD))):=fun T=>by
    show some (X.d (.tup (Z6f (V.map spD) none (some 3))))=_
    rw [X6i _ (by decide),List.map_take]
    rfl
  exact Fw.one (Fw.retP (X8 (Y7 (Z5 (Z6 rfl) (Z5 e01 (Z5 V9 (Z5 (X8 (Z6 rfl) (Z4a (Z6 rfl) Y4i (Z5a V9) (sl3 _)) Y4 Y4 (hadd (by rw [List.length_take]; omega))) Y1)))) (W4 rfl (Z42 q5))) V9 Y4 Y4 (show Bv.isB (.bl true) (.bl true)=some (.bl true) from rfl)) Y4 rfl)
end
end Lw
set_option maxHeartbeats 0
namespace Lw
end Lw
open PySem PySem.W PySem.Calls PyProof.Rows
theorem PySem.Challenge.cw_wordingkept_k45_papers_known_by_hand_holds : PySem.Challenge.rw_wordingkept_k45_papers_known_by_hand.Holds := by
  w_on; o_law
  refine HandSHeadRun.head_any (r:=Lw.Rw) (q:=Lw.Vw) (H:=Lw.hkL) (ob:=Lw.obL) (M:=60000) (loose:=Lw.looseL) (d:=HandSHeadRun.topDef Lw.Rw.prog 73) (kwd:=[]) Lw.obL_eq
    (by kernel_rfl) (fun s=>by kernel_rfl) Lw.runL (by kernel_rfl) (by kernel_rfl) (by kernel_rfl) (by rfl) (by first | assumption | decide +kernel) (by decide +kernel) ⟨rfl,rfl,rfl,rfl,rfl,by decide +kernel⟩ ?hw ?hc
  case hw=>w_witness2
  case hc =>
    refine Bv.walk_ofG (l:=PySem.Challenge.rw_wordingkept_k45_papers_known_by_hand) (n:=63) (k:=12) (x := "_law_script") rfl (by decide) (by kernel_rfl) ⟨rfl,by decide,by decide⟩ ?F
    intro w mg fa h Y G hmg0
    obtain ⟨K,KX,c⟩:=Y
    have hmg:mg ("law" : PySem.Str)=some (.ref fa):=by
      have e:(HandSHeadRun.topDef Lw.Rw.prog 73).name=("law" : PySem.Str):=by kernel_rfl
      rw [← e]
      exact hmg0
    letI:Bv.HasW:=⟨w⟩
    obtain ⟨fd,hb,hF⟩:=Lw.all (P:=(PySem.Challenge.rw_wordingkept_k45_papers_known_by_hand).prog) KX G c (by kernel_rfl) (by kernel_rfl) hmg
    exact ⟨K,fd,Bv.spP K 1 Lw.g_law,KX,hb,fun H a ns hl only hS=>Bv.law_sp Lw.plain H a ns hl only hS,hF⟩
