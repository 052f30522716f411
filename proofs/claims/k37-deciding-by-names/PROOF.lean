import PyProof.Rows.All
import Wide.All
import OpenK.AllK
import Wide.FinOn
import HandS.ForMost
import HandS.Exc
import HandS.WordsExc
import HandS.IsInst
import HandS.Flow
import HandS.HeadHook1
import KE.KDictCopyH
import HandS.TupAny
import HandS.Deep
import HandS.Wide
import HandS.Star
import HandS.Walk
import HandS.ExcOwn
import HandS.ExcCtx
import HandS.SuiteRaise
import HandS.RaiseFrom
import KE.KExcRaise
import HandS.CallSlots
import HandS.Defaults
import HandS.HeadEnd
import HandS.Dict
import HandS.More
import HandS.List
import HandS.Text
import HandS.Style
import HandS.RaiseMore
import PyProof.ReprRoads
import HandS.NamedTupSort
import HandS.OwnEq
import KE.KCallOwn
import KE.KFmtOwn
import PyProof.InstNe
import HandS.HeadHook2
import HandS.ClsMeth
import HandS.Strs
import KE.GoesMore
import PyProof.Draws
import PyProof.EnumMake
import KE.GoesZip
import HandS.ExcInit
import KE.KExcInit
import KE.KExcSuper
import KE.KExcIs
import HandS.ExcIs
import HandS.ExcField
import OpenK.KOps
import OpenK.KMeth
import HandS.Head0
import HandS.Head1
import HandS.Head2
import Lean
import KE.KStateDown
import HandS.NoneIn
import HandS.DictComp
import HandS.SortInts
import Wide.Txt2
import HandS.Property
import KE.KEqDict
import PyProof.Rows.TupDisplay
import HandS.SetBool
import PyProof.Rows.SortShellAny
import HandS.FStr
import KE.KxField
import PyProof.FString2
import PyProof.FString3
import HandS.Conv
import HandS.Iter
import HandS.Zip
import HandS.ReplaceLit
import HandS.Comp
import HandS.ListItems
import KE.KDictZip
import KE.DataCmp
import HandS.SetFor
import KE.KDictSum
import PyProof.DictUpdate
import PyProof.Rows.CountFlat
import KE.SortData
import HandS.ExcValue
import PySem.Challenge.RW_wordingkept_k37_deciding_by_names
set_option Elab.async false
set_option linter.all false
set_option maxRecDepth 100000
set_option maxHeartbeats 4000000
namespace Bv
open PySem PySem.Spec L2
open PyProof.Rows hiding St
class HasW where
  w:World
variable [HasW]
inductive D where
  | non | bl (b:Bool) | int (i:Int) | str (x:Str)
  | tup (ds:List D) | lst (ds:List D) | dic (kvs:List (D × D))
  | obj (C:Str) (fs:List (Str × D)) | gl (x:Str) | scr (ns:List Int)
inductive X where
  | d (v:D) | r (n:Nat)
inductive O where
  | lst (xs:List X) | dic (kvs:List (D × X)) | ins (C:Str) (fs:List (Str × X))
  | fdc (kvs:List (D × X)) | tdc (kvs:List (D × X))
  | tfc (kvs:List (D × X))
abbrev Sto:=List O
abbrev Ev:=List (Option X)
inductive R (α:Type) where
  | ok (a:α) (S:Sto) | err (C:Str) (fs:List (Str × D)) (S:Sto) | bad
def D.key?:D→Option Key
  | .int i=>some (.inl i)
  | .str x=>some (.inr x)
  | _=>none
def D.leaf?:D→Option Leaf
  | .non=>some .none
  | .bl b=>some (.num (if b=true then 1 else 0))
  | .int i=>some (.num i)
  | .str x=>some (.text x)
  | _=>none
def leafs?:List D→Option (List Leaf)
  | []=>some []
  | d :: r=>match d.leaf?,leafs? r with
    | some k,some l=>some (k :: l)
    | _,_=>none
def D.tkey?:D→Option (List Leaf)
  | .tup ds=>leafs? ds
  | _=>none
def X6w (ks:List Leaf):Int:=reduceHash (Builtin.Tuple.tupleHashOf (ks.map fun k=>k.key.hash HasW.w))
def TDx (a:Addr) (xs:List (List Leaf × Addr × V)) (h:Heap):Prop:=(a == sysModules)=false∧∃ ys:List (List Leaf × Addr × Value),Paired (fun p q=>p.1=q.1∧p.2.1=q.2.1∧RelV p.2.2 q.2.2) xs ys ∧
  ∃ o es ep,h.get? a=some o∧o.ExactDict∧o.data = .dict es ep∧es.toList=ys.map (fun x=>(⟨X6w x.1, .ref x.2.1,x.2.2⟩:DictEntry))∧(ys.map (·.1)).Nodup
abbrev TDo (a:Addr) (xs:List (List Leaf × Addr × V)):HO := .ext (TDx a xs)
abbrev Wd:=Addr→Prop
def Wn (Z:Wd) (ρ:List Addr):Wd:=fun a=>Z a ∨ a ∈ ρ
def W31 (K:PySem.W.Frag) (a:Addr) (xs:List V):Prop:=∃ (o:Obj) (its:Array Value) (n:Nat),K.lookup a=some o∧o.cls = .type "tuple" ∧ o.data = .seq its n∧its.size ≤ sizeLine∧Vals xs its.toList
def Tp (K:PySem.W.Frag) (W:Wd) (H:Hp) (a:Addr) (xs:List V):Prop:=(¬ W a∧H a=some (.tup xs)) ∨ W31 K a xs
theorem Tp.sq {K:PySem.W.Frag} {W:Wd} {H:Hp} {a:Addr} {xs:List V} (h:Tp K W H a xs):SqT K H a xs:=by
  rcases h with ⟨_,h⟩ | h
  · exact .inl (.inl h)
  · exact .inr h
def W4b (K:PySem.W.Frag) (a:Addr) (xs:List V):Prop:=∃ (o:Obj) (its:Array Value) (n:Nat),K.lookup a=some o∧o.cls = .type "list" ∧ o.dict=none∧o.data = .seq its n∧its.size ≤ sizeLine∧Vals xs its.toList
def Lp (K:PySem.W.Frag) (W:Wd) (H:Hp) (a:Addr) (xs:List V):Prop:=(¬ W a∧Rd H a (.lst xs)) ∨ W4b K a xs
theorem Lp.sl {K:PySem.W.Frag} {W:Wd} {H:Hp} {a:Addr} {xs:List V} (h:Lp K W H a xs):SqL K H a xs:=by
  rcases h with ⟨_,h⟩ | h
  · exact .inl h
  · exact .inr h
mutual
inductive AV (K:PySem.W.Frag) (W:Wd) (H:Hp):D→V→Prop
  | non:AV K W H .non .non
  | bl (b:Bool):AV K W H (.bl b) (.bl b)
  | int (i:Int):AV K W H (.int i) (.int i)
  | str {x:Str}:PyData.strOk x=true→AV K W H (.str x) (.str x)
  | gl (x:Str):AV K W H (.gl x) (.ref (He.ga K x))
  | scr {a:Addr} {ns:List Int}:Lp K W H a (ns.map V.int)→AV K W H (.scr ns) (.ref a)
  | tup {a:Addr} {xs:List V} {ds:List D}:Tp K W H a xs→AVs K W H ds xs→AV K W H (.tup ds) (.ref a)
  | lst {a:Addr} {xs:List V} {ds:List D}:¬ W a→H a=some (.lst xs)→AVs K W H ds xs→AV K W H (.lst ds) (.ref a)
  | dic {a:Addr} {o:Obj} {ks:List (Key × V)} {kvs:List (D × D)}:¬ W a→H a=some (.frz o (.dK ks))→AVk K W H kvs ks→AV K W H (.dic kvs) (.ref a)
  | obj {C:Str} {a dx:Addr} {vs:List (Str × V)} {fs:List (Str × D)}:¬ W a→H a=some (.ins (He.ga K C) dx vs)→AVf K W H fs vs→AV K W H (.obj C fs) (.ref a)
inductive AVs (K:PySem.W.Frag) (W:Wd) (H:Hp):List D→List V→Prop
  | nil:AVs K W H [] []
  | cons {d:D} {v:V} {ds:List D} {vs:List V}:AV K W H d v→AVs K W H ds vs→AVs K W H (d :: ds) (v :: vs)
inductive AVk (K:PySem.W.Frag) (W:Wd) (H:Hp):List (D × D)→List (Key × V)→Prop
  | nil:AVk K W H [] []
  | cons {k d:D} {q:Key} {v:V} {ds:List (D × D)} {vs:List (Key × V)}:k.key?=some q→AV K W H d v→AVk K W H ds vs→AVk K W H ((k,d) :: ds) ((q,v) :: vs)
inductive AVf (K:PySem.W.Frag) (W:Wd) (H:Hp):List (Str × D)→List (Str × V)→Prop
  | nil:AVf K W H [] []
  | cons {f:Str} {d:D} {v:V} {ds:List (Str × D)} {vs:List (Str × V)}:AV K W H d v→AVf K W H ds vs→AVf K W H ((f,d) :: ds) ((f,v) :: vs)
end
def Mv (W:Wd) (H:Hp) (W':Wd) (H':Hp):Prop:=∀ a o,¬ W a→H a=some o→¬ W' a∧H' a=some o
theorem Mv.rd {W W':Wd} {H H':Hp} {a:Addr} {u:HO} (m:Mv W H W' H') (h:¬ W a) (r:Rd H a u):¬ W' a∧Rd H' a u:=by
  rcases r with r | ⟨o,r⟩
  · obtain ⟨h1,h2⟩:=m a _ h r
    exact ⟨h1, .inl h2⟩
  · obtain ⟨h1,h2⟩:=m a _ h r
    exact ⟨h1, .inr ⟨o,h2⟩⟩
theorem Mv.lp {K:PySem.W.Frag} {W W':Wd} {H H':Hp} {a:Addr} {xs:List V} (m:Mv W H W' H') (h:Lp K W H a xs):Lp K W' H' a xs:=by
  rcases h with ⟨h1,h2⟩ | h
  · exact .inl (m.rd h1 h2)
  · exact .inr h
theorem Mv.tp {K:PySem.W.Frag} {W W':Wd} {H H':Hp} {a:Addr} {xs:List V} (m:Mv W H W' H') (h:Tp K W H a xs):Tp K W' H' a xs:=by
  rcases h with ⟨h1,h2⟩ | h
  · exact .inl (m _ _ h1 h2)
  · exact .inr h
section
variable {K:PySem.W.Frag} {W W':Wd} {H H':Hp}
mutual
theorem AV.mv (m:Mv W H W' H'):∀ {d:D} {v:V},AV K W H d v→AV K W' H' d v
  | _,_, .non => .non
  | _,_, .bl b => .bl b
  | _,_, .int i => .int i
  | _,_, .str x => .str x
  | _,_, .scr h => .scr (m.lp h)
  | _,_, .gl x => .gl x
  | _,_, .tup h hs => .tup (m.tp h) (AVs.mv m hs)
  | _,_, .lst w h hs => .lst (m _ _ w h).1 (m _ _ w h).2 (AVs.mv m hs)
  | _,_, .dic w h hs => .dic (m _ _ w h).1 (m _ _ w h).2 (AVk.mv m hs)
  | _,_, .obj w h hs => .obj (m _ _ w h).1 (m _ _ w h).2 (AVf.mv m hs)
theorem AVs.mv (m:Mv W H W' H'):∀ {ds:List D} {vs:List V},AVs K W H ds vs→AVs K W' H' ds vs
  | _,_, .nil => .nil
  | _,_, .cons h hs => .cons (AV.mv m h) (AVs.mv m hs)
theorem AVk.mv (m:Mv W H W' H'):∀ {ds:List (D × D)} {vs:List (Key × V)},AVk K W H ds vs→AVk K W' H' ds vs
  | _,_, .nil => .nil
  | _,_, .cons k h hs => .cons k (AV.mv m h) (AVk.mv m hs)
theorem AVf.mv (m:Mv W H W' H'):∀ {ds:List (Str × D)} {vs:List (Str × V)},AVf K W H ds vs→AVf K W' H' ds vs
  | _,_, .nil => .nil
  | _,_, .cons h hs => .cons (AV.mv m h) (AVf.mv m hs)
end
end
inductive AX (K:PySem.W.Frag) (W:Wd) (ρ:List Addr) (H:Hp):X→V→Prop
  | d {v:D} {u:V}:AV K W H v u→AX K W ρ H (.d v) u
  | r {n:Nat} {a:Addr}:ρ[n]?=some a→AX K W ρ H (.r n) (.ref a)
abbrev AXs (K:PySem.W.Frag) (W:Wd) (ρ:List Addr) (H:Hp):List X→List V→Prop:=Paired (AX K W ρ H)
theorem AX.mv {K:PySem.W.Frag} {W W':Wd} {ρ ρ':List Addr} {H H':Hp} (m:Mv W H W' H') (p:ρ <+: ρ') {x:X} {v:V} (h:AX K W ρ H x v):AX K W' ρ' H' x v:=by
  cases h with
  | d h=>exact .d (h.mv m)
  | r h =>
    refine .r ?_
    obtain ⟨t,rfl⟩:=p
    rw [List.getElem?_append_left (List.getElem?_eq_some_iff.mp h).1]
    exact h
theorem AXs.mv {K:PySem.W.Frag} {W W':Wd} {ρ ρ':List Addr} {H H':Hp} (m:Mv W H W' H') (p:ρ <+: ρ') {xs:List X} {vs:List V} (h:AXs K W ρ H xs vs):AXs K W' ρ' H' xs vs:=Paired.mapP h fun _ _ q=>q.mv m p
def AO (K:PySem.W.Frag) (W:Wd) (ρ:List Addr) (H:Hp) (o:O) (a:Addr):Prop :=
  match o with
  | .lst xs=>∃ vs,H a=some (.lst vs)∧AXs K W ρ H xs vs
  | .dic kvs=>∃ ks:List (Key × V),H a=some (.dK ks)∧Paired (fun (p:D × X) (q:Key × V)=>p.1.key?=some q.1∧AX K W ρ H p.2 q.2) kvs ks
  | .fdc kvs=>∃ (ob:Obj) (ks:List (Key × V)),H a=some (.frz ob (.dK ks))∧Paired (fun (p:D × X) (q:Key × V)=>p.1.key?=some q.1∧AX K W ρ H p.2 q.2) kvs ks
  | .tdc kvs=>∃ xs:List (List Leaf × Addr × V),H a=some (TDo a xs)∧Paired (fun (p:D × X) (q:List Leaf × Addr × V)=>p.1.tkey?=some q.1∧AV K W H p.1 (.ref q.2.1)∧AX K W ρ H p.2 q.2.2) kvs xs
  | .tfc kvs=>∃ (ob:Obj) (xs:List (List Leaf × Addr × V)),H a=some (.frz ob (TDo a xs))∧Paired (fun (p:D × X) (q:List Leaf × Addr × V)=>p.1.tkey?=some q.1∧AV K W H p.1 (.ref q.2.1)∧AX K W ρ H p.2 q.2.2) kvs xs
  | .ins C fs=>∃ (dx:Addr) (vs:List (Str × V)),H a=some (.ins (He.ga K C) dx vs)∧Paired (fun (p:Str × X) (q:Str × V)=>p.1=q.1∧AX K W ρ H p.2 q.2) fs vs
theorem AO.mv {K:PySem.W.Frag} {W W':Wd} {ρ ρ':List Addr} {H H':Hp} {o:O} {a:Addr} (m:Mv W H W' H') (p:ρ <+: ρ') (k:∀ u,H a=some u→H' a=some u) (x:AO K W ρ H o a):AO K W' ρ' H' o a:=by
  cases o with
  | lst xs=>obtain ⟨vs,e,q⟩:=x; exact ⟨vs,k _ e,AXs.mv m p q⟩
  | dic kvs=>obtain ⟨vs,e,q⟩:=x; exact ⟨vs,k _ e,Paired.mapP q fun _ _ z=>⟨z.1,z.2.mv m p⟩⟩
  | fdc kvs=>obtain ⟨ob,vs,e,q⟩:=x; exact ⟨ob,vs,k _ e,Paired.mapP q fun _ _ z=>⟨z.1,z.2.mv m p⟩⟩
  | tdc kvs=>obtain ⟨vs,e,q⟩:=x; exact ⟨vs,k _ e,Paired.mapP q fun _ _ z=>⟨z.1,z.2.1.mv m,z.2.2.mv m p⟩⟩
  | tfc kvs=>obtain ⟨ob,vs,e,q⟩:=x; exact ⟨ob,vs,k _ e,Paired.mapP q fun _ _ z=>⟨z.1,z.2.1.mv m,z.2.2.mv m p⟩⟩
  | ins C fs=>obtain ⟨dx,vs,e,q⟩:=x; exact ⟨dx,vs,k _ e,Paired.mapP q fun _ _ z=>⟨z.1,z.2.mv m p⟩⟩
theorem AO.there {K:PySem.W.Frag} {W:Wd} {ρ:List Addr} {H:Hp} {o:O} {a:Addr} (x:AO K W ρ H o a):∃ u,H a=some u:=by
  cases o with
  | lst xs=>obtain ⟨vs,e,_⟩:=x; exact ⟨_,e⟩
  | dic kvs=>obtain ⟨vs,e,_⟩:=x; exact ⟨_,e⟩
  | fdc kvs=>obtain ⟨ob,vs,e,_⟩:=x; exact ⟨_,e⟩
  | tdc kvs=>obtain ⟨vs,e,_⟩:=x; exact ⟨_,e⟩
  | tfc kvs=>obtain ⟨ob,vs,e,_⟩:=x; exact ⟨_,e⟩
  | ins C fs=>obtain ⟨dx,vs,e,_⟩:=x; exact ⟨_,e⟩
structure Sta (K:PySem.W.Frag) (Z:Wd) (ρ:List Addr) (S:Sto) (H:Hp):Prop where
  nd:ρ.Nodup
  z:∀ a,Z a→a ∉ ρ∧∃ o,H a=some o
  len:S.length=ρ.length
  ob:∀ (n:Nat) (o:O) (a:Addr),S[n]?=some o→ρ[n]?=some a→AO K (Wn Z ρ) ρ H o a
theorem Sta.mem {K:PySem.W.Frag} {Z:Wd} {ρ:List Addr} {S:Sto} {H:Hp} (s:Sta K Z ρ S H) {a:Addr} (h:a ∈ ρ):∃ (n:Nat) (o:O),S[n]?=some o∧ρ[n]?=some a:=by
  obtain ⟨n,hn,e⟩:=List.getElem_of_mem h
  have h2:n < S.length:=by rw [s.len]; exact hn
  exact ⟨n,S[n],List.getElem?_eq_getElem h2,by rw [List.getElem?_eq_getElem hn,e]⟩
structure Go (ρ:List Addr) (H:Hp) (ρ':List Addr) (H':Hp):Prop where
  pre:ρ <+: ρ'
  keep:∀ a o,a ∉ ρ→H a=some o→a ∉ ρ'∧H' a=some o
  fz:∀ a ob u,H a=some (.frz ob u)→H' a=some (.frz ob u)
theorem Go.refl (ρ:List Addr) (H:Hp):Go ρ H ρ H:=⟨List.prefix_refl _,fun _ _ h q=>⟨h,q⟩,fun _ _ _ q=>q⟩
theorem Go.trans {ρ ρ1 ρ2:List Addr} {H H1 H2:Hp} (a:Go ρ H ρ1 H1) (b:Go ρ1 H1 ρ2 H2):Go ρ H ρ2 H2 :=
  ⟨a.pre.trans b.pre,fun c o h q=>let ⟨h1,q1⟩:=a.keep c o h q; b.keep c o h1 q1,fun c ob u q=>b.fz c ob u (a.fz c ob u q)⟩
theorem Go.mv {K:PySem.W.Frag} {Z:Wd} {ρ ρ':List Addr} {S:Sto} {H H':Hp} (s:Sta K Z ρ S H) (g:Go ρ H ρ' H'):Mv (Wn Z ρ) H (Wn Z ρ') H':=fun a o h q=>by
  have h1:a ∉ ρ:=fun z=>h (.inr z)
  obtain ⟨h2,q2⟩:=g.keep a o h1 q
  exact ⟨fun z=>z.elim (fun z=>h (.inl z)) h2,q2⟩
structure EvOk (K:PySem.W.Frag) (W:Wd) (ρ:List Addr) (H:Hp) (e:Ev) (σ:St):Prop where
  len:e.length=σ.length
  at_:∀ (i:Nat) (x:X),e[i]?=some (some x)→∃ v,σ[i]?=some (some v)∧AX K W ρ H x v
theorem EvOk.mv {K:PySem.W.Frag} {W W':Wd} {ρ ρ':List Addr} {H H':Hp} (m:Mv W H W' H') (p:ρ <+: ρ') {e:Ev} {σ:St} (h:EvOk K W ρ H e σ):EvOk K W' ρ' H' e σ :=
  ⟨h.len,fun i x q=>let ⟨v,h1,h2⟩:=h.at_ i x q; ⟨v,h1,h2.mv m p⟩⟩
theorem EvOk.set {K:PySem.W.Frag} {W:Wd} {ρ:List Addr} {H:Hp} {e:Ev} {σ:St} {i:Nat} {x:X} {v:V} (h:EvOk K W ρ H e σ) (a:AX K W ρ H x v):EvOk K W ρ H (e.set i (some x)) (σ.set i (some v)):=by
  refine ⟨by rw [List.length_set,List.length_set]; exact h.len,fun j y q=>?_⟩
  by_cases hj:i=j
  · subst hj
    have hl:i < e.length:=by
      have:=(List.getElem?_eq_some_iff.mp q).1
      rwa [List.length_set] at this
    rw [List.getElem?_set_self hl] at q
    cases q
    exact ⟨v,by rw [List.getElem?_set_self (by rw [← h.len]; exact hl)],a⟩
  · rw [List.getElem?_set_ne hj] at q
    obtain ⟨u,h1,h2⟩:=h.at_ j y q
    exact ⟨u,by rw [List.getElem?_set_ne hj]; exact h1,h2⟩
def X8s (K:PySem.W.Frag) (Z:Wd) (ρ:List Addr) (H:Hp) (Wx:WX) (σ:St) (C:Str) (fs:List (Str × D)) (S':Sto):Prop :=
  ∀ (ρ':List Addr) (H':Hp) (d:Option Addr),Sta K Z ρ' S' H'→Go ρ H ρ' H' →
    ((d=none∧fs=[]) ∨ ∃ (dd:Addr) (vs:List (Str × V)),d=some dd∧H dd=none∧¬ Wn Z ρ' dd∧H' dd=some (.xd vs)∧AVf K (Wn Z ρ') H' fs vs)→Wx (.ref (He.ga K C)) d σ H'
def W1 {α β:Type} (rel:Wd→List Addr→Hp→α→β→Prop) (K:PySem.W.Frag) (Z:Wd) (ρ:List Addr) (H:Hp) (Wx:WX) (σ:St) (Q:β→Hp→Prop):R α→Prop
  | .ok x S'=>∀ (ρ':List Addr) (H':Hp) (v:β),Sta K Z ρ' S' H'→Go ρ H ρ' H'→rel (Wn Z ρ') ρ' H' x v→Q v H'
  | .err C fs S'=>X8s K Z ρ H Wx σ C fs S'
  | .bad=>False
abbrev MG (α:Type):=Ev→Sto→R α
def RG {α β:Type} (rel:Wd→List Addr→Hp→α→β→Prop) (K:PySem.W.Frag) (Wx:WX) (m:MG α):St→Hp→(β→Hp→Prop)→Prop:=fun σ H Q=>∃ (Z:Wd) (ρ:List Addr) (e:Ev) (S:Sto),Sta K Z ρ S H∧EvOk K (Wn Z ρ) ρ H e σ∧W1 rel K Z ρ H Wx σ Q (m e S)
abbrev M:=MG X
abbrev Z43 (K:PySem.W.Frag):=W1 (AX K) K
abbrev RE (K:PySem.W.Frag) (Wx:WX) (m:M):TE:=RG (AX K) K Wx m
abbrev ME (X:Cx) (Wx:WX) (e:Expr) (m:M):Prop:=PE X e (RE X.K Wx m)
abbrev RA (K:PySem.W.Frag) (Wx:WX) (m:MG (List X)):TA:=RG (AXs K) K Wx m
abbrev MA (X:Cx) (Wx:WX) (es:List Expr) (m:MG (List Bv.X)):Prop:=PA X es (RA X.K Wx m)
abbrev relB:Wd→List Addr→Hp→Bool→Bool→Prop:=fun _ _ _ b c=>b=c
abbrev RB (K:PySem.W.Frag) (Wx:WX) (m:MG Bool):L2.TT:=RG relB K Wx m
abbrev MT (X:Cx) (Wx:WX) (e:Expr) (m:MG Bool):Prop:=PT X e (RB X.K Wx m)
def R.bind {α β:Type} (r:R α) (k:α→Sto→R β):R β:=match r with
  | .ok a S=>k a S
  | .err C fs S => .err C fs S
  | .bad => .bad
theorem X8s.shift {K:PySem.W.Frag} {Z:Wd} {ρ ρ1:List Addr} {H H1:Hp} {Wx:WX} {σ:St} {C:Str} {fs:List (Str × D)} {S':Sto} (g:Go ρ H ρ1 H1) (s1:∀ a o,H a=some o→∃ u,H1 a=some u) (h:X8s K Z ρ H Wx σ C fs S'):X8s K Z ρ1 H1 Wx σ C fs S':=fun ρ' H' d st go q=>by
  refine h ρ' H' d st (g.trans go) ?_
  rcases q with q | ⟨dd,vs,h1,h2,h3⟩
  · exact .inl q
  · refine .inr ⟨dd,vs,h1,?_,h3⟩
    cases e:H dd with
    | none=>rfl
    | some o =>
      obtain ⟨u,z⟩:=s1 dd o e
      rw [h2] at z; cases z
theorem Y8a {K:PySem.W.Frag} {Z:Wd} {ρ ρ1:List Addr} {S1:Sto} {H H1:Hp} (g:Go ρ H ρ1 H1) (s1:Sta K Z ρ1 S1 H1):∀ a o,H a=some o→∃ u,H1 a=some u:=fun a o q=>by
  by_cases h:a ∈ ρ
  · have h1:a ∈ ρ1:=g.pre.subset h
    obtain ⟨n,o,e1,e2⟩:=s1.mem h1
    exact (s1.ob n o a e1 e2).there
  · exact ⟨o,(g.keep a o h q).2⟩
theorem W1.shift {α β:Type} {rel:Wd→List Addr→Hp→α→β→Prop} {K:PySem.W.Frag} {Z:Wd} {ρ ρ1:List Addr} {S1:Sto} {H H1:Hp} {Wx:WX} {σ:St} {Q:β→Hp→Prop} {r:R α} (g:Go ρ H ρ1 H1) (s1:Sta K Z ρ1 S1 H1) (h:W1 rel K Z ρ H Wx σ Q r):W1 rel K Z ρ1 H1 Wx σ Q r:=by
  cases r with
  | ok x S'=>exact fun ρ' H' v st go a=>h ρ' H' v st (g.trans go) a
  | err C fs S'=>exact X8s.shift g (Y8a g s1) h
  | bad=>exact h
theorem X9 {α β γ δ:Type} {rel:Wd→List Addr→Hp→α→β→Prop} {rel':Wd→List Addr→Hp→γ→δ→Prop} {K:PySem.W.Frag} {Wx:WX} {Z:Wd} {ρ:List Addr} {e:Ev} {S:Sto} {σ:St} {H:Hp} {Q:δ→Hp→Prop} {m:MG α} {k:α→Sto→R γ} {R':β→Hp→Prop} (st:Sta K Z ρ S H) (ev:EvOk K (Wn Z ρ) ρ H e σ) (h:W1 rel' K Z ρ H Wx σ Q ((m e S).bind k))
    (next:∀ ρ1 H1 v x S1,Sta K Z ρ1 S1 H1→Go ρ H ρ1 H1→EvOk K (Wn Z ρ1) ρ1 H1 e σ→rel (Wn Z ρ1) ρ1 H1 x v→W1 rel' K Z ρ1 H1 Wx σ Q (k x S1)→R' v H1):RG rel K Wx m σ H R':=by
  refine ⟨Z,ρ,e,S,st,ev,?_⟩
  cases q:m e S with
  | ok x S1 =>
    rw [q] at h
    exact fun ρ1 H1 v s1 g a=>next ρ1 H1 v x S1 s1 g (ev.mv (g.mv st) g.pre) a (W1.shift g s1 h)
  | err C fs S1=>rw [q] at h; exact h
  | bad=>rw [q] at h; exact h
theorem Sta.grow {K:PySem.W.Frag} {Z:Wd} {ρ:List Addr} {S:Sto} {H H':Hp} (s:Sta K Z ρ S H) (k:∀ a o,H a=some o→H' a=some o):Sta K Z ρ S H':=by
  have m:Mv (Wn Z ρ) H (Wn Z ρ) H':=fun a o h q=>⟨h,k a o q⟩
  refine ⟨s.nd,fun a h=>⟨(s.z a h).1,let ⟨o,q⟩:=(s.z a h).2; ⟨o,k a o q⟩⟩,s.len,fun n o a e1 e2=>?_⟩
  exact AO.mv m (List.prefix_refl _) (k a) (s.ob n o a e1 e2)
theorem Go.grow {ρ:List Addr} {H H':Hp} (k:∀ a o,H a=some o→H' a=some o):Go ρ H ρ H':=⟨List.prefix_refl _,fun a o h q=>⟨h,k a o q⟩,fun a _ _ q=>k a _ q⟩
theorem Sta.thereW {K:PySem.W.Frag} {Z:Wd} {ρ:List Addr} {S:Sto} {H:Hp} (s:Sta K Z ρ S H) {a:Addr} (h:Wn Z ρ a):∃ o,H a=some o:=by
  rcases h with h | h
  · exact (s.z a h).2
  · obtain ⟨n,o,e1,e2⟩:=s.mem h
    exact (s.ob n o a e1 e2).there
theorem Sta.put {K:PySem.W.Frag} {Z:Wd} {ρ:List Addr} {S:Sto} {H:Hp} {n:Nat} {a:Addr} {o':O} {u:HO} (s:Sta K Z ρ S H) (hn:ρ[n]?=some a) (nf:∀ ob u,H a ≠ some (.frz ob u)) (new:AO K (Wn Z ρ) ρ (upd H a u) o' a):Sta K Z ρ (S.set n o') (upd H a u)∧Go ρ H ρ (upd H a u):=by
  have ha:a ∈ ρ:=List.mem_of_getElem? hn
  have m:Mv (Wn Z ρ) H (Wn Z ρ) (upd H a u):=fun b o h q=>⟨h,by rw [upd_ne (fun z=>h (.inr (by rw [z]; exact ha)))]; exact q⟩
  refine ⟨⟨s.nd,fun b h=>⟨(s.z b h).1,?_⟩,by rw [List.length_set]; exact s.len,fun k o b e1 e2=>?_⟩,⟨List.prefix_refl _,fun b o h q=>⟨h,by rw [upd_ne (fun z=>h (by rw [z]; exact ha))]; exact q⟩,fun b ob w q=>by rw [upd_ne (fun z=>nf ob w (by rw [← z]; exact q))]; exact q⟩⟩
  · obtain ⟨o,q⟩:=(s.z b h).2
    exact ⟨o,by rw [upd_ne (fun z=>(s.z b h).1 (by rw [z]; exact ha))]; exact q⟩
  · by_cases hk:n=k
    · subst hk
      rw [hn] at e2; cases e2
      have hl:n < S.length:=by
        have:=(List.getElem?_eq_some_iff.mp e1).1
        rwa [List.length_set] at this
      rw [List.getElem?_set_self hl] at e1
      cases e1
      exact new
    · rw [List.getElem?_set_ne hk] at e1
      have hb:b ≠ a:=fun z=>by
        subst z
        obtain ⟨h1,q1⟩:=List.getElem?_eq_some_iff.mp hn
        obtain ⟨h2,q2⟩:=List.getElem?_eq_some_iff.mp e2
        exact hk ((List.getElem_inj s.nd).mp (q1.trans q2.symm))
      exact AO.mv m (List.prefix_refl _) (fun w q=>by rw [upd_ne hb]; exact q) (s.ob k o b e1 e2)
theorem Sta.push {K:PySem.W.Frag} {Z:Wd} {ρ:List Addr} {S:Sto} {H H':Hp} {a:Addr} {o':O} (s:Sta K Z ρ S H) (hn:H a=none) (k:∀ b o,H b=some o→H' b=some o) (new:AO K (Wn Z (ρ++[a])) (ρ++[a]) H' o' a):Sta K Z (ρ++[a]) (S++[o']) H'∧Go ρ H (ρ++[a]) H':=by
  have hne:∀ b o,H b=some o→b ≠ a:=fun b o q z=>by rw [z,hn] at q; cases q
  have g:Go ρ H (ρ++[a]) H':=⟨List.prefix_append _ _,fun b o h q=>⟨fun z=>by
    rcases List.mem_append.mp z with z | z
    · exact h z
    · exact hne b o q (by simpa using z),k b o q⟩,fun b _ _ q=>k b _ q⟩
  have hna:a ∉ ρ:=fun z=>by
    obtain ⟨n,o,e1,e2⟩:=s.mem z
    obtain ⟨w,q⟩:=(s.ob n o a e1 e2).there
    exact hne a w q rfl
  refine ⟨⟨?_,fun b h=>⟨fun z=>?_,?_⟩,by rw [List.length_append,List.length_append,s.len]; rfl,fun m o b e1 e2=>?_⟩,g⟩
  · rw [List.nodup_append]
    exact ⟨s.nd,by simp,fun x hx y hy z=>by
      have:y=a:=by simpa using hy
      subst this; subst z; exact hna hx⟩
  · obtain ⟨o,q⟩:=(s.z b h).2
    rcases List.mem_append.mp z with z | z
    · exact (s.z b h).1 z
    · exact hne b o q (by simpa using z)
  · obtain ⟨o,q⟩:=(s.z b h).2
    exact ⟨o,k b o q⟩
  · by_cases hm:m < ρ.length
    · rw [List.getElem?_append_left hm] at e2
      rw [List.getElem?_append_left (by rw [s.len]; exact hm)] at e1
      exact AO.mv (g.mv s) g.pre (k b) (s.ob m o b e1 e2)
    · rw [List.getElem?_append_right (by omega)] at e2
      rw [List.getElem?_append_right (by rw [s.len]; omega)] at e1
      have hz:m - ρ.length=0:=by
        have:=(List.getElem?_eq_some_iff.mp e2).1
        simp at this; omega
      rw [hz] at e2
      rw [s.len,hz] at e1
      cases e1; cases e2
      exact new
theorem Sta.fresh {K:PySem.W.Frag} {Z:Wd} {ρ:List Addr} {S:Sto} {H:Hp} (s:Sta K Z ρ S H) {a:Addr} (h:H a=none):¬ Wn Z ρ a:=fun z=>by
  obtain ⟨o,e⟩:=s.thereW z
  rw [h] at e; cases e
theorem U3 {H:Hp} {p:Addr} {o:HO} (h:H p=none):∀ a u,H a=some u→upd H p o a=some u:=fun a u q=>by
  rw [upd_ne (ne_of_none q h)]; exact q
theorem W1.ret {α β:Type} {rel:Wd→List Addr→Hp→α→β→Prop} {K:PySem.W.Frag} {Z:Wd} {ρ:List Addr} {S:Sto} {H H':Hp} {Wx:WX} {σ:St} {Q:β→Hp→Prop} {x:α} {v:β} (h:W1 rel K Z ρ H Wx σ Q (.ok x S)) (s:Sta K Z ρ S H) (k:∀ a o,H a=some o→H' a=some o) (a:rel (Wn Z ρ) ρ H' x v):Q v H' :=
  h ρ H' v (s.grow k) (Go.grow k) a
theorem W1.ret0 {α β:Type} {rel:Wd→List Addr→Hp→α→β→Prop} {K:PySem.W.Frag} {Z:Wd} {ρ:List Addr} {S:Sto} {H:Hp} {Wx:WX} {σ:St} {Q:β→Hp→Prop} {x:α} {v:β} (h:W1 rel K Z ρ H Wx σ Q (.ok x S)) (s:Sta K Z ρ S H) (a:rel (Wn Z ρ) ρ H x v):Q v H :=
  h ρ H v s (Go.refl _ _) a
end Bv
namespace Bv
open PySem PySem.Spec L2
open PyProof.Rows hiding St
variable [HasW]
inductive AW (K:PySem.W.Frag) (W:Wd) (H:Hp):D→V→Prop
  | av {d:D} {v:V}:AV K W H d v→AW K W H d v
  | lst {a:Addr} {xs:List V} {ds:List D}:H a=some (.lst xs)→AVs K W H ds xs→AW K W H (.lst ds) (.ref a)
  | fdc {a:Addr} {ob:Obj} {ks:List (Key × V)} {kvs:List (D × D)}:H a=some (.frz ob (.dK ks))→AVk K W H kvs ks→AW K W H (.dic kvs) (.ref a)
def X.d?:X→Option D
  | .d v=>some v
  | .r _=>none
def ds?:List X→Option (List D)
  | []=>some []
  | x :: r=>match x,ds? r with
    | .d v,some l=>some (v :: l)
    | _,_=>none
def ks?:List (D × X)→Option (List (D × D))
  | []=>some []
  | (k,x) :: r=>match x,ks? r with
    | .d v,some l=>some ((k,v) :: l)
    | _,_=>none
def X.get (S:Sto):X→Option D
  | .d v=>some v
  | .r n=>match S[n]? with
    | some (.lst xs)=>(ds? xs).map .lst
    | some (.fdc kvs)=>(ks? kvs).map .dic
    | _=>none
section
variable {K:PySem.W.Frag} {W:Wd} {ρ:List Addr} {H:Hp}
theorem AXs.ds:∀ {xs:List X} {vs:List V} {ds:List D},AXs K W ρ H xs vs→ds? xs=some ds→AVs K W H ds vs
  | _,_,_, .nil,e=>by cases e; exact .nil
  | x :: r,_,ds, .cons h hs,e=>by
    cases x with
    | r n=>simp [ds?] at e
    | d v =>
      unfold ds? at e
      cases q:ds? r with
      | none=>rw [q] at e; cases e
      | some l =>
        rw [q] at e
        cases e
        cases h with
        | d h=>exact .cons h (AXs.ds hs q)
theorem AXk.ks:∀ {xs:List (D × X)} {vs:List (Key × V)} {ds:List (D × D)},Paired (fun (p:D × X) (q:Key × V)=>p.1.key?=some q.1∧AX K W ρ H p.2 q.2) xs vs→ks? xs=some ds→AVk K W H ds vs
  | _,_,_, .nil,e=>by cases e; exact .nil
  | (k,x) :: r,_,ds, .cons h hs,e=>by
    cases x with
    | r n=>simp [ks?] at e
    | d v =>
      unfold ks? at e
      cases q:ks? r with
      | none=>rw [q] at e; cases e
      | some l =>
        rw [q] at e
        cases e
        obtain ⟨h1,h2⟩:=h
        cases h2 with
        | d h=>exact .cons h1 h (AXk.ks hs q)
theorem Sta.at_ {Z:Wd} {S:Sto} (s:Sta K Z ρ S H) {n:Nat} {o:O} (e:S[n]?=some o):∃ a,ρ[n]?=some a∧AO K (Wn Z ρ) ρ H o a:=by
  have h:n < ρ.length:=by rw [← s.len]; exact (List.getElem?_eq_some_iff.mp e).1
  exact ⟨ρ[n],List.getElem?_eq_getElem h,s.ob n o _ e (List.getElem?_eq_getElem h)⟩
theorem AX.get {Z:Wd} {S:Sto} (s:Sta K Z ρ S H) {x:X} {v:V} {d:D} (a:AX K (Wn Z ρ) ρ H x v) (e:x.get S=some d):AW K (Wn Z ρ) H d v:=by
  cases a with
  | d h=>cases e; exact .av h
  | r h =>
    rename_i n a
    have e1:(match S[n]? with
      | some (.lst xs)=>(ds? xs).map .lst
      | some (.fdc kvs)=>(ks? kvs).map .dic
      | _=>none)=some d:=e
    cases q:S[n]? with
    | none=>rw [q] at e1; cases e1
    | some o =>
      rw [q] at e1
      obtain ⟨b,hb,x⟩:=s.at_ q
      rw [h] at hb; cases hb
      cases o with
      | lst xs =>
        obtain ⟨l,h1,h2⟩:=Option.map_eq_some_iff.mp (show (ds? xs).map D.lst=some d from e1)
        subst h2
        obtain ⟨vs,h3,h4⟩:=x
        exact .lst h3 (AXs.ds h4 h1)
      | fdc kvs =>
        obtain ⟨l,h1,h2⟩:=Option.map_eq_some_iff.mp (show (ks? kvs).map D.dic=some d from e1)
        subst h2
        obtain ⟨ob,vs,h3,h4⟩:=x
        exact .fdc h3 (AXk.ks h4 h1)
      | _=>cases e1
theorem AW.sq {ds:List D} {v:V} (h:AW K W H (.lst ds) v):∃ a xs,v = .ref a∧H a=some (.lst xs)∧AVs K W H ds xs:=by
  cases h with
  | av h=>cases h with | lst w r hs=>exact ⟨_,_,rfl,r,hs⟩
  | lst h hs=>exact ⟨_,_,rfl,h,hs⟩
theorem AW.tq {ds:List D} {v:V} (h:AW K W H (.tup ds) v):∃ a xs,v = .ref a∧Tp K W H a xs∧AVs K W H ds xs:=by
  cases h with
  | av h=>cases h with | tup t hs=>exact ⟨_,_,rfl,t,hs⟩
theorem AVs.length:∀ {ds:List D} {vs:List V},AVs K W H ds vs→ds.length=vs.length
  | _,_, .nil=>rfl
  | _,_, .cons _ t=>by simp [AVs.length t]
theorem AVs.get:∀ {ds:List D} {vs:List V} {i:Nat} {d:D},AVs K W H ds vs→ds[i]?=some d→∃ v,vs[i]?=some v∧AV K W H d v
  | _,_,_,_, .nil,e=>by simp at e
  | _,_,0,_, .cons h _,e=>by simp at e; subst e; exact ⟨_,rfl,h⟩
  | _,_,i + 1,d, .cons _ t,e=>by
    obtain ⟨v,h1,h2⟩:=AVs.get (i:=i) (d:=d) t (by simpa using e)
    exact ⟨v,by simpa using h1,h2⟩
theorem AVs.append:∀ {ds es:List D} {vs us:List V},AVs K W H ds vs→AVs K W H es us→AVs K W H (ds++es) (vs++us)
  | _,_,_,_, .nil,s=>s
  | _,_,_,_, .cons r t,s => .cons r (AVs.append t s)
theorem AVs.take:∀ {ds:List D} {vs:List V} (n:Nat),AVs K W H ds vs→AVs K W H (ds.take n) (vs.take n)
  | _,_,0,_ => .nil
  | _,_,_ + 1, .nil => .nil
  | _,_,n + 1, .cons r t => .cons r (AVs.take n t)
theorem AVs.drop:∀ {ds:List D} {vs:List V} (n:Nat),AVs K W H ds vs→AVs K W H (ds.drop n) (vs.drop n)
  | _,_,0,r=>r
  | _,_,_ + 1, .nil => .nil
  | _,_,n + 1, .cons _ t=>AVs.drop n t
theorem AVf.look:∀ {fs:List (Str × D)} {vs:List (Str × V)} {f:Str} {d:D},AVf K W H fs vs→fs.lookup f=some d→∃ v,vs.lookup f=some v∧AV K W H d v
  | _,_,_,_, .nil,e=>by cases e
  | (g,x) :: r,_,f,d, .cons h hs,e=>by
    rw [List.lookup_cons] at e ⊢
    cases q:f == g with
    | true=>rw [q] at e; cases e; exact ⟨_,rfl,h⟩
    | false=>rw [q] at e; exact AVf.look hs e
theorem AVf.none_of:∀ {fs:List (Str × D)} {vs:List (Str × V)} {f:Str},AVf K W H fs vs→fs.lookup f=none→vs.lookup f=none
  | _,_,_, .nil,e=>rfl
  | (g,x) :: r,_,f, .cons h hs,e=>by
    rw [List.lookup_cons] at e ⊢
    cases q:f == g with
    | true=>rw [q] at e; cases e
    | false=>rw [q] at e; exact AVf.none_of hs e
end
def Z4 (i:Nat):M:=fun e S=>match e[i]? with
  | some (some x) => .ok x S
  | _ => .bad
def m_c (d:D):M:=fun _ S => .ok (.d d) S
section
variable {X:Cx} {Wx:WX} {pos:Pos}
theorem PE.of {X:Cx} {e:Expr} {t t':TE} (h:PE X e t) (w:∀ σ H Q,t' σ H Q→t σ H Q):PE X e t':=⟨fun pins s σ H Q I q=>h.run pins s σ H Q I (w σ H Q q)⟩
theorem Z0 (i:Nat) {x:Str} (hN:X.N[i]?=some x:=by rfl) (hv:Vis X.env.scope x:=by first | exact Or.inl rfl | exact Or.inr (Or.inl rfl) | exact Or.inr (Or.inr rfl)) (hd:(x == ("__debug__" : Str))=false:=by decide)
    (hcd:(x == ("__classdict__" : Str))=false:=by decide):ME X Wx (.Name x pos) (Z4 i):=PE.of (pe_var hN hv hd hcd) fun σ H Q ⟨Z,ρ,e,S,st,ev,p⟩=>by
  unfold Z4 at p
  cases q:e[i]? with
  | none=>rw [q] at p; exact p.elim
  | some o =>
    cases o with
    | none=>rw [q] at p; exact p.elim
    | some x =>
      rw [q] at p
      obtain ⟨v,h1,h2⟩:=ev.at_ i x q
      exact ⟨v,h1,p.ret0 st h2⟩
theorem X5b {e:Expr} {d:D} {v:V} (h:PE X e (tC v)) (a:∀ W H,AV X.K W H d v):ME X Wx e (m_c d):=PE.of h fun σ H Q ⟨Z,ρ,e,S,st,ev,p⟩=>W1.ret0 p st (.d (a _ _))
theorem Y6 {i:Int} {j}:ME X Wx (.Constant (.int i) j pos) (m_c (.int i)):=X5b pe_int fun _ _ => .int i
theorem Z2r {b:Bool} {j}:ME X Wx (.Constant (.bool b) j pos) (m_c (.bl b)):=X5b pe_bl fun _ _ => .bl b
theorem Z0j {j}:ME X Wx (.Constant .none j pos) (m_c .non):=X5b pe_non fun _ _ => .non
theorem Y4 {x:Str} {j} (h:PyData.strOk x=true:=by decide +kernel):ME X Wx (.Constant (.str x) j pos) (m_c (.str x)):=X5b pe_str fun _ _ => .str h
theorem Y7o {x:Str} {d:D} {u:Value} (hg:Gl X x) (hm:X.mg x=some u) (h:∃ v,(∀ W H,AV X.K W H d v)∧RelV v u) (hd:(x == ("__debug__" : Str))=false:=by decide):ME X Wx (.Name x pos) (m_c d):=by
  obtain ⟨v,a,r⟩:=h
  exact X5b (pe_glob hg hm r hd) a
end
def Op2 (K:PySem.W.Frag) (r:R2) (f:D→D→Option D):Prop:=∀ (W:Wd) (H:Hp) (d1 d2:D) (v1 v2:V) (d:D) (Q:VK),(∀ a,W a→∃ o,H a=some o)→AW K W H d1 v1→AW K W H d2 v2→f d1 d2=some d →
  (∀ H' v,Same H H'→AV K W H' d v→Q v H')→r v1 v2 H Q
def op2 (f:D→D→Option D) (S:Sto) (x y:X):R X:=match x.get S,y.get S with
  | some a,some b=>(match f a b with
    | some d => .ok (.d d) S
    | none => .bad)
  | _,_ => .bad
def Y3 (f:D→D→Option D) (ma mb:M):M:=fun e S=>(ma e S).bind fun x S1=>(mb e S1).bind fun y S2=>op2 f S2 x y
section
variable {X:Cx} {Wx:WX} {pos:Pos} {a b c:Expr} {ma mb mc:M}
theorem Z5h {W:Wd} {H H':Hp} (k:Same H H'):Mv W H W H':=fun a o h q=>⟨h,k a o q⟩
theorem X5o {r:R2} {f:D→D→Option D} (hf:Op2 X.K r f) {Z:Wd} {ρ:List Addr} {S:Sto} {H:Hp} {σ:St} {Q:VK} {x y:Bv.X} {v1 v2:V} (st:Sta X.K Z ρ S H) (a1:AX X.K (Wn Z ρ) ρ H x v1) (a2:AX X.K (Wn Z ρ) ρ H y v2)
    (p:Z43 X.K Z ρ H Wx σ Q (op2 f S x y)):r v1 v2 H Q:=by
  unfold op2 at p
  cases e1:x.get S with
  | none=>rw [e1] at p; exact p.elim
  | some d1 =>
    cases e2:y.get S with
    | none=>rw [e1,e2] at p; exact p.elim
    | some d2 =>
      rw [e1,e2] at p
      have p:Z43 X.K Z ρ H Wx σ Q (match f d1 d2 with
        | some d => .ok (.d d) S
        | none => .bad):=p
      cases e3:f d1 d2 with
      | none=>rw [e3] at p; exact p.elim
      | some d =>
        rw [e3] at p
        exact hf (Wn Z ρ) H d1 d2 v1 v2 d Q (fun _ h=>st.thereW h) (a1.get st e1) (a2.get st e2) e3 fun H' v k h=>p.ret st k (.d h)
theorem X11 {r:R2} {f:D→D→Option D} (hf:Op2 X.K r f) {σ:St} {H:Hp} {Q:VK} (h:RE X.K Wx (Y3 f ma mb) σ H Q):tOp r (RE X.K Wx ma) (RE X.K Wx mb) σ H Q:=by
  obtain ⟨Z,ρ,e,S,st,ev,p⟩:=h
  refine X9 st ev p fun ρ1 H1 v1 x S1 st1 g1 ev1 a1 p1=>?_
  refine X9 st1 ev1 p1 fun ρ2 H2 v2 y S2 st2 g2 ev2 a2 p2=>?_
  exact X5o hf st2 (a1.mv (g2.mv st1) g2.pre) a2 p2
theorem W3c {op:Operator} {r:R2} {f:D→D→Option D} (ho:OpR X (binaryOp op) r) (hf:Op2 X.K r f) (ha:ME X Wx a ma) (hb:ME X Wx b mb):ME X Wx (.BinOp a op b pos) (Y3 f ma mb) :=
  PE.of (pe_op ho ha hb) fun _ _ _ h=>X11 hf h
theorem W1s {op:CmpOp} {r:R2} {f:D→D→Option D} (ho:OpR X (compareOp op) r) (hf:Op2 X.K r f) (ha:ME X Wx a ma) (hb:ME X Wx b mb) (hm:behindInMarks op b=false:=by first | exact nomark _ | (with_unfolding_all rfl)):ME X Wx (.Compare a [op] [b] pos) (Y3 f ma mb) :=
  PE.of (pe_cmpR ho ha hb hm) fun _ _ _ h=>X11 hf h
def Z76 (f g:D→D→Option D) (ma mb mc:M):M:=fun e S=>(ma e S).bind fun x S1=>(mb e S1).bind fun y S2=>(op2 f S2 x y).bind fun z S3=>match z with
  | .d (.bl true)=>(mc e S3).bind fun w S4=>op2 g S4 y w
  | .d (.bl false) => .ok (.d (.bl false)) S3
  | _ => .bad
end
end Bv
namespace Bv
open PySem PySem.Spec L2
open PyProof.Rows hiding St
variable [HasW]
mutual
def D.py:D→Option PyData
  | .non=>some .none
  | .bl b=>some (.bool b)
  | .int i=>some (.int i)
  | .str x=>some (.str x)
  | .tup ds=>match pys ds with
    | some l=>some (.tuple l)
    | none=>none
  | .lst ds=>match pys ds with
    | some l=>some (.list l)
    | none=>none
  | .scr ns=>some (.list (ns.map .int))
  | .dic _=>none
  | .obj _ _=>none
  | .gl _=>none
def pys:List D→Option (List PyData)
  | []=>some []
  | d :: r=>match d.py,pys r with
    | some p,some l=>some (p :: l)
    | _,_=>none
end
section
variable {K:PySem.W.Frag} {W:Wd} {H:Hp}
theorem X4k:∀ ns:List Int,DpAll K H (ns.map V.int) (ns.map PyData.int)
  | [] => .nil
  | n :: r => .cons (.int n) (X4k r)
theorem X2s:∀ ns:List Int,PyData.canLayAll0 (ns.map PyData.int)=true
  | []=>by simp [PyData.canLayAll0]
  | n :: r=>by simp [PyData.canLayAll0,PyData.canLay0,X2s r]
mutual
theorem AV.dp:∀ {d:D} {v:V} {p:PyData},AV K W H d v→d.py=some p→Dp K H v p∧p.canLay0=true
  | _,_,_, .non,e=>by cases e; exact ⟨.non,by simp [PyData.canLay0]⟩
  | _,_,_, .bl b,e=>by cases e; exact ⟨.bl b,by simp [PyData.canLay0]⟩
  | _,_,_, .int i,e=>by cases e; exact ⟨.int i,by simp [PyData.canLay0]⟩
  | _,_,_, .str h,e=>by cases e; exact ⟨.str _,by simpa [PyData.canLay0] using h⟩
  | _,_,_, .gl x,e=>by cases e
  | _,_,_, .scr h,e=>by cases e; exact ⟨.lst h.sl (X4k _),by simpa [PyData.canLay0] using X2s _⟩
  | .tup ds,_,p, .tup t hs,e=>by
    have e1:(match pys ds with
      | some l=>some (PyData.tuple l)
      | none=>none)=some p:=by simpa [D.py] using e
    cases q:pys ds with
    | none=>rw [q] at e1; cases e1
    | some l =>
      rw [q] at e1; cases e1
      obtain ⟨h1,h2⟩:=AVs.dp hs q
      exact ⟨.tup t.sq h1,by simpa [PyData.canLay0] using h2⟩
  | .lst ds,_,p, .lst w h hs,e=>by
    have e1:(match pys ds with
      | some l=>some (PyData.list l)
      | none=>none)=some p:=by simpa [D.py] using e
    cases q:pys ds with
    | none=>rw [q] at e1; cases e1
    | some l =>
      rw [q] at e1; cases e1
      obtain ⟨h1,h2⟩:=AVs.dp hs q
      exact ⟨.lst (.inl (.inl h)) h1,by simpa [PyData.canLay0] using h2⟩
  | _,_,_, .dic w h hs,e=>by simp [D.py] at e
  | _,_,_, .obj w h hs,e=>by simp [D.py] at e
theorem AVs.dp:∀ {ds:List D} {vs:List V} {ps:List PyData},AVs K W H ds vs→pys ds=some ps→DpAll K H vs ps∧PyData.canLayAll0 ps=true
  | _,_,_, .nil,e=>by simp [pys] at e; subst e; exact ⟨.nil,by simp [PyData.canLayAll0]⟩
  | d :: r,_,ps, .cons h hs,e=>by
    cases q1:d.py with
    | none=>simp [pys,q1] at e
    | some p =>
      cases q2:pys r with
      | none=>simp [pys,q1,q2] at e
      | some l =>
        simp [pys,q1,q2] at e
        subst e
        obtain ⟨h1,h2⟩:=AV.dp h q1
        obtain ⟨h3,h4⟩:=AVs.dp hs q2
        exact ⟨.cons h1 h3,by simp [PyData.canLayAll0,h2,h4]⟩
end
theorem AW.dp {d:D} {v:V} {p:PyData} (h:AW K W H d v) (e:d.py=some p):Dp K H v p∧p.canLay0=true:=by
  cases h with
  | av h=>exact h.dp e
  | lst h hs =>
    rename_i a xs ds
    have e1:(match pys ds with
      | some l=>some (PyData.list l)
      | none=>none)=some p:=by simpa [D.py] using e
    cases q:pys ds with
    | none=>rw [q] at e1; cases e1
    | some l =>
      rw [q] at e1; cases e1
      obtain ⟨h1,h2⟩:=AVs.dp hs q
      exact ⟨.lst (.inl (.inl h)) h1,by simpa [PyData.canLay0] using h2⟩
  | fdc h hs=>simp [D.py] at e
end
def dOk (p:PyData):Bool:=decide (p.depth ≤ 64)
theorem Z7m {p:PyData} (h:p.canLay0=true) (d:dOk p=true):SeqAt.shaped p=true:=by
  unfold SeqAt.shaped
  rw [h,Bool.true_and]
  exact d
def eqD (a b:D):Option D:=match a.py,b.py with
  | some p,some q=>if dOk p && dOk q then some (.bl (PyData.eqv p q)) else none
  | _,_=>none
def neD (a b:D):Option D:=match a.py,b.py with
  | some p,some q=>if dOk p && dOk q then some (.bl (!PyData.eqv p q)) else none
  | _,_=>none
section
variable {K:PySem.W.Frag}
theorem X8r {a b d:D} {f:PyData→PyData→D} (e:(match a.py,b.py with
  | some p,some q=>if dOk p && dOk q then some (f p q) else none
  | _,_=>none)=some d):∃ p q,a.py=some p∧b.py=some q∧dOk p=true∧dOk q=true∧d=f p q:=by
  cases q1:a.py with
  | none=>rw [q1] at e; cases e
  | some p =>
    cases q2:b.py with
    | none=>rw [q1,q2] at e; cases e
    | some q =>
      rw [q1,q2] at e
      have e:(if dOk p && dOk q then some (f p q) else none)=some d:=e
      cases q3:dOk p && dOk q with
      | false=>rw [q3] at e; cases e
      | true =>
        rw [q3] at e
        cases e
        obtain ⟨h1,h2⟩:=Bool.and_eq_true_iff.mp q3
        exact ⟨p,q,rfl,rfl,h1,h2,rfl⟩
theorem W4h:Op2 K (rEqD K) eqD:=fun W H d1 d2 v1 v2 d Q hw a1 a2 e k=>by
  obtain ⟨p,q,e1,e2,h1,h2,rfl⟩:=X8r (f:=fun p q => .bl (PyData.eqv p q)) e
  obtain ⟨x1,y1⟩:=a1.dp e1
  obtain ⟨x2,y2⟩:=a2.dp e2
  exact ⟨p,q,x1,x2,Z7m y1 h1,Z7m y2 h2,k H _ (Same.refl H) (.bl _)⟩
theorem W4k:Op2 K (rNeD K) neD:=fun W H d1 d2 v1 v2 d Q hw a1 a2 e k=>by
  obtain ⟨p,q,e1,e2,h1,h2,rfl⟩:=X8r (f:=fun p q => .bl (!PyData.eqv p q)) e
  obtain ⟨x1,y1⟩:=a1.dp e1
  obtain ⟨x2,y2⟩:=a2.dp e2
  exact ⟨p,q,x1,x2,Z7m y1 h1,Z7m y2 h2,k H _ (Same.refl H) (.bl _)⟩
end
def inB (a b:D):Option Bool:=match a.py,b.py with
  | some p,some (.list l)=>if dOk p && dOk (.list l) then some (l.any fun z=>PyData.eqv z p) else none
  | some p,some (.tuple l)=>if dOk p && dOk (.tuple l) then some (l.any fun z=>PyData.eqv z p) else none
  | some (.str x),some (.str y)=>if x.cps.size=1 then some (y.cps.toList.contains (x.cps.getD 0 0)) else none
  | _,_=>none
def inD (a b:D):Option D:=(inB a b).map .bl
def X8d (a b:D):Option D:=(inB a b).map fun c => .bl (!c)
def W0s (neg:Bool) (K:PySem.W.Frag):R2:=fun x y H Q=>(∃ d ds,Dp K H x d∧(Dp K H y (.list ds) ∨ Dp K H y (.tuple ds))∧SeqAt.shaped d=true∧SeqAt.shaped (.list ds)=true∧Q (.bl (if neg then !ds.any fun z=>PyData.eqv z d else ds.any fun z=>PyData.eqv z d)) H) ∨
  ∃ (c:Nat) (z:Str),x = .str ⟨#[c]⟩∧y = .str z∧Q (.bl (if neg then !decide (c ∈ z.cps.toList) else decide (c ∈ z.cps.toList))) H
theorem W13 {X:Cx} (hu:X.A.units + 65 < cLine):OpR X (compareOp .In) (W0s false X.K):=by
  intro pins s σ H x y v u Q I rx ry h
  rcases h with ⟨d,ds,hd,he,sd,se,q⟩ | ⟨c,z,rfl,rfl,q⟩
  · obtain ⟨as,r1⟩:=Dp.reads I d x v hd rx
    rcases he with he | he
    · obtain ⟨bs,r2⟩:=Dp.reads I (.list ds) y u he ry
      exact SeqAt.in_list_reads r2 r1 (SeqAt.canLay_of_shaped se) (SeqAt.canLay_of_shaped sd) (room_in_shaped sd hu) ⟨.bl _,H,I,rfl,q⟩
    · obtain ⟨bs,r2⟩:=Dp.reads I (.tuple ds) y u he ry
      exact SeqAt.in_tuple_reads r2 r1 (SeqAt.canLay_of_shaped se) (SeqAt.canLay_of_shaped sd) (room_in_shaped sd hu) ⟨.bl _,H,I,rfl,q⟩
  · exact op_in_sign pins s σ H _ _ v u Q I rx ry ⟨c,z,rfl,rfl,q⟩
theorem X9x {X:Cx} (hu:X.A.units + 65 < cLine):OpR X (compareOp .NotIn) (W0s true X.K):=by
  intro pins s σ H x y v u Q I rx ry h
  rcases h with ⟨d,ds,hd,he,sd,se,q⟩ | ⟨c,z,rfl,rfl,q⟩
  · obtain ⟨as,r1⟩:=Dp.reads I d x v hd rx
    rcases he with he | he
    · obtain ⟨bs,r2⟩:=Dp.reads I (.list ds) y u he ry
      exact SeqAt.notIn_list_reads r2 r1 (SeqAt.canLay_of_shaped se) (SeqAt.canLay_of_shaped sd) (room_in_shaped sd hu) ⟨.bl _,H,I,rfl,q⟩
    · obtain ⟨bs,r2⟩:=Dp.reads I (.tuple ds) y u he ry
      exact SeqAt.notIn_tuple_reads r2 r1 (SeqAt.canLay_of_shaped se) (SeqAt.canLay_of_shaped sd) (room_in_shaped sd hu) ⟨.bl _,H,I,rfl,q⟩
  · exact op_notIn_sign pins s σ H _ _ v u Q I rx ry ⟨c,z,rfl,rfl,q⟩
theorem X7b {x:Str} (h:x.cps.size=1):x=⟨#[x.cps.getD 0 0]⟩:=by
  obtain ⟨a⟩:=x
  obtain ⟨l⟩:=a
  cases l with
  | nil=>cases h
  | cons c r =>
    cases r with
    | nil=>rfl
    | cons c' r=>simp at h
theorem X72 {K:PySem.W.Frag} {W:Wd} {H:Hp} {a b:D} {v1 v2:V} {c:Bool} (neg:Bool) {Q:VK} (a1:AW K W H a v1) (a2:AW K W H b v2) (e:inB a b=some c) (q:Q (.bl (if neg then !c else c)) H):W0s neg K v1 v2 H Q:=by
  unfold inB at e
  cases e1:a.py with
  | none=>rw [e1] at e; cases e
  | some p =>
    cases e2:b.py with
    | none=>rw [e1,e2] at e; cases p <;> cases e
    | some t =>
      rw [e1,e2] at e
      obtain ⟨x1,y1⟩:=a1.dp e1
      obtain ⟨x2,y2⟩:=a2.dp e2
      have seq:∀ {l:List PyData},(Dp K H v2 (.list l) ∨ Dp K H v2 (.tuple l))→PyData.canLayAll0 l=true→dOk (.list l)=true→dOk p=true→c=(l.any fun z=>PyData.eqv z p)→W0s neg K v1 v2 H Q:=fun {l} h hl hd hp hc=>by
        subst hc
        exact .inl ⟨p,l,x1,h,Z7m y1 hp,Z7m (by simpa [PyData.canLay0] using hl) hd,q⟩
      cases t with
      | list l =>
        have e:(if dOk p && dOk (.list l) then some (l.any fun z=>PyData.eqv z p) else none)=some c:=by cases p <;> exact e
        cases h:dOk p && dOk (.list l) with
        | false=>rw [h] at e; cases e
        | true =>
          rw [h] at e
          cases e
          obtain ⟨h1,h2⟩:=Bool.and_eq_true_iff.mp h
          exact seq (.inl x2) (by simpa [PyData.canLay0] using y2) h2 h1 rfl
      | tuple l =>
        have e:(if dOk p && dOk (.tuple l) then some (l.any fun z=>PyData.eqv z p) else none)=some c:=by cases p <;> exact e
        cases h:dOk p && dOk (.tuple l) with
        | false=>rw [h] at e; cases e
        | true =>
          rw [h] at e
          cases e
          obtain ⟨h1,h2⟩:=Bool.and_eq_true_iff.mp h
          exact seq (.inr x2) (by simpa [PyData.canLay0] using y2) (by simpa [dOk,PyData.depth] using h2) h1 rfl
      | str y =>
        cases p with
        | str x =>
          have e:(if x.cps.size=1 then some (y.cps.toList.contains (x.cps.getD 0 0)) else none)=some c:=e
          by_cases h:x.cps.size=1
          · rw [if_pos h] at e
            cases e
            cases x1
            cases x2
            refine .inr ⟨x.cps.getD 0 0,y,by rw [← X7b h],rfl,?_⟩
            rw [List.contains_eq_mem] at q
            exact q
          · rw [if_neg h] at e; cases e
        | _=>cases e
      | none=>cases p <;> cases e
      | bool _=>cases p <;> cases e
      | int _=>cases p <;> cases e
      | dict _=>cases p <;> cases e
section
variable {K:PySem.W.Frag}
theorem W4i:Op2 K (W0s false K) inD:=fun W H d1 d2 v1 v2 d Q hw a1 a2 e k=>by
  obtain ⟨c,h1,h2⟩:=Option.map_eq_some_iff.mp (show (inB d1 d2).map D.bl=some d from e)
  subst h2
  exact X72 false a1 a2 h1 (k H _ (Same.refl H) (.bl _))
theorem W3i:Op2 K (W0s true K) X8d:=fun W H d1 d2 v1 v2 d Q hw a1 a2 e k=>by
  obtain ⟨c,h1,h2⟩:=Option.map_eq_some_iff.mp (show (inB d1 d2).map (fun c=>D.bl (!c))=some d from e)
  subst h2
  exact X72 true a1 a2 h1 (k H _ (Same.refl H) (.bl _))
end
section
variable {K:PySem.W.Frag}
def ii (f:Int→Int→Option D):D→D→Option D
  | .int i, .int j=>f i j
  | _,_=>none
theorem AW.int_inv {W:Wd} {H:Hp} {i:Int} {v:V} (h:AW K W H (.int i) v):v = .int i:=by
  cases h with | av h=>cases h; rfl
theorem AW.str_inv {W:Wd} {H:Hp} {x:Str} {v:V} (h:AW K W H (.str x) v):v = .str x∧PyData.strOk x=true:=by
  cases h with | av h=>cases h with | str h=>exact ⟨rfl,h⟩
theorem AW.bl_inv {W:Wd} {H:Hp} {b:Bool} {v:V} (h:AW K W H (.bl b) v):v = .bl b:=by
  cases h with | av h=>cases h; rfl
theorem AW.non_inv {W:Wd} {H:Hp} {v:V} (h:AW K W H .non v):v = .non:=by
  cases h with | av h=>cases h; rfl
theorem X2n {f:Int→Int→Option D} {a b d:D} (e:ii f a b=some d):∃ i j,a = .int i∧b = .int j∧f i j=some d:=by
  cases a with
  | int i=>cases b with
    | int j=>exact ⟨i,j,rfl,rfl,e⟩
    | _=>cases e
  | _=>cases b <;> cases e
theorem W11 {g:Int→Int→Int}:Op2 K (rI0 fun i j => .int (g i j)) (ii fun i j=>some (.int (g i j))):=fun W H d1 d2 v1 v2 d Q hw a1 a2 e k=>by
  obtain ⟨i,j,rfl,rfl,e0⟩:=X2n e
  clear e
  have e:=e0
  clear e0
  cases e
  cases a1.int_inv
  cases a2.int_inv
  exact ⟨i,j,rfl,rfl,k H _ (Same.refl H) (.int _)⟩
theorem X5i {C:Int→Int→Prop} [∀ i j,Decidable (C i j)] {g:Int→Int→Int}:Op2 K (rI C fun i j => .int (g i j)) (ii fun i j=>if C i j then some (.int (g i j)) else none):=fun W H d1 d2 v1 v2 d Q hw a1 a2 e k=>by
  obtain ⟨i,j,rfl,rfl,e0⟩:=X2n e
  clear e
  have e:=e0
  clear e0
  by_cases h:C i j
  · rw [if_pos h] at e
    cases e
    cases a1.int_inv
    cases a2.int_inv
    exact ⟨i,j,rfl,rfl,h,k H _ (Same.refl H) (.int _)⟩
  · rw [if_neg h] at e; cases e
theorem X22 {g:Int→Int→Bool}:Op2 K (rI0 fun i j => .bl (g i j)) (ii fun i j=>some (.bl (g i j))):=fun W H d1 d2 v1 v2 d Q hw a1 a2 e k=>by
  obtain ⟨i,j,rfl,rfl,e0⟩:=X2n e
  clear e
  have e:=e0
  clear e0
  cases e
  cases a1.int_inv
  cases a2.int_inv
  exact ⟨i,j,rfl,rfl,k H _ (Same.refl H) (.bl _)⟩
instance (i j:Int):Decidable (CMul i j):=by unfold CMul; infer_instance
instance (i j:Int):Decidable (CDiv i j):=by unfold CDiv; infer_instance
instance (i j:Int):Decidable (CPow i j):=by unfold CPow; infer_instance
def W2v:D→D→Option D:=ii fun i j=>some (.int (i - j))
def W1z:D→D→Option D:=ii fun i j=>if CMul i j then some (.int (i * j)) else none
def Y7h:D→D→Option D:=ii fun i j=>if CDiv i j then some (.int (i / j)) else none
def X20:D→D→Option D:=ii fun i j=>if 0 < j then some (.int (i % j)) else none
def ltD:D→D→Option D:=ii fun i j=>some (.bl (decide (i < j)))
def leD:D→D→Option D:=ii fun i j=>some (.bl (decide (i ≤ j)))
def gtD:D→D→Option D:=ii fun i j=>some (.bl (decide (j < i)))
def geD:D→D→Option D:=ii fun i j=>some (.bl (decide (j ≤ i)))
end
section
variable {K:PySem.W.Frag} {W:Wd} {H:Hp}
theorem Z69 {p:Addr} {ds:List D} {xs:List V} (hw:∀ a,W a→∃ o,H a=some o) (hp:H p=none) (a:AVs K W H ds xs):AV K W (upd H p (.lst xs)) (.lst ds) (.ref p) :=
  .lst (fun z=>by obtain ⟨o,e⟩:=hw p z; rw [hp] at e; cases e) upd_same (a.mv (Z5h (U3 hp)))
theorem Y2c {p:Addr} {ds:List D} {xs:List V} (hw:∀ a,W a→∃ o,H a=some o) (hp:H p=none) (a:AVs K W H ds xs):AV K W (upd H p (.tup xs)) (.tup ds) (.ref p) :=
  .tup (.inl ⟨fun z=>(by obtain ⟨o,e⟩:=hw p z; rw [hp] at e; cases e),upd_same⟩) (a.mv (Z5h (U3 hp)))
theorem Z9f {x y:Str} (hx:PyData.strOk x=true) (hy:PyData.strOk y=true):PyData.strOk (x++y)=true:=by
  unfold PyData.strOk at *
  have e:(x++y).cps=x.cps++y.cps:=rfl
  rw [e,Array.all_append,hx,hy]; rfl
end
def Z7o (a b:D):Option D:=match a,b with
  | .int i, .int j=>some (.int (i + j))
  | .str x, .str y=>if x.length + y.length ≤ sizeLine then some (.str (x++y)) else none
  | .lst xs, .lst ys=>if xs.length + ys.length ≤ sizeLine then some (.lst (xs++ys)) else none
  | .tup xs, .tup ys=>if xs.length + ys.length ≤ sizeLine then some (.tup (xs++ys)) else none
  | _,_=>none
def W17 (K:PySem.W.Frag):R2:=fun x y H Q=>((rI0 fun i j => .int (i + j)) x y H Q) ∨ ((∃ i j,x = .str i∧y = .str j∧i.length + j.length ≤ sizeLine∧Q (.str (i++j)) H) ∨ (rCat x y H Q ∨ rCatA K x y H Q))
theorem X5p {X:Cx}:OpR X (binaryOp .Add) (W17 X.K):=OpR.or op_add (OpR.or op_add_str (OpR.or op_cat op_catA))
theorem W10 {K:PySem.W.Frag}:Op2 K (W17 K) Z7o:=fun W H d1 d2 v1 v2 d Q hw a1 a2 e k=>by
  cases d1 with
  | int i=>cases d2 with
    | int j =>
      cases e
      cases a1.int_inv
      cases a2.int_inv
      exact .inl ⟨i,j,rfl,rfl,k H _ (Same.refl H) (.int _)⟩
    | _=>cases e
  | str x=>cases d2 with
    | str y =>
      have e:(if x.length + y.length ≤ sizeLine then some (D.str (x++y)) else none)=some d:=e
      by_cases h:x.length + y.length ≤ sizeLine
      · rw [if_pos h] at e
        cases e
        obtain ⟨rfl,h1⟩:=a1.str_inv
        obtain ⟨rfl,h2⟩:=a2.str_inv
        exact .inr (.inl ⟨x,y,rfl,rfl,h,k H _ (Same.refl H) (.str (Z9f h1 h2))⟩)
      · rw [if_neg h] at e; cases e
    | _=>cases e
  | lst xs=>cases d2 with
    | lst ys =>
      have e:(if xs.length + ys.length ≤ sizeLine then some (D.lst (xs++ys)) else none)=some d:=e
      by_cases h:xs.length + ys.length ≤ sizeLine
      · rw [if_pos h] at e
        cases e
        obtain ⟨a,vs,rfl,h1,q1⟩:=a1.sq
        obtain ⟨b,us,rfl,h2,q2⟩:=a2.sq
        refine .inr (.inr (.inl ⟨a,b,vs,us,rfl,rfl,h1,h2,by rw [← q1.length,← q2.length]; exact h,fun p hp=>?_⟩))
        exact k _ _ (U3 hp) (Z69 hw hp (q1.append q2))
      · rw [if_neg h] at e; cases e
    | _=>cases e
  | tup xs=>cases d2 with
    | tup ys =>
      have e:(if xs.length + ys.length ≤ sizeLine then some (D.tup (xs++ys)) else none)=some d:=e
      by_cases h:xs.length + ys.length ≤ sizeLine
      · rw [if_pos h] at e
        cases e
        obtain ⟨a,vs,rfl,h1,q1⟩:=a1.tq
        obtain ⟨b,us,rfl,h2,q2⟩:=a2.tq
        refine .inr (.inr (.inr ⟨a,b,vs,us,rfl,rfl,h1.sq,h2.sq,by rw [← q1.length,← q2.length]; exact h,fun z=>?_,fun z1 z2=>?_,fun _ _ p hp=>?_⟩))
        · subst z
          cases q1
          exact k H _ (Same.refl H) (.tup h2 q2)
        · subst z2
          cases q2
          rw [List.append_nil] at k
          exact k H _ (Same.refl H) (.tup h1 q1)
        · exact k _ _ (U3 hp) (Y2c hw hp (q1.append q2))
      · rw [if_neg h] at e; cases e
    | _=>cases e
  | _=>cases e
def D.isNon:D→Bool
  | .non=>true
  | _=>false
def isD (a b:D):Option D:=match b with
  | .non=>some (.bl a.isNon)
  | _=>none
def X9e (a b:D):Option D:=match b with
  | .non=>some (.bl (!a.isNon))
  | _=>none
theorem AW.isN {K:PySem.W.Frag} {W:Wd} {H:Hp} {d:D} {v:V} (h:AW K W H d v):decide (v = .non)=d.isNon:=by
  cases h with
  | av h=>cases h <;> simp [D.isNon]
  | lst h hs=>simp [D.isNon]
  | fdc h hs=>simp [D.isNon]
theorem W4j {K:PySem.W.Frag}:Op2 K (fun x y H Q=>y = .non∧Q (.bl (decide (x = .non))) H) isD:=fun W H d1 d2 v1 v2 d Q hw a1 a2 e k=>by
  cases d2 with
  | non =>
    cases a2.non_inv
    refine ⟨rfl,?_⟩
    rw [a1.isN]
    cases e
    exact k H _ (Same.refl H) (.bl _)
  | _=>cases e
theorem W3h {K:PySem.W.Frag}:Op2 K (fun x y H Q=>y = .non∧Q (.bl (!decide (x = .non))) H) X9e:=fun W H d1 d2 v1 v2 d Q hw a1 a2 e k=>by
  cases d2 with
  | non =>
    cases a2.non_inv
    refine ⟨rfl,?_⟩
    rw [a1.isN]
    cases e
    exact k H _ (Same.refl H) (.bl _)
  | _=>cases e
end Bv
namespace Bv
open PySem PySem.Spec L2
open PyProof.Rows hiding St
variable [HasW]
def X8q:D→Option Bool
  | .non=>some false
  | .bl b=>some b
  | .int i=>some (i != 0)
  | .str x=>if x.length ≤ sizeLine then some ((x.length:Int) != 0) else none
  | .lst ds=>some (!ds.isEmpty)
  | .tup ds=>some (!ds.isEmpty)
  | .dic _=>none
  | .scr ns=>some (!ns.isEmpty)
  | .obj _ _=>none
  | .gl _=>none
theorem AVs.isEmpty {K:PySem.W.Frag} {W:Wd} {H:Hp}:∀ {ds:List D} {vs:List V},AVs K W H ds vs→ds.isEmpty=vs.isEmpty
  | _,_, .nil=>rfl
  | _,_, .cons _ _=>rfl
theorem AW.tru {K:PySem.W.Frag} {W:Wd} {H:Hp} {d:D} {v:V} {b:Bool} (h:AW K W H d v) (e:X8q d=some b):TruV K v H b:=by
  cases d with
  | non=>cases h.non_inv; cases e; rfl
  | bl c=>cases h.bl_inv; cases e; rfl
  | int i=>cases h.int_inv; cases e; rfl
  | str x =>
    obtain ⟨rfl,_⟩:=h.str_inv
    have e:(if x.length ≤ sizeLine then some ((x.length:Int) != 0) else none)=some b:=e
    by_cases hx:x.length ≤ sizeLine
    · rw [if_pos hx] at e
      cases e
      exact ⟨hx,rfl⟩
    · rw [if_neg hx] at e; cases e
  | lst ds =>
    obtain ⟨a,xs,rfl,h1,h2⟩:=h.sq
    cases e
    exact .inl ⟨xs, .inl (.inl h1),by rw [h2.isEmpty]⟩
  | tup ds =>
    obtain ⟨a,xs,rfl,h1,h2⟩:=h.tq
    cases e
    exact .inr (.inl ⟨xs,h1.sq,by rw [h2.isEmpty]⟩)
  | dic ds=>cases e
  | scr ns =>
    cases e
    cases h with
    | av h=>cases h with
      | scr r=>exact .inl ⟨_,r.sl,by simp⟩
  | obj _ _=>cases e
  | gl _=>cases e
def Y1s (S:Sto) (x:X):Option Bool:=(x.get S).bind X8q
def X8 (m:M):MG Bool:=fun e S=>(m e S).bind fun x S1=>match Y1s S1 x with
  | some b => .ok b S1
  | none => .bad
def tb:X→Sto→R Bool:=fun x S=>match x with
  | .d (.bl b) => .ok b S
  | _ => .bad
def Q0 (m:M):MG Bool:=fun e S=>(m e S).bind tb
def Z0e (m:MG Bool):MG Bool:=fun e S=>(m e S).bind fun b S1 => .ok (!b) S1
def Z0z (ma mb:MG Bool):MG Bool:=fun e S=>(ma e S).bind fun b S1=>if b then mb e S1 else .ok false S1
def Z5c (ma mb:MG Bool):MG Bool:=fun e S=>(ma e S).bind fun b S1=>if b then .ok true S1 else mb e S1
def W33 (m:MG Bool):M:=fun e S=>(m e S).bind fun b S1 => .ok (.d (.bl b)) S1
def X09 (m:M):M:=W33 (Z0e (X8 m))
def Z85 (ma mb:M):M:=fun e S=>(ma e S).bind fun x S1=>match Y1s S1 x with
  | some true=>mb e S1
  | some false => .ok x S1
  | none => .bad
def X2t (ma mb:M):M:=fun e S=>(ma e S).bind fun x S1=>match Y1s S1 x with
  | some true => .ok x S1
  | some false=>mb e S1
  | none => .bad
def Y1k (mt:MG Bool) (ma mb:M):M:=fun e S=>(mt e S).bind fun b S1=>if b then ma e S1 else mb e S1
section
variable {X:Cx} {Wx:WX} {pos:Pos} {a b c:Expr} {ma mb mc:M} {rest:List Expr} {mt mu:MG Bool}
theorem AX.tru {K:PySem.W.Frag} {Z:Wd} {ρ:List Addr} {S:Sto} {H:Hp} {x:Bv.X} {v:V} {k:Bool} (st:Sta K Z ρ S H) (h:AX K (Wn Z ρ) ρ H x v) (e:Y1s S x=some k):TruV K v H k:=by
  obtain ⟨d,h1,h2⟩:=Option.bind_eq_some_iff.mp e
  exact (h.get st h1).tru h2
theorem X0 (h:ME X Wx a ma) (he:∀ whole,isTrue a X.env whole=(do let v ← whole; standAt a.pos; holding [v] (truthy v)):=by intro _; rfl):MT X Wx a (X8 ma):=by
  refine ⟨fun pins s σ H Q I hq=>(pt_truth h he).run pins s σ H Q I ?_⟩
  obtain ⟨Z,ρ,e,S,st,ev,p⟩:=hq
  refine X9 st ev p fun ρ1 H1 v x S1 st1 g1 ev1 a1 p1=>?_
  cases q:Y1s S1 x with
  | none=>rw [q] at p1; exact p1.elim
  | some k =>
    rw [q] at p1
    exact ⟨k,a1.tru st1 q,p1.ret0 st1 rfl⟩
theorem W1w {op:CmpOp} {r:R2} {f:D→D→Option D} (ho:OpR X (compareOp op) r) (hf:Op2 X.K r f) (ha:ME X Wx a ma) (hb:ME X Wx b mb) (hm:behindInMarks op b=false:=by first | exact nomark _ | (with_unfolding_all rfl)):MT X Wx (.Compare a [op] [b] pos) (Q0 (Y3 f ma mb)):=by
  refine ⟨fun pins s σ H Q I hq=>(pt_cmpR ho ha hb hm).run pins s σ H Q I ?_⟩
  obtain ⟨Z,ρ,e,S,st,ev,p⟩:=hq
  show tOp r (RE X.K Wx ma) (RE X.K Wx mb) σ H fun x H'=>∃ k,x = .bl k∧Q k H'
  refine X11 (f:=f) hf ?_
  refine X9 st ev p fun ρ1 H1 v x S1 st1 g1 ev1 a1 p1=>?_
  cases x with
  | r n=>exact p1.elim
  | d d =>
    cases d with
    | bl k =>
      cases a1 with
      | d h =>
        cases h
        exact ⟨k,rfl,p1.ret0 st1 rfl⟩
    | _=>exact p1.elim
theorem Z0o (h:MT X Wx a mt):MT X Wx (.UnaryOp .Not a pos) (Z0e mt):=by
  refine ⟨fun pins s σ H Q I hq=>(pt_not h).run pins s σ H Q I ?_⟩
  obtain ⟨Z,ρ,e,S,st,ev,p⟩:=hq
  refine X9 st ev p fun ρ1 H1 v x S1 st1 g1 ev1 a1 p1=>?_
  cases (show x=v from a1)
  exact p1.ret0 st1 rfl
abbrev MW (X:Cx) (Wx:WX) (e:Expr) (m:MG Bool):Prop:=PW X e (RB X.K Wx m)
theorem Z0l (h:MT X Wx a mt):MW X Wx (.BoolOp .And [a] pos) mt:=pw_and1 h
theorem Z38 (h:MT X Wx a mt):MW X Wx (.BoolOp .Or [a] pos) mt:=pw_or1 h
theorem Z03 (h:MT X Wx a mt) (h2:MW X Wx (.BoolOp .And (b :: rest) pos) mu):MW X Wx (.BoolOp .And (a :: b :: rest) pos) (Z0z mt mu):=by
  refine ⟨fun wh pins s σ H Q I hq=>(pw_and h h2).run wh pins s σ H Q I ?_⟩
  obtain ⟨Z,ρ,e,S,st,ev,p⟩:=hq
  refine X9 st ev p fun ρ1 H1 v x S1 st1 g1 ev1 a1 p1=>?_
  cases (show x=v from a1)
  cases v with
  | true=>exact ⟨Z,ρ1,e,S1,st1,ev1,p1⟩
  | false=>exact p1.ret0 st1 rfl
theorem Z5s (h:MT X Wx a mt) (h2:MW X Wx (.BoolOp .Or (b :: rest) pos) mu):MW X Wx (.BoolOp .Or (a :: b :: rest) pos) (Z5c mt mu):=by
  refine ⟨fun wh pins s σ H Q I hq=>(pw_or h h2).run wh pins s σ H Q I ?_⟩
  obtain ⟨Z,ρ,e,S,st,ev,p⟩:=hq
  refine X9 st ev p fun ρ1 H1 v x S1 st1 g1 ev1 a1 p1=>?_
  cases (show x=v from a1)
  cases v with
  | true=>exact p1.ret0 st1 rfl
  | false=>exact ⟨Z,ρ1,e,S1,st1,ev1,p1⟩
theorem Z5m (h:MW X Wx a mt):MT X Wx a mt:=h.pt
theorem X2x (h:ME X Wx a ma):ME X Wx (.UnaryOp .Not a pos) (X09 ma):=PE.of (pe_notT h) fun σ H Q ⟨Z,ρ,e,S,st,ev,p⟩=>by
  have p:Z43 X.K Z ρ H Wx σ Q ((ma e S).bind fun x S1=>((match Y1s S1 x with
    | some b=>R.ok b S1
    | none => .bad).bind fun b S1=>R.ok (!b) S1).bind fun b S1 => .ok (.d (.bl b)) S1):=by
    have e1:X09 ma e S=_:=rfl
    rw [e1] at p
    unfold X09 W33 Z0e X8 at p
    cases q:ma e S with
    | ok x S1=>rw [q] at p; exact p
    | err C fs S1=>rw [q] at p; exact p
    | bad=>rw [q] at p; exact p
  refine X9 st ev p fun ρ1 H1 v x S1 st1 g1 ev1 a1 p1=>?_
  cases q:Y1s S1 x with
  | none=>rw [q] at p1; exact p1.elim
  | some k =>
    rw [q] at p1
    exact ⟨k,a1.tru st1 q,W1.ret0 p1 st1 (.d (.bl _))⟩
theorem Z3g {op} (h:ME X Wx a ma):ME X Wx (.BoolOp op [a] pos) ma:=pe_one h
theorem Z6g (h:ME X Wx a ma) (h2:ME X Wx (.BoolOp .And (b :: rest) pos) mb):ME X Wx (.BoolOp .And (a :: b :: rest) pos) (Z85 ma mb):=PE.of (pe_andT h h2) fun σ H Q ⟨Z,ρ,e,S,st,ev,p⟩=>by
  refine X9 st ev p fun ρ1 H1 v x S1 st1 g1 ev1 a1 p1=>?_
  cases q:Y1s S1 x with
  | none=>rw [q] at p1; exact p1.elim
  | some k =>
    rw [q] at p1
    refine ⟨k,a1.tru st1 q,?_⟩
    cases k with
    | true=>rw [if_pos rfl]; exact ⟨Z,ρ1,e,S1,st1,ev1,p1⟩
    | false=>rw [if_neg Bool.false_ne_true]; exact W1.ret0 p1 st1 a1
theorem Y18 (h:ME X Wx a ma) (h2:ME X Wx (.BoolOp .Or (b :: rest) pos) mb):ME X Wx (.BoolOp .Or (a :: b :: rest) pos) (X2t ma mb):=PE.of (pe_orT h h2) fun σ H Q ⟨Z,ρ,e,S,st,ev,p⟩=>by
  refine X9 st ev p fun ρ1 H1 v x S1 st1 g1 ev1 a1 p1=>?_
  cases q:Y1s S1 x with
  | none=>rw [q] at p1; exact p1.elim
  | some k =>
    rw [q] at p1
    refine ⟨k,a1.tru st1 q,?_⟩
    cases k with
    | true=>rw [if_pos rfl]; exact W1.ret0 p1 st1 a1
    | false=>rw [if_neg Bool.false_ne_true]; exact ⟨Z,ρ1,e,S1,st1,ev1,p1⟩
theorem Z44 (hc:MT X Wx c mt) (h:ME X Wx a ma) (h2:ME X Wx b mb):ME X Wx (.IfExp c a b pos) (Y1k mt ma mb):=PE.of (pe_ifExp hc h h2) fun σ H Q ⟨Z,ρ,e,S,st,ev,p⟩=>by
  refine X9 st ev p fun ρ1 H1 v x S1 st1 g1 ev1 a1 p1=>?_
  cases (show x=v from a1)
  cases v with
  | true=>exact ⟨Z,ρ1,e,S1,st1,ev1,p1⟩
  | false=>exact ⟨Z,ρ1,e,S1,st1,ev1,p1⟩
theorem Y8n {r r':R2} {f g:D→D→Option D} (hf:Op2 X.K r f) (hg:Op2 X.K r' g) {σ:St} {H:Hp} {Q:VK} (h:RE X.K Wx (Z76 f g ma mb mc) σ H Q):tChain r r' (RE X.K Wx ma) (RE X.K Wx mb) (RE X.K Wx mc) σ H Q:=by
  obtain ⟨Z,ρ,e,S,st,ev,p⟩:=h
  refine X9 st ev p fun ρ1 H1 v x S1 st1 g1 ev1 a1 p1=>?_
  refine X9 st1 ev1 p1 fun ρ2 H2 u y S2 st2 g2 ev2 a2 p2=>?_
  have a1':=a1.mv (g2.mv st1) g2.pre
  have:=ev2
  have key:∀ d:D,op2 f S2 x y=R.ok (Bv.X.d d) S2→∃ d1 d2,x.get S2=some d1∧y.get S2=some d2∧f d1 d2=some d:=fun d q=>by
    unfold op2 at q
    cases e1:x.get S2 with
    | none=>rw [e1] at q; cases q
    | some d1 =>
      cases e2:y.get S2 with
      | none=>rw [e1,e2] at q; cases q
      | some d2 =>
        rw [e1,e2] at q
        have q:(match f d1 d2 with
          | some d=>R.ok (Bv.X.d d) S2
          | none => .bad) = .ok (Bv.X.d d) S2:=q
        cases e3:f d1 d2 with
        | none=>rw [e3] at q; cases q
        | some d3=>rw [e3] at q; cases q; exact ⟨d1,d2,rfl,rfl,e3⟩
  cases q:op2 f S2 x y with
  | bad=>rw [q] at p2; exact p2.elim
  | err C fs S3=>unfold op2 at q; split at q <;> (first | cases q | (split at q <;> cases q))
  | ok z S3 =>
    have hz:∃ d:D,z=Bv.X.d d∧S3=S2:=by
      unfold op2 at q
      split at q
      · split at q
        · cases q; exact ⟨_,rfl,rfl⟩
        · cases q
      · cases q
    obtain ⟨d,rfl,rfl⟩:=hz
    obtain ⟨d1,d2,e1,e2,e3⟩:=key d q
    rw [q] at p2
    refine hf (Wn Z ρ2) H2 d1 d2 v u d _ (fun _ h=>st2.thereW h) (a1'.get st2 e1) (a2.get st2 e2) e3 fun H3 w k a3=>?_
    cases d with
    | bl kk =>
      cases a3
      refine ⟨kk,rfl,?_⟩
      have st3:=st2.grow k
      have g3:Go ρ2 H2 ρ2 H3:=Go.grow k
      have ev3:=ev2.mv (g3.mv st2) g3.pre
      cases kk with
      | true =>
        rw [if_pos rfl]
        refine X9 st3 ev3 (W1.shift g3 st3 p2) fun ρ4 H4 w' y' S4 st4 g4 ev4 a4 p4=>?_
        exact X5o hg st4 (a2.mv ((g3.trans g4).mv st2) (g3.trans g4).pre) a4 p4
      | false =>
        rw [if_neg Bool.false_ne_true]
        exact W1.ret p2 st2 k (.d (.bl _))
    | _=>exact p2.elim
theorem X60 {op op':CmpOp} {r r':R2} {f g:D→D→Option D} (ho:OpR X (compareOp op) r) (ho':OpR X (compareOp op') r') (hf:Op2 X.K r f) (hg:Op2 X.K r' g) (ha:ME X Wx a ma) (hb:ME X Wx b mb) (hc:ME X Wx c mc)
    (hm:lastMarks [op,op'] [b,c]=false:=by with_unfolding_all rfl):ME X Wx (.Compare a [op,op'] [b,c] pos) (Z76 f g ma mb mc):=PE.of (pe_chain ho ho' ha hb hc hm) fun _ _ _ h=>Y8n hf hg h
theorem W2m {m:M} {σ:St} {H:Hp} {Q:Bool→Hp→Prop} (h:RB X.K Wx (Q0 m) σ H Q):RE X.K Wx m σ H fun x H'=>∃ k,x = .bl k∧Q k H':=by
  obtain ⟨Z,ρ,e,S,st,ev,p⟩:=h
  refine X9 st ev p fun ρ1 H1 v x S1 st1 g1 ev1 a1 p1=>?_
  cases x with
  | r n=>exact p1.elim
  | d d =>
    cases d with
    | bl k =>
      cases a1 with
      | d h =>
        cases h
        exact ⟨k,rfl,p1.ret0 st1 rfl⟩
    | _=>exact p1.elim
theorem X65 {op op':CmpOp} {r r':R2} {f g:D→D→Option D} (ho:OpR X (compareOp op) r) (ho':OpR X (compareOp op') r') (hf:Op2 X.K r f) (hg:Op2 X.K r' g) (ha:ME X Wx a ma) (hb:ME X Wx b mb) (hc:ME X Wx c mc)
    (hm:lastMarks [op,op'] [b,c]=false:=by with_unfolding_all rfl):MT X Wx (.Compare a [op,op'] [b,c] pos) (Q0 (Z76 f g ma mb mc)) :=
  ⟨fun pins s σ H Q I hq=>(pt_chain ho ho' ha hb hc hm).run pins s σ H Q I (Y8n hf hg (W2m hq))⟩
end
end Bv
namespace Bv
open PySem PySem.Spec L2
open PyProof.Rows hiding St
variable [HasW]
def Y3b {α:Type} (o:Option α) (S:Sto):R α:=match o with
  | some a => .ok a S
  | none => .bad
theorem W1.opt {α β:Type} {rel:Wd→List Addr→Hp→α→β→Prop} {K:PySem.W.Frag} {Z:Wd} {ρ:List Addr} {H:Hp} {Wx:WX} {σ:St} {Q:β→Hp→Prop} {o:Option α} {S:Sto} (p:W1 rel K Z ρ H Wx σ Q (Y3b o S)):∃ a,o=some a∧W1 rel K Z ρ H Wx σ Q (.ok a S):=by
  cases o with
  | none=>exact p.elim
  | some a=>exact ⟨a,rfl,p⟩
def Z7:MG (List X):=fun _ S => .ok [] S
def Z3 (m:M) (ms:MG (List X)):MG (List X):=fun e S=>(m e S).bind fun x S1=>(ms e S1).bind fun xs S2 => .ok (x :: xs) S2
def items (S:Sto):X→Option (List X)
  | .d (.lst ds)=>some (ds.map .d)
  | .d (.tup ds)=>some (ds.map .d)
  | .d _=>none
  | .r n=>match S[n]? with
    | some (.lst xs)=>some xs
    | _=>none
def Z4k (m:M) (ms:MG (List X)):MG (List X):=fun e S=>(m e S).bind fun x S1=>match items S1 x with
  | some ys=>(ms e S1).bind fun xs S2 => .ok (ys++xs) S2
  | none => .bad
section
variable {X:Cx} {Wx:WX} {pos p:Pos} {a b c:Expr} {es:List Expr} {ma mb mc m:M} {ms:MG (List Bv.X)}
theorem Paired.append {α β:Type} {F:α→β→Prop}:∀ {l1 l2:List α} {r1 r2:List β},Paired F l1 r1→Paired F l2 r2→Paired F (l1++l2) (r1++r2)
  | _,_,_,_, .nil,s=>s
  | _,_,_,_, .cons r t,s => .cons r (Paired.append t s)
theorem AVs.axs {K:PySem.W.Frag} {W:Wd} {ρ:List Addr} {H:Hp}:∀ {ds:List D} {vs:List V},AVs K W H ds vs→AXs K W ρ H (ds.map .d) vs
  | _,_, .nil => .nil
  | _,_, .cons h hs => .cons (.d h) (AVs.axs hs)
theorem AX.items {K:PySem.W.Frag} {Z:Wd} {ρ:List Addr} {S:Sto} {H:Hp} {x:Bv.X} {v:V} {ys:List Bv.X} (st:Sta K Z ρ S H) (h:AX K (Wn Z ρ) ρ H x v) (e:items S x=some ys) :
    ∃ q xs,v = .ref q∧(SqT K H q xs ∨ SqL K H q xs)∧AXs K (Wn Z ρ) ρ H ys xs:=by
  cases h with
  | d h =>
    cases h with
    | lst w r hs=>cases e; exact ⟨_,_,rfl, .inr (.inl (.inl r)),hs.axs⟩
    | tup t hs=>cases e; exact ⟨_,_,rfl, .inl t.sq,hs.axs⟩
    | _=>cases e
  | r h =>
    rename_i n q
    have e1:(match S[n]? with
      | some (.lst xs)=>some xs
      | _=>none)=some ys:=e
    cases z:S[n]? with
    | none=>rw [z] at e1; cases e1
    | some o =>
      rw [z] at e1
      cases o with
      | lst xs =>
        cases e1
        obtain ⟨vs,h1,h2⟩:=st.ob n _ q z h
        exact ⟨q,vs,rfl, .inr (.inl (.inl h1)),h2⟩
      | _=>cases e1
theorem Z6:MA X Wx [] Z7:=⟨fun pos pins s σ H Q I h=>pa_nil.run pos pins s σ H Q I (by
  obtain ⟨Z,ρ,e,S,st,ev,p⟩:=h
  exact W1.ret0 p st .nil)⟩
theorem PA.of {X:Cx} {es:List Expr} {t t':TA} (h:PA X es t) (w:∀ σ H Q,t' σ H Q→t σ H Q):PA X es t':=⟨fun pos pins s σ H Q I q=>h.run pos pins s σ H Q I (w σ H Q q)⟩
theorem Z1 (h:ME X Wx a ma) (h2:MA X Wx es ms) (hs:starEach (a :: es) X.env=(false,eval a X.env) :: starEach es X.env:=by rfl):MA X Wx (a :: es) (Z3 ma ms):=PA.of (pa_cons h h2 hs) fun σ H Q ⟨Z,ρ,e,S,st,ev,p⟩=>by
  refine X9 st ev p fun ρ1 H1 v x S1 st1 g1 ev1 a1 p1=>?_
  refine X9 st1 ev1 p1 fun ρ2 H2 vs xs S2 st2 g2 ev2 a2 p2=>?_
  exact W1.ret0 p2 st2 (.cons (a1.mv (g2.mv st1) g2.pre) a2)
theorem Z25 (h:ME X Wx a ma) (h2:MA X Wx es ms) (hs:starEach (.Starred a p :: es) X.env=(true,eval a X.env) :: starEach es X.env:=by rfl):MA X Wx (.Starred a p :: es) (Z4k ma ms):=PA.of (StX.pa_star h h2 hs) fun σ H Q ⟨Z,ρ,e,S,st,ev,p⟩=>by
  refine X9 st ev p fun ρ1 H1 v x S1 st1 g1 ev1 a1 p1=>?_
  cases q:items S1 x with
  | none=>rw [q] at p1; exact p1.elim
  | some ys =>
    rw [q] at p1
    obtain ⟨b,us,rfl,hq,ha⟩:=a1.items st1 q
    refine ⟨b,us,rfl,hq,?_⟩
    refine X9 st1 ev1 p1 fun ρ2 H2 vs xs S2 st2 g2 ev2 a2 p2=>?_
    exact W1.ret0 p2 st2 (Paired.append (ha.mv (g2.mv st1) g2.pre) a2)
def X6k (xs:List Bv.X) (S:Sto):R Bv.X:=match ds? xs with
  | some ds=>if ds.length ≤ sizeLine then .ok (.d (.tup ds)) S else .bad
  | none => .bad
def X6j (xs:List Bv.X) (S:Sto):R Bv.X:=match ds? xs with
  | some ds=>if ds.length ≤ sizeLine then .ok (.d (.lst ds)) S else .bad
  | none => .bad
def W1a (xs:List Bv.X) (S:Sto):R Bv.X:=if xs.length ≤ sizeLine then .ok (.r S.length) (S++[.lst xs]) else .bad
def Z1n (ms:MG (List Bv.X)):M:=fun e S=>(ms e S).bind X6k
def Z2b (ms:MG (List Bv.X)):M:=fun e S=>(ms e S).bind X6j
def Z4j (ms:MG (List Bv.X)):M:=fun e S=>(ms e S).bind W1a
theorem Paired.length {α β:Type} {F:α→β→Prop}:∀ {l:List α} {r:List β},Paired F l r→l.length=r.length
  | _,_, .nil=>rfl
  | _,_, .cons _ t=>by simp [Paired.length t]
theorem Z0k {x1} (h:MA X Wx es ms):ME X Wx (.Tuple es x1 pos) (Z1n ms):=PE.of (pe_tup h) fun σ H Q ⟨Z,ρ,e,S,st,ev,p⟩=>by
  refine X9 st ev p fun ρ1 H1 vs xs S1 st1 g1 ev1 a1 p1=>?_
  unfold X6k at p1
  cases q:ds? xs with
  | none=>rw [q] at p1; exact p1.elim
  | some ds =>
    rw [q] at p1
    have p1:Z43 X.K Z ρ1 H1 Wx σ Q (if ds.length ≤ sizeLine then .ok (.d (.tup ds)) S1 else .bad):=p1
    by_cases hl:ds.length ≤ sizeLine
    · rw [if_pos hl] at p1
      have av:=AXs.ds a1 q
      exact ⟨by rw [← av.length]; exact hl,fun p hp=>W1.ret p1 st1 (U3 hp) (.d (Y2c (fun _ h=>st1.thereW h) hp av))⟩
    · rw [if_neg hl] at p1; exact p1.elim
theorem Z1g (h:MA X Wx es ms):ME X Wx (.List es pos) (Z2b ms):=PE.of (pe_lst h) fun σ H Q ⟨Z,ρ,e,S,st,ev,p⟩=>by
  refine X9 st ev p fun ρ1 H1 vs xs S1 st1 g1 ev1 a1 p1=>?_
  unfold X6j at p1
  cases q:ds? xs with
  | none=>rw [q] at p1; exact p1.elim
  | some ds =>
    rw [q] at p1
    have p1:Z43 X.K Z ρ1 H1 Wx σ Q (if ds.length ≤ sizeLine then .ok (.d (.lst ds)) S1 else .bad):=p1
    by_cases hl:ds.length ≤ sizeLine
    · rw [if_pos hl] at p1
      have av:=AXs.ds a1 q
      exact ⟨by rw [← av.length]; exact hl,fun p hp=>W1.ret p1 st1 (U3 hp) (.d (Z69 (fun _ h=>st1.thereW h) hp av))⟩
    · rw [if_neg hl] at p1; exact p1.elim
theorem Sta.pushL {K:PySem.W.Frag} {Z:Wd} {ρ:List Addr} {S:Sto} {H:Hp} {q:Addr} {xs:List Bv.X} {vs:List V} (s:Sta K Z ρ S H) (hq:H q=none) (a:AXs K (Wn Z ρ) ρ H xs vs) :
    Sta K Z (ρ++[q]) (S++[.lst xs]) (upd H q (.lst vs))∧Go ρ H (ρ++[q]) (upd H q (.lst vs)):=by
  have g:Go ρ H (ρ++[q]) (upd H q (.lst vs)):=⟨List.prefix_append _ _,fun b o h e=>⟨fun z=>(by
    rcases List.mem_append.mp z with z | z
    · exact h z
    · have:b=q:=by simpa using z
      rw [this,hq] at e; cases e),U3 hq b o e⟩,fun b _ _ e=>U3 hq b _ e⟩
  exact s.push hq (U3 hq) ⟨vs,upd_same,a.mv (g.mv s) g.pre⟩
theorem Z26 (h:MA X Wx es ms):ME X Wx (.List es pos) (Z4j ms):=PE.of (pe_lst h) fun σ H Q ⟨Z,ρ,e,S,st,ev,p⟩=>by
  refine X9 st ev p fun ρ1 H1 vs xs S1 st1 g1 ev1 a1 p1=>?_
  unfold W1a at p1
  by_cases hl:xs.length ≤ sizeLine
  · rw [if_pos hl] at p1
    refine ⟨by rw [← Paired.length a1]; exact hl,fun q hq=>?_⟩
    obtain ⟨h1,h2⟩:=st1.pushL hq a1
    exact p1 _ _ _ h1 h2 (.r (by rw [st1.len]; simp))
  · rw [if_neg hl] at p1; exact p1.elim
def Y8e (Cs:List Str) (f:Str) (S:Sto):Bv.X→Option Bv.X
  | .d (.obj C fs)=>if Cs.contains C then (fs.lookup f).map .d else none
  | .d _=>none
  | .r n=>match S[n]? with
    | some (.ins C fs)=>if Cs.contains C then fs.lookup f else none
    | _=>none
def X6 (Cs:List Str) (f:Str) (m:M):M:=fun e S=>(m e S).bind fun x S1=>Y3b (Y8e Cs f S1 x) S1
def Z0x (K:PySem.W.Frag) (Cs:List Str) (f:Str):Prop:=∀ C ∈ Cs,Cls K (He.ga K C)∧NoAttr K (He.ga K C) f
theorem Y2h {K:PySem.W.Frag} {W:Wd} {ρ:List Addr} {H:Hp}:∀ {fs:List (Str × Bv.X)} {vs:List (Str × V)} {f:Str} {x:Bv.X},Paired (fun (p:Str × Bv.X) (q:Str × V)=>p.1=q.1∧AX K W ρ H p.2 q.2) fs vs→fs.lookup f=some x→∃ v,vs.lookup f=some v∧AX K W ρ H x v
  | _,_,_,_, .nil,e=>by cases e
  | (g,y) :: r,(g',v) :: r',f,x, .cons ⟨h1,h2⟩ hs,e=>by
    cases (show g=g' from h1)
    rw [List.lookup_cons] at e ⊢
    cases q:f == g with
    | true=>rw [q] at e; cases e; exact ⟨_,rfl,h2⟩
    | false=>rw [q] at e; exact Y2h hs e
theorem Y62 {K:PySem.W.Frag} {W:Wd} {ρ:List Addr} {H:Hp}:∀ {fs:List (Str × Bv.X)} {vs:List (Str × V)} {f:Str},Paired (fun (p:Str × Bv.X) (q:Str × V)=>p.1=q.1∧AX K W ρ H p.2 q.2) fs vs→fs.lookup f=none→vs.lookup f=none
  | _,_,_, .nil,e=>rfl
  | (g,y) :: r,(g',v) :: r',f, .cons ⟨h1,h2⟩ hs,e=>by
    cases (show g=g' from h1)
    rw [List.lookup_cons] at e ⊢
    cases q:f == g with
    | true=>rw [q] at e; cases e
    | false=>rw [q] at e; exact Y62 hs e
theorem Z5k {α:Type} {c:Bool} {o:Option α} {a:α} (h:(if c then o else none)=some a):c=true∧o=some a:=by
  cases c with
  | true=>exact ⟨rfl,h⟩
  | false=>cases h
theorem Y5 {f:Str} (Cs:List Str) (T:Z0x X.K Cs f) (h:ME X Wx a ma) (hb:attributeBase a f X.env (eval a X.env)=eval a X.env:=by rfl):ME X Wx (.Attribute a f pos) (X6 Cs f ma):=PE.of (pe_fld h hb) fun σ H Q ⟨Z,ρ,e,S,st,ev,p⟩=>by
  refine X9 st ev p fun ρ1 H1 v x S1 st1 g1 ev1 a1 p1=>?_
  obtain ⟨y,hy,p2⟩:=p1.opt
  clear p1
  cases a1 with
  | d h1 =>
    cases h1 with
    | obj w r hs =>
      rename_i C q dx vs fs
      obtain ⟨hc,hl⟩:=Z5k (show (if Cs.contains C then (fs.lookup f).map Bv.X.d else none)=some y from hy)
      obtain ⟨d,z,rfl⟩:=Option.map_eq_some_iff.mp hl
      obtain ⟨v,h2,h3⟩:=hs.look z
      obtain ⟨t1,t2⟩:=T C (by simpa using hc)
      exact ⟨_,_,_,_,v,rfl,r,t1,t2,h2,W1.ret0 p2 st1 (.d h3)⟩
    | _=>cases hy
  | r h1 =>
    rename_i n q
    cases z:S1[n]? with
    | none=>simp [Y8e,z] at hy
    | some o =>
      cases o with
      | ins C fs =>
        obtain ⟨hc,hl⟩:=Z5k (show (if Cs.contains C then fs.lookup f else none)=some y by simpa [Y8e,z] using hy)
        obtain ⟨dx,vs,h2,h3⟩:=st1.ob n _ q z h1
        obtain ⟨v,h4,h5⟩:=Y2h h3 hl
        obtain ⟨t1,t2⟩:=T C (by simpa using hc)
        exact ⟨_,_,_,_,v,rfl,h2,t1,t2,h4,W1.ret0 p2 st1 h5⟩
      | _=>simp [Y8e,z] at hy
def ixD:Bv.X→Int→Option Bv.X
  | .d (.str z),i=>if decide (z.length ≤ sizeLine) then (atI z.cps.toList i).map fun c => .d (.str ⟨#[c]⟩) else none
  | .d (.scr ns),i=>(atI ns i).map fun z => .d (.int z)
  | _,_=>none
def ixO (S:Sto) (x:Bv.X) (i:Int):Option Bv.X:=match items S x with
  | some xs=>atI xs i
  | none=>ixD x i
def X6r:Bv.X→Option Int
  | .d (.int i)=>some i
  | _=>none
def Z18 (ma mb:M):M:=fun e S=>(ma e S).bind fun x S1=>(mb e S1).bind fun y S2=>Y3b ((X6r y).bind (ixO S2 x)) S2
theorem AX.int {K:PySem.W.Frag} {W:Wd} {ρ:List Addr} {H:Hp} {x:Bv.X} {v:V} {i:Int} (a:AX K W ρ H x v) (h:X6r x=some i):v = .int i:=by
  cases a with
  | r _=>cases h
  | d h1 =>
    cases h1 with
    | int j=>cases h; rfl
    | _=>cases h
theorem X6f {α β:Type} {F:α→β→Prop} {l:List α} {r:List β} (p:Paired F l r) {i:Int} {a:α} (e:atI l i=some a):∃ b,atI r i=some b∧F a b:=by
  unfold atI at *
  rw [Paired.length p] at e
  cases q:ixN r.length i with
  | none=>rw [q] at e; cases e
  | some j =>
    rw [q] at e
    have e:l[j]?=some a:=e
    have go:∀ {l:List α} {r:List β} {j:Nat},Paired F l r→l[j]?=some a→∃ b,r[j]?=some b∧F a b:=fun {l r j} p=>by
      induction p generalizing j with
      | nil=>intro z; simp at z
      | cons x _ ih =>
        intro z
        cases j with
        | zero=>simp at z; subst z; exact ⟨_,rfl,x⟩
        | succ n=>simp at z; obtain ⟨b,h1,h2⟩:=ih z; exact ⟨b,by simpa using h1,h2⟩
    obtain ⟨b,h1,h2⟩:=go p e
    exact ⟨b,h1,h2⟩
theorem Y5d {z:Str} {c:Nat} (h:PyData.strOk z=true) (m:c ∈ z.cps.toList):c < 0x110000:=by
  have h2:=Array.all_eq_true_iff_forall_mem.mp (show z.cps.all (· < 0x110000)=true from h) c (by simpa using m)
  simpa using h2
theorem Y3o {z:Str} (h:∀ c ∈ z.cps.toList,c < 0x110000):PyData.strOk z=true:=by
  show z.cps.all (· < 0x110000)=true
  exact Array.all_eq_true_iff_forall_mem.mpr fun c m=>by simpa using h c (by simpa using m)
theorem X8v {α:Type} {l:List α} {i:Int} {a:α} (e:atI l i=some a):a ∈ l:=by
  unfold atI at e
  cases q:ixN l.length i with
  | none=>rw [q] at e; cases e
  | some j=>rw [q] at e; exact List.mem_of_getElem? e
theorem U6 (ha:ME X Wx a ma) (hb:ME X Wx b mb) (hs:PlainIx b:=by exact fun _ _=>rfl):ME X Wx (.Subscript a b pos) (Z18 ma mb):=PE.of (pe_ix ix_seq ha hb hs) fun σ H Q ⟨Z,ρ,e,S,st,ev,p⟩=>by
  refine X9 st ev p fun ρ1 H1 v x S1 st1 g1 ev1 a1 p1=>?_
  refine X9 st1 ev1 p1 fun ρ2 H2 u y S2 st2 g2 ev2 a2 p2=>?_
  have a1':=a1.mv (g2.mv st1) g2.pre
  clear a1
  obtain ⟨w,hw0,p2'⟩:=p2.opt
  clear p2 p1 p
  obtain ⟨i,hi,hw⟩:=Option.bind_eq_some_iff.mp hw0
  clear hw0
  have eu:=a2.int hi
  subst eu
  cases q:items S2 x with
  | some xs =>
    have q2:atI xs i=some w:=by simpa [ixO,q] using hw
    obtain ⟨b,us,rfl,hq,ha⟩:=a1'.items st2 q
    obtain ⟨w',h1,h2⟩:=X6f ha q2
    rcases hq with hq | hq
    · exact .inr (.inl ⟨_,us,i,w',rfl,rfl,hq,h1,W1.ret0 p2' st2 h2⟩)
    · exact .inl ⟨_,us,i,w',rfl,rfl,hq,h1,W1.ret0 p2' st2 h2⟩
  | none =>
    have hw2:ixD x i=some w:=by simpa [ixO,q] using hw
    clear hw
    cases a1' with
    | r h=>cases hw2
    | d h =>
      cases h with
      | str hz =>
        rename_i z
        obtain ⟨hl,hc⟩:=Z5k hw2
        obtain ⟨c,q2,rfl⟩:=Option.map_eq_some_iff.mp hc
        refine .inr (.inr ⟨z,i,c,rfl,rfl,of_decide_eq_true hl,q2,W1.ret0 p2' st2 (.d (.str ?_))⟩)
        have hc:=Y5d hz (X8v q2)
        exact Y3o fun c' m=>by
          have:c'=c:=by simpa using m
          rw [this]; exact hc
      | scr r =>
        rename_i q' ns
        obtain ⟨z,q2,rfl⟩:=Option.map_eq_some_iff.mp hw2
        refine .inl ⟨_,ns.map V.int,i, .int z,rfl,rfl,r.sl,?_,W1.ret0 p2' st2 (.d (.int z))⟩
        unfold atI at *
        rw [List.length_map]
        cases q3:ixN ns.length i with
        | none=>rw [q3] at q2; cases q2
        | some j =>
          rw [q3] at q2
          have q2:ns[j]?=some z:=q2
          show (ns.map V.int)[j]?=some (.int z)
          rw [List.getElem?_map,q2]; rfl
      | _=>cases hw2
end
end Bv
namespace Bv
open PySem PySem.Spec L2
open PyProof.Rows hiding St
variable [HasW]
inductive Out where
  | nx (e:Ev) | rt (x:X) | bk (e:Ev) | ct (e:Ev) | rp (d:D) | rq (xs:List X)
inductive RO where
  | go (o:Out) (S:Sto) | err (C:Str) (fs:List (Str × D)) (e:Ev) (S:Sto) | bad
abbrev MS:=Ev→Sto→RO
def W0t (K:PySem.W.Frag) (W:Wd) (H H':Hp) (fs:List (Str × D)) (d:Option Addr):Prop :=
  (d=none∧fs=[]) ∨ ∃ (dd:Addr) (vs:List (Str × V)),d=some dd∧H dd=none∧¬ W dd∧H' dd=some (.xd vs)∧AVf K W H' fs vs
def Z28 (K:PySem.W.Frag) (Z:Wd) (ρ:List Addr) (H:Hp) (Wx:WX) (D:Ends):RO→Prop
  | .go (.nx e) S'=>∀ (ρ':List Addr) (H':Hp) (σ':St),Sta K Z ρ' S' H'→Go ρ H ρ' H'→EvOk K (Wn Z ρ') ρ' H' e σ'→D.nx σ' H'
  | .go (.bk e) S'=>∀ (ρ':List Addr) (H':Hp) (σ':St),Sta K Z ρ' S' H'→Go ρ H ρ' H'→EvOk K (Wn Z ρ') ρ' H' e σ'→D.bk σ' H'
  | .go (.ct e) S'=>∀ (ρ':List Addr) (H':Hp) (σ':St),Sta K Z ρ' S' H'→Go ρ H ρ' H'→EvOk K (Wn Z ρ') ρ' H' e σ'→D.ct σ' H'
  | .go (.rt x) S'=>∀ (ρ':List Addr) (H':Hp) (v:V),Sta K Z ρ' S' H'→Go ρ H ρ' H'→AX K (Wn Z ρ') ρ' H' x v→D.rt v H'
  | .go (.rp d) _=>∀ (H':Hp) (v:V),(∀ a o,a ∉ ρ→H a=some o→H' a=some o)→AV K Z H' d v→D.rt v H'
  | .go (.rq xs) S'=>∀ (ρ':List Addr) (H':Hp) (vs:List V) (t:Addr),Sta K Z ρ' S' H'→Go ρ H ρ' H'→AXs K (Wn Z ρ') ρ' H' xs vs→H' t=none→D.rt (.ref t) (upd H' t (.tup vs))
  | .err C fs e S'=>∀ (ρ':List Addr) (H':Hp) (σ':St) (d:Option Addr),Sta K Z ρ' S' H'→Go ρ H ρ' H'→EvOk K (Wn Z ρ') ρ' H' e σ'→W0t K (Wn Z ρ') H H' fs d→Wx (.ref (He.ga K C)) d σ' H'
  | .bad=>False
def RS (K:PySem.W.Frag) (Wx:WX) (m:MS):TS:=fun D σ H=>∃ (Z:Wd) (ρ:List Addr) (e:Ev) (S:Sto),Sta K Z ρ S H∧EvOk K (Wn Z ρ) ρ H e σ∧Z28 K Z ρ H Wx D (m e S)
abbrev MP (X:Cx) (Wx:WX) (st:Stmt) (m:MS):Prop:=PS X st (RS X.K Wx m)
abbrev MPs (X:Cx) (Wx:WX) (sts:List Stmt) (m:MS):Prop:=PSs X sts (RS X.K Wx m)
def R.so {α:Type} (r:R α) (e:Ev) (k:α→Sto→RO):RO:=match r with
  | .ok a S=>k a S
  | .err C fs S => .err C fs e S
  | .bad => .bad
section
variable {K:PySem.W.Frag} {Z:Wd} {ρ ρ1:List Addr} {S S1:Sto} {H H1:Hp} {Wx:WX} {σ:St} {D:Ends}
theorem W0t.back {W:Wd} {H':Hp} {fs:List (Str × Bv.D)} {d:Option Addr} (s1:∀ a o,H a=some o→∃ u,H1 a=some u) (h:W0t K W H1 H' fs d):W0t K W H H' fs d:=by
  rcases h with q | ⟨dd,vs,h1,h2,h3⟩
  · exact .inl q
  · refine .inr ⟨dd,vs,h1,?_,h3⟩
    cases e:H dd with
    | none=>rfl
    | some o =>
      obtain ⟨u,z⟩:=s1 dd o e
      rw [h2] at z; cases z
theorem Z28.shift {r:RO} (g:Go ρ H ρ1 H1) (s1:Sta K Z ρ1 S1 H1) (h:Z28 K Z ρ H Wx D r):Z28 K Z ρ1 H1 Wx D r:=by
  cases r with
  | go o S' =>
    cases o with
    | nx e=>exact fun ρ' H' σ' st go ev=>h ρ' H' σ' st (g.trans go) ev
    | bk e=>exact fun ρ' H' σ' st go ev=>h ρ' H' σ' st (g.trans go) ev
    | ct e=>exact fun ρ' H' σ' st go ev=>h ρ' H' σ' st (g.trans go) ev
    | rt x=>exact fun ρ' H' v st go a=>h ρ' H' v st (g.trans go) a
    | rp d=>exact fun H' v k a=>h H' v (fun b o hb q=>let ⟨h1,q1⟩:=g.keep b o hb q; k b o h1 q1) a
    | rq xs=>exact fun ρ' H' vs t st go a ht=>h ρ' H' vs t st (g.trans go) a ht
  | err C fs e S'=>exact fun ρ' H' σ' d st go ev q=>h ρ' H' σ' d st (g.trans go) ev (q.back (Y8a g s1))
  | bad=>exact h
theorem Z1r {α β:Type} {rel:Wd→List Addr→Hp→α→β→Prop} {e:Ev} {m:MG α} {k:α→Sto→RO} {R':β→Hp→Prop} (st:Sta K Z ρ S H) (ev:EvOk K (Wn Z ρ) ρ H e σ) (h:Z28 K Z ρ H Wx D ((m e S).so e k))
    (next:∀ ρ1 H1 v x S1,Sta K Z ρ1 S1 H1→Go ρ H ρ1 H1→EvOk K (Wn Z ρ1) ρ1 H1 e σ→rel (Wn Z ρ1) ρ1 H1 x v→Z28 K Z ρ1 H1 Wx D (k x S1)→R' v H1):RG rel K Wx m σ H R':=by
  refine ⟨Z,ρ,e,S,st,ev,?_⟩
  cases q:m e S with
  | ok x S1 =>
    rw [q] at h
    exact fun ρ1 H1 v s1 g a=>next ρ1 H1 v x S1 s1 g (ev.mv (g.mv st) g.pre) a (Z28.shift g s1 h)
  | err C fs S1 =>
    rw [q] at h
    exact fun ρ' H' d s1 g z=>h ρ' H' σ d s1 g (ev.mv (g.mv st) g.pre) z
  | bad=>rw [q] at h; exact h
theorem Z28.next {e:Ev} (h:Z28 K Z ρ H Wx D (.go (.nx e) S)) (st:Sta K Z ρ S H) (ev:EvOk K (Wn Z ρ) ρ H e σ):D.nx σ H:=h ρ H σ st (Go.refl _ _) ev
end
def V3:MS:=fun e S => .go (.nx e) S
def RO.then (r:RO) (m:MS):RO:=match r with
  | .go (.nx e) S=>m e S
  | r=>r
def Y0 (m1 m2:MS):MS:=fun e S=>(m1 e S).then m2
def V9 (m:M):MS:=fun e S=>(m e S).so e fun _ S1 => .go (.nx e) S1
def V0 (i:Nat) (m:M):MS:=fun e S=>(m e S).so e fun x S1 => .go (.nx (e.set i (some x))) S1
def Y3c (m:M):MS:=fun e S=>(m e S).so e fun x S1 => .go (.rt x) S1
def W3 (m:M):MS:=fun e S=>(m e S).so e fun x S1=>match x.get S1 with
  | some d => .go (.rp d) S1
  | none => .bad
def X8h:MS:=fun _ S => .go (.rt (.d .non)) S
def X0s (S:Sto):List X→Option (List D)
  | []=>some []
  | x :: r=>match x.get S,X0s S r with
    | some d,some l=>some (d :: l)
    | _,_=>none
def Y25 (ms:MG (List X)):MS:=fun e S=>(ms e S).so e fun xs S1=>match X0s S1 xs with
  | some ds=>if ds.length ≤ sizeLine then .go (.rp (.tup ds)) S1 else .bad
  | none => .bad
def Z02 (mt:MG Bool) (m1 m2:MS):MS:=fun e S=>(mt e S).so e fun b S1=>if b then m1 e S1 else m2 e S1
section
variable {X:Cx} {Wx:WX} {pos p:Pos} {a b c:Expr} {st:Stmt} {es:List Expr} {rest sts sts2:List Stmt} {ma mb mc m:M} {ms:MG (List Bv.X)} {mt:MG Bool} {m1 m2:MS}
theorem PS.of {X:Cx} {st:Stmt} {t t':TS} (h:PS X st t) (w:∀ D σ H,t' D σ H→t D σ H):PS X st t':=⟨fun pins s σ H D I q=>h.run pins s σ H D I (w D σ H q)⟩
theorem PSs.of {X:Cx} {sts:List Stmt} {t t':TS} (h:PSs X sts t) (w:∀ D σ H,t' D σ H→t D σ H):PSs X sts t':=⟨fun pins s σ H D I q=>h.run pins s σ H D I (w D σ H q)⟩
theorem X4:MPs X Wx [] V3:=PSs.of pss_nil fun D σ H ⟨Z,ρ,e,S,st,ev,p⟩=>p.next st ev
theorem Z5 (h1:MP X Wx st m1) (h2:MPs X Wx rest m2):MPs X Wx (st :: rest) (Y0 m1 m2):=PSs.of (pss_cons h1 h2) fun D σ H ⟨Z,ρ,e,S,st,ev,p⟩=>by
  refine ⟨Z,ρ,e,S,st,ev,?_⟩
  have p:Z28 X.K Z ρ H Wx D ((m1 e S).then m2):=p
  cases q:m1 e S with
  | go o S1 =>
    rw [q] at p
    cases o with
    | nx e1=>exact fun ρ' H' σ' st' go ev'=>⟨Z,ρ',e1,S1,st',ev',Z28.shift go st' p⟩
    | _=>exact p
  | err C fs e1 S1=>rw [q] at p; exact p
  | bad=>rw [q] at p; exact p
theorem Z8 (h1:MP X Wx st m1):MPs X Wx [st] m1:=pss_one h1
theorem W8 (h:ME X Wx a ma) (hs:swapsWith a none pos.line X.env=pure false:=by rfl):MP X Wx (.Expr a pos) (V9 ma):=PS.of (ps_expr h hs) fun D σ H ⟨Z,ρ,e,S,st,ev,p⟩ =>
  Z1r st ev p fun ρ1 H1 v x S1 st1 g1 ev1 a1 p1=>p1.next st1 ev1
theorem W2 {i:Nat} {x:Str} {pos':Pos} (hN:X.N.Nodup) (hi:X.N[i]?=some x) (hx:Loc X.env.scope x) (he:ME X Wx a ma) (hs:swapsWith a (some (.Name x pos')) pos.line X.env=pure false:=by rfl) (hf:X.fn x=true ∨ X.env.scope.names.lookup x=some .local:=by first | exact .inl rfl | exact .inr rfl | assumption) :
    MP X Wx (.Assign [.Name x pos'] a pos) (V0 i ma):=PS.of (ps_set hN hi hx he hs hf) fun D σ H ⟨Z,ρ,e,S,st,ev,p⟩ =>
  Z1r st ev p fun ρ1 H1 v x S1 st1 g1 ev1 a1 p1=>p1.next st1 (ev1.set a1)
theorem Z87 (h:ME X Wx a ma):MP X Wx (.Return (some a) pos) (Y3c ma):=PS.of (ps_ret h) fun D σ H ⟨Z,ρ,e,S,st,ev,p⟩ =>
  Z1r st ev p fun ρ1 H1 v x S1 st1 g1 ev1 a1 p1=>p1 ρ1 H1 v st1 (Go.refl _ _) a1
theorem AW.leave {K:PySem.W.Frag} {Z:Wd} {ρ:List Addr} {S:Sto} {H:Hp} {d:Bv.D} {v:V} (st:Sta K Z ρ S H) (h:AW K (Wn Z ρ) H d v) (hz:∀ q,v = .ref q→¬ Z q):AV K Z H d v:=by
  have m:Mv (Wn Z ρ) H Z H:=fun a o h q=>⟨fun z=>h (.inl z),q⟩
  cases h with
  | av h=>exact h.mv m
  | lst h hs=>exact .lst (hz _ rfl) h (hs.mv m)
  | fdc h hs=>exact .dic (hz _ rfl) h (hs.mv m)
theorem AX.leave {K:PySem.W.Frag} {Z:Wd} {ρ:List Addr} {S:Sto} {H:Hp} {x:Bv.X} {d:Bv.D} {v:V} (st:Sta K Z ρ S H) (h:AX K (Wn Z ρ) ρ H x v) (e:x.get S=some d):AV K Z H d v:=by
  cases h with
  | d h =>
    cases e
    exact h.mv fun a o h q=>⟨fun z=>h (.inl z),q⟩
  | r h =>
    refine AW.leave st ((AX.r h).get st e) fun q hq=>?_
    cases hq
    exact fun z=>(st.z _ z).1 (List.mem_of_getElem? h)
theorem X7 (h:ME X Wx a ma):MP X Wx (.Return (some a) pos) (W3 ma):=PS.of (ps_ret h) fun D σ H ⟨Z,ρ,e,S,st,ev,p⟩ =>
  Z1r st ev p fun ρ1 H1 v x S1 st1 g1 ev1 a1 p1=>by
    cases q:x.get S1 with
    | none=>rw [q] at p1; exact p1.elim
    | some d =>
      rw [q] at p1
      exact p1 H1 v (fun _ _ _ z=>z) (a1.leave st1 q)
theorem X9o:MP X Wx (.Return none pos) X8h:=PS.of ps_retN fun D σ H ⟨Z,ρ,e,S,st,ev,p⟩=>p ρ H .non st (Go.refl _ _) (.d .non)
theorem Y6v {K:PySem.W.Frag} {Z:Wd} {ρ:List Addr} {S:Sto} {H:Hp} (st:Sta K Z ρ S H):∀ {xs:List Bv.X} {vs:List V} {ds:List Bv.D},AXs K (Wn Z ρ) ρ H xs vs→X0s S xs=some ds→AVs K Z H ds vs
  | _,_,_, .nil,e=>by cases e; exact .nil
  | x :: r,_,ds, .cons h hs,e=>by
    unfold X0s at e
    cases q:x.get S with
    | none=>rw [q] at e; cases e
    | some d =>
      cases q2:X0s S r with
      | none=>rw [q,q2] at e; cases e
      | some l =>
        rw [q,q2] at e
        cases e
        exact .cons (h.leave st q) (Y6v st hs q2)
theorem Y0h {x1} {p2:Pos} (h:MA X Wx es ms):MP X Wx (.Return (some (.Tuple es x1 p2)) pos) (Y25 ms):=PS.of (ps_ret (pe_tup h)) fun D σ H ⟨Z,ρ,e,S,st,ev,p⟩ =>
  Z1r (rel:=AXs X.K) st ev p fun ρ1 H1 vs xs S1 st1 g1 ev1 a1 p1=>by
    cases q:X0s S1 xs with
    | none=>rw [q] at p1; exact p1.elim
    | some ds =>
      rw [q] at p1
      have p1:Z28 X.K Z ρ1 H1 Wx D (if ds.length ≤ sizeLine then .go (.rp (.tup ds)) S1 else .bad):=p1
      by_cases hl:ds.length ≤ sizeLine
      · rw [if_pos hl] at p1
        have av:=Y6v st1 a1 q
        refine ⟨by rw [← av.length]; exact hl,fun r hr=>p1 _ _ (fun b o _ z=>U3 hr b o z) (Y2c (fun z hz=>(st1.z z hz).2) hr av)⟩
      · rw [if_neg hl] at p1; exact p1.elim
theorem V2 (hc:MT X Wx c mt) (h1:MPs X Wx sts m1) (h2:MPs X Wx sts2 m2):MP X Wx (.If c sts sts2 pos) (Z02 mt m1 m2):=PS.of (ps_if hc h1 h2) fun D σ H ⟨Z,ρ,e,S,st,ev,p⟩ =>
  Z1r (rel:=relB) st ev p fun ρ1 H1 v x S1 st1 g1 ev1 a1 p1=>by
    cases (show x=v from a1)
    cases v with
    | true=>exact ⟨Z,ρ1,e,S1,st1,ev1,p1⟩
    | false=>exact ⟨Z,ρ1,e,S1,st1,ev1,p1⟩
def X3t:MS:=fun _ _ => .bad
theorem X8b:MP X Wx st X3t:=PS.of ps_never fun D σ H ⟨Z,ρ,e,S,st,ev,p⟩=>p
theorem X9p:MPs X Wx sts X3t:=PSs.of pss_never fun D σ H ⟨Z,ρ,e,S,st,ev,p⟩=>p
inductive Tg where
  | nm (i:Nat) | tp (ts:List Tg)
mutual
def Tg.asg (S:Sto):Tg→Bv.X→Ev→Option Ev
  | .nm i,x,e=>some (e.set i (some x))
  | .tp ts, .d (.tup ds),e=>Tg.asgs S ts (ds.map .d) e
  | .tp _,_,_=>none
def Tg.asgs (S:Sto):List Tg→List Bv.X→Ev→Option Ev
  | [],[],e=>some e
  | t :: ts,x :: xs,e=>match t.asg S x e with
    | some e1=>Tg.asgs S ts xs e1
    | none=>none
  | [],_ :: _,_=>none
  | _ :: _,[],_=>none
end
mutual
def Tg.slots:Tg→List Nat
  | .nm i=>[i]
  | .tp ts=>Tg.slotss ts
def Tg.slotss:List Tg→List Nat
  | []=>[]
  | t :: ts=>t.slots++Tg.slotss ts
end
def TGt (K:PySem.W.Frag) (t:Tg):TG:=fun v σ H Q=>∃ (Z:Wd) (ρ:List Addr) (e:Ev) (S:Sto) (x:Bv.X) (e':Ev),Sta K Z ρ S H∧EvOk K (Wn Z ρ) ρ H e σ∧AX K (Wn Z ρ) ρ H x v∧t.asg S x e=some e'∧∀ σ',EvOk K (Wn Z ρ) ρ H e' σ'→(∀ vs:List Nat,(∀ i ∈ t.slots,i ∈ vs)→wipe σ' vs=wipe σ vs)→Q σ' H
def W2p (K:PySem.W.Frag) (ts:List Tg):TGs:=fun vs σ H Q=>∃ (Z:Wd) (ρ:List Addr) (e:Ev) (S:Sto) (xs:List Bv.X) (e':Ev),Sta K Z ρ S H∧EvOk K (Wn Z ρ) ρ H e σ∧AXs K (Wn Z ρ) ρ H xs vs∧Tg.asgs S ts xs e=some e'∧∀ σ',EvOk K (Wn Z ρ) ρ H e' σ'→(∀ vs:List Nat,(∀ i ∈ Tg.slotss ts,i ∈ vs)→wipe σ' vs=wipe σ vs)→Q σ' H
theorem X3c {σ:St} {i:Nat} {o:Option V}:∀ {vs:List Nat},i ∈ vs→wipe (σ.set i o) vs=wipe σ vs
  | [],h=>by cases h
  | j :: vs,h=>by
    unfold wipe
    by_cases hi:i ∈ vs
    · rw [X3c hi]
    · have e:i=j:=by
        rcases List.mem_cons.mp h with h | h
        · exact h
        · exact absurd h hi
      subst e
      have go:∀ {vs:List Nat},i ∉ vs→wipe (σ.set i o) vs=(wipe σ vs).set i o:=fun {vs}=>by
        induction vs with
        | nil=>intro _; rfl
        | cons k ks ih =>
          intro hk
          rw [List.mem_cons,not_or] at hk
          unfold wipe
          rw [ih hk.2,List.set_comm _ _ hk.1]
      rw [go hi,List.set_set]
theorem PG.of {X:Cx} {e:Expr} {t t':TG} (h:PG X e t) (w:∀ v σ H Q,t' v σ H Q→t v σ H Q):PG X e t':=⟨fun pins s σ H v u Q I r q=>h.run pins s σ H v u Q I r (w v σ H Q q)⟩
theorem PGs.of {X:Cx} {e:List Expr} {t t':TGs} (h:PGs X e t) (w:∀ v σ H Q,t' v σ H Q→t v σ H Q):PGs X e t':=⟨fun pins s σ H v u Q I r q=>h.run pins s σ H v u Q I r (w v σ H Q q)⟩
theorem Y2 {i:Nat} {x:Str} (hN:X.N.Nodup) (hi:X.N[i]?=some x) (hx:Loc X.env.scope x) (hf:X.fn x=true ∨ X.env.scope.names.lookup x=some .local:=by first | exact .inl rfl | exact .inr rfl | assumption):PG X (.Name x pos) (TGt X.K (.nm i)) :=
  PG.of (pg_name hN hi hx hf) fun v σ H Q ⟨Z,ρ,e,S,x,e',st,ev,a,h,k⟩=>by
    have h:some (e.set i (some x))=some e':=by simpa [Tg.asg] using h
    cases h
    exact k _ (ev.set a) fun vs hv=>X3c (hv i (by simp [Tg.slots]))
theorem Z07:PGs X [] (W2p X.K []):=PGs.of pgs_nil fun v σ H Q ⟨Z,ρ,e,S,xs,e',st,ev,a,h,k⟩=>by
  cases a with
  | nil =>
    have h:some e=some e':=by simpa [Tg.asgs] using h
    cases h
    exact ⟨rfl,k σ ev fun _ _=>rfl⟩
  | cons _ _=>simp [Tg.asgs] at h
theorem Y9 {t:Tg} {ts:List Tg} (h1:PG X a (TGt X.K t)) (h2:PGs X es (W2p X.K ts)) (hs:(assignEach (a :: es) X.env).map (·.2)=assign a X.env :: (assignEach es X.env).map (·.2):=by rfl):PGs X (a :: es) (W2p X.K (t :: ts)) :=
  PGs.of (pgs_cons h1 h2 hs) fun v σ H Q ⟨Z,ρ,e,S,xs,e',st,ev,a,h,k⟩=>by
    cases a with
    | nil=>simp [Tg.asgs] at h
    | @cons x v0 xr vr ha hr =>
      cases q:t.asg S x e with
      | none=>simp [Tg.asgs,q] at h
      | some e1 =>
        have h:Tg.asgs S ts xr e1=some e':=by simpa [Tg.asgs,q] using h
        exact ⟨v0,vr,rfl,Z,ρ,e,S,x,e1,st,ev,ha,q,fun σ1 ev1 w1=>⟨Z,ρ,e1,S,xr,e',st,ev1,hr,h,fun σ2 ev2 w2=>k σ2 ev2 fun vs hv=>(w2 vs fun i hi=>hv i (by simp [Tg.slotss,hi])).trans (w1 vs fun i hi=>hv i (by simp [Tg.slotss,hi]))⟩⟩
theorem X12 {S:Sto}:∀ {ts:List Tg} {xs:List Bv.X} {e e':Ev},Tg.asgs S ts xs e=some e'→xs.length=ts.length
  | [],[],_,_,_=>rfl
  | t :: ts,x :: xs,e,e',h=>by
    cases q:t.asg S x e with
    | none=>simp [Tg.asgs,q] at h
    | some e1 =>
      have h:Tg.asgs S ts xs e1=some e':=by simpa [Tg.asgs,q] using h
      simp [X12 h]
  | [],_ :: _,_,_,h=>by simp [Tg.asgs] at h
  | _ :: _,[],_,_,h=>by simp [Tg.asgs] at h
theorem Z2t {k:Nat} {ts:List Tg} (hc:X.calm=true) (h:PGs X es (W2p X.K ts)) (hn:(assignEach es X.env).length=ts.length:=by rfl) (hst:(assignEach es X.env).findIdx? (·.1)=none:=by rfl):PG X (.Tuple es k pos) (TGt X.K (.tp ts)) :=
  PG.of (pg_tup hc h hn hst) fun v σ H Q ⟨Z,ρ,e,S,x,e',st,ev,a,h,kk⟩=>by
    cases a with
    | r _=>simp [Tg.asg] at h
    | d h1 =>
      cases h1 with
      | @tup q xs ds t hs =>
        have h:Tg.asgs S ts (ds.map .d) e=some e':=by simpa [Tg.asg] using h
        have hl:=X12 h
        rw [List.length_map] at hl
        exact ⟨_,xs,rfl,t.sq,by rw [← hs.length]; exact hl,Z,ρ,e,S,_,e',st,ev,hs.axs,h,fun σ2 ev2 w2=>kk σ2 ev2 fun vs hv=>w2 vs fun i hi=>hv i (by simpa [Tg.slots] using hi)⟩
      | _=>simp [Tg.asg] at h
def Z8c (t:Tg) (m:M):MS:=fun e S=>(m e S).so e fun x S1=>match t.asg S1 x e with
  | some e1 => .go (.nx e1) S1
  | none => .bad
theorem Z6h {tg:Expr} {t:Tg} (he:ME X Wx a ma) (hg:PG X tg (TGt X.K t)) (hs:swapsWithSole [tg] a pos.line X.env=pure false:=by rfl) (hw:swappedStores [tg] a X.env=pure none:=by rfl)
    (h1:(assignEach [tg] X.env).map (·.2)=[assign tg X.env]:=by rfl):MP X Wx (.Assign [tg] a pos) (Z8c t ma):=PS.of (ps_asg he hg hs hw h1) fun D σ H ⟨Z,ρ,e,S,st,ev,p⟩ =>
  Z1r st ev p fun ρ1 H1 v x S1 st1 g1 ev1 a1 p1=>by
    cases q:t.asg S1 x e with
    | none=>rw [q] at p1; exact p1.elim
    | some e1 =>
      rw [q] at p1
      exact ⟨Z,ρ1,e,S1,x,e1,st1,ev1,a1,q,fun σ' ev' _=>p1.next st1 ev'⟩
def X8g (f:Str) (x:Bv.X):List (Str × Bv.X)→List (Str × Bv.X)
  | []=>[(f,x)]
  | (g,y) :: r=>if g=f then (g,x) :: r else (g,y) :: X8g f x r
theorem Y71 {K:PySem.W.Frag} {W:Wd} {ρ:List Addr} {H:Hp} {f:Str} {x:Bv.X} {v:V} (a:AX K W ρ H x v):∀ {fs:List (Str × Bv.X)} {vs:List (Str × V)},Paired (fun (p:Str × Bv.X) (q:Str × V)=>p.1=q.1∧AX K W ρ H p.2 q.2) fs vs →
    Paired (fun (p:Str × Bv.X) (q:Str × V)=>p.1=q.1∧AX K W ρ H p.2 q.2) (X8g f x fs) (putF f v vs)
  | _,_, .nil => .cons ⟨rfl,a⟩ .nil
  | (g,y) :: r,(g',u) :: r', .cons ⟨h1,h2⟩ hs=>by
    cases (show g=g' from h1)
    unfold X8g putF
    by_cases h:g=f
    · rw [if_pos h,if_pos h]; exact .cons ⟨rfl,a⟩ hs
    · rw [if_neg h,if_neg h]; exact .cons ⟨rfl,h2⟩ (Y71 a hs)
def X02 (Cs:List Str) (f:Str) (S:Sto) (o y:Bv.X):Option Sto:=match o with
  | .r n=>(match S[n]? with
    | some (.ins C fs)=>if Cs.contains C && decide (fs.length < 1000) then some (S.set n (.ins C (X8g f y fs))) else none
    | _=>none)
  | .d _=>none
def Z3p (Cs:List Str) (f:Str) (mo m:M):MS:=fun e S=>(m e S).so e fun y S1=>(mo e S1).so e fun o S2=>match X02 Cs f S2 o y with
  | some S3 => .go (.nx e) S3
  | none => .bad
theorem Z1o {o:Expr} {mo:M} {f:Str} {pos':Pos} (Cs:List Str) (T:Z0x X.K Cs f) (ho:ME X Wx o mo) (ha:ME X Wx a ma) (hs:swapsWith a (some (.Attribute o f pos')) pos.line X.env=pure false:=by rfl):MP X Wx (.Assign [.Attribute o f pos'] a pos) (Z3p Cs f mo ma) :=
  PS.of (ps_fld ho ha hs) fun D σ H ⟨Z,ρ,e,S,st,ev,p⟩ =>
  Z1r st ev p fun ρ1 H1 v y S1 st1 g1 ev1 a1 p1=>Z1r st1 ev1 p1 fun ρ2 H2 u o S2 st2 g2 ev2 a2 p2=>by
    have a1:=a1.mv (g2.mv st1) g2.pre
    cases q:X02 Cs f S2 o y with
    | none=>rw [q] at p2; exact p2.elim
    | some S3 =>
      rw [q] at p2
      cases a2 with
      | d h=>cases q
      | r h =>
        rename_i n q0
        cases z:S2[n]? with
        | none=>simp [X02,z] at q
        | some oo =>
          cases oo with
          | ins C fs =>
            have q1:(if (Cs.contains C && decide (fs.length < 1000))=true then some (S2.set n (.ins C (X8g f y fs))) else none)=some S3:=by simpa [X02,z] using q
            by_cases hc:(Cs.contains C && decide (fs.length < 1000))=true
            · rw [if_pos hc] at q1
              cases q1
              obtain ⟨hc1,hc2⟩:=Bool.and_eq_true_iff.mp hc
              obtain ⟨dx,vs,h2,h3⟩:=st2.ob n _ q0 z h
              obtain ⟨t1,t2⟩:=T C (by simpa using hc1)
              have hl:vs.length < 1000:=by rw [← Paired.length h3]; exact of_decide_eq_true hc2
              have hin:q0 ∈ ρ2:=List.mem_of_getElem? h
              have m:Mv (Wn Z ρ2) H2 (Wn Z ρ2) (upd H2 q0 (.ins (He.ga X.K C) dx (putF f v vs))):=fun b o hb hq=>⟨hb,by rw [upd_ne (fun z=>hb (.inr (by rw [z]; exact hin)))]; exact hq⟩
              obtain ⟨st3,g3⟩:=st2.put (o' := .ins C (X8g f y fs)) (u := .ins (He.ga X.K C) dx (putF f v vs)) h (fun _ _ q=>by rw [h2] at q; cases q) ⟨dx,_,upd_same,Paired.mapP (Y71 a1 h3) fun _ _ w=>⟨w.1,w.2.mv m (List.prefix_refl _)⟩⟩
              exact ⟨_,_,_,vs,rfl,h2,t1,t2,hl,p2 _ _ σ st3 g3 (ev2.mv m (List.prefix_refl _))⟩
            · rw [if_neg hc] at q1; cases q1
          | _=>simp [X02,z] at q
end
end Bv
namespace Bv
open PySem PySem.Spec L2
open PyProof.Rows hiding St
variable [HasW]
mutual
def D.beq:D→D→Bool
  | .non, .non=>true
  | .bl a, .bl b=>a == b
  | .int a, .int b=>decide (a=b)
  | .str a, .str b=>decide (a=b)
  | .gl a, .gl b=>decide (a=b)
  | .scr a, .scr b=>decide (a=b)
  | .tup a, .tup b=>D.beqs a b
  | .lst a, .lst b=>D.beqs a b
  | .dic a, .dic b=>D.beqk a b
  | .obj c a, .obj d b=>decide (c=d) && D.beqf a b
  | _,_=>false
def D.beqs:List D→List D→Bool
  | [],[]=>true
  | a :: r,b :: s=>D.beq a b && D.beqs r s
  | _,_=>false
def D.beqk:List (D × D)→List (D × D)→Bool
  | [],[]=>true
  | (k,a) :: r,(l,b) :: s=>(D.beq k l && D.beq a b) && D.beqk r s
  | _,_=>false
def D.beqf:List (Str × D)→List (Str × D)→Bool
  | [],[]=>true
  | (k,a) :: r,(l,b) :: s=>(decide (k=l) && D.beq a b) && D.beqf r s
  | _,_=>false
end
mutual
theorem D.eq_of_beq:∀ (a b:D),D.beq a b=true→a=b
  | .non,b,h=>by cases b <;> first | rfl | simp [D.beq] at h
  | .bl x,b,h=>by cases b <;> first | (simp [D.beq] at h; rw [h]) | simp [D.beq] at h
  | .int x,b,h=>by cases b <;> first | (simp [D.beq] at h; rw [h]) | simp [D.beq] at h
  | .str x,b,h=>by cases b <;> first | (simp [D.beq] at h; rw [h]) | simp [D.beq] at h
  | .gl x,b,h=>by cases b <;> first | (simp [D.beq] at h; rw [h]) | simp [D.beq] at h
  | .scr x,b,h=>by cases b <;> first | (simp [D.beq] at h; rw [h]) | simp [D.beq] at h
  | .tup x,b,h=>by
    cases b with
    | tup y=>simp only [D.beq] at h; rw [D.eqs_of_beqs x y h]
    | _=>simp [D.beq] at h
  | .lst x,b,h=>by
    cases b with
    | lst y=>simp only [D.beq] at h; rw [D.eqs_of_beqs x y h]
    | _=>simp [D.beq] at h
  | .dic x,b,h=>by
    cases b with
    | dic y=>simp only [D.beq] at h; rw [D.eqk_of_beqk x y h]
    | _=>simp [D.beq] at h
  | .obj c x,b,h=>by
    cases b with
    | obj d y=>simp only [D.beq,Bool.and_eq_true,decide_eq_true_eq] at h; rw [h.1,D.eqf_of_beqf x y h.2]
    | _=>simp [D.beq] at h
theorem D.eqs_of_beqs:∀ (a b:List D),D.beqs a b=true→a=b
  | [],b,h=>by cases b <;> first | rfl | simp [D.beqs] at h
  | x :: r,b,h=>by
    cases b with
    | nil=>simp [D.beqs] at h
    | cons y s =>
      simp only [D.beqs,Bool.and_eq_true] at h
      rw [D.eq_of_beq x y h.1,D.eqs_of_beqs r s h.2]
theorem D.eqk_of_beqk:∀ (a b:List (D × D)),D.beqk a b=true→a=b
  | [],b,h=>by cases b <;> first | rfl | simp [D.beqk] at h
  | (k,u) :: r,b,h=>by
    cases b with
    | nil=>simp [D.beqk] at h
    | cons y s =>
      obtain ⟨l,v⟩:=y
      simp only [D.beqk,Bool.and_eq_true] at h
      rw [D.eq_of_beq k l h.1.1,D.eq_of_beq u v h.1.2,D.eqk_of_beqk r s h.2]
theorem D.eqf_of_beqf:∀ (a b:List (Str × D)),D.beqf a b=true→a=b
  | [],b,h=>by cases b <;> first | rfl | simp [D.beqf] at h
  | (k,u) :: r,b,h=>by
    cases b with
    | nil=>simp [D.beqf] at h
    | cons y s =>
      obtain ⟨l,v⟩:=y
      simp only [D.beqf,Bool.and_eq_true,decide_eq_true_eq] at h
      rw [h.1.1,D.eq_of_beq u v h.1.2,D.eqf_of_beqf r s h.2]
end
mutual
theorem D.beq_self:∀ a:D,D.beq a a=true
  | .non=>by simp [D.beq]
  | .bl _=>by simp [D.beq]
  | .int _=>by simp [D.beq]
  | .str _=>by simp [D.beq]
  | .gl _=>by simp [D.beq]
  | .scr _=>by simp [D.beq]
  | .tup a=>by simp [D.beq,D.beqs_self a]
  | .lst a=>by simp [D.beq,D.beqs_self a]
  | .dic a=>by simp [D.beq,D.beqk_self a]
  | .obj c a=>by simp [D.beq,D.beqf_self a]
theorem D.beqs_self:∀ a:List D,D.beqs a a=true
  | []=>by simp [D.beqs]
  | a :: r=>by simp [D.beqs,D.beq_self a,D.beqs_self r]
theorem D.beqk_self:∀ a:List (D × D),D.beqk a a=true
  | []=>by simp [D.beqk]
  | (k,a) :: r=>by simp [D.beqk,D.beq_self k,D.beq_self a,D.beqk_self r]
theorem D.beqf_self:∀ a:List (Str × D),D.beqf a a=true
  | []=>by simp [D.beqf]
  | (k,a) :: r=>by simp [D.beqf,D.beq_self a,D.beqf_self r]
end
instance:DecidableEq D:=fun a b=>if h:D.beq a b=true then .isTrue (D.eq_of_beq a b h) else .isFalse fun e=>h (e ▸ D.beq_self a)
instance:DecidableEq X
  | .d a, .d b=>if h:a=b then .isTrue (h ▸ rfl) else .isFalse fun e=>h (by cases e; rfl)
  | .r a, .r b=>if h:a=b then .isTrue (h ▸ rfl) else .isFalse fun e=>h (by cases e; rfl)
  | .d _, .r _ => .isFalse fun e=>by cases e
  | .r _, .d _ => .isFalse fun e=>by cases e
inductive Lk where
  | free | lst (n:Nat) (xs:List X)
def Lk.ok:Lk→Sto→Bool
  | .free,_=>true
  | .lst n xs,S=>match S[n]? with
    | some (.lst zs)=>decide (zs=xs)
    | _=>false
def Srv (K:PySem.W.Frag) (W:Wd) (ρ:List Addr) (H:Hp) (p:List X × Lk) (J:It):Prop:=∃ (G:Hp→Prop) (Y:Nat→Hp→V→Hp→Prop),Walk J p.1.length G Y ∧
  ∀ (Z2:Wd) (ρ2:List Addr) (S2:Sto) (H2:Hp),Sta K Z2 ρ2 S2 H2→Mv W H (Wn Z2 ρ2) H2→ρ <+: ρ2→(∀ a ob u,H a=some (.frz ob u)→H2 a=some (.frz ob u))→p.2.ok S2=true→G H2 ∧
    ∀ i x H3,Y i H2 x H3→Same H2 H3∧∃ y,p.1[i]?=some y∧AX K (Wn Z2 ρ2) ρ2 H3 y x
abbrev MIt:=MG (List X × Lk)
abbrev MI (X:Cx) (Wx:WX) (tg iter:Expr) (m:MIt):Prop:=PI X tg iter (RG (Srv X.K) X.K Wx m)
theorem PI.of {X:Cx} {tg e:Expr} {t t':TI} (h:PI X tg e t) (w:∀ σ H R,t' σ H R→t σ H R):PI X tg e t':=⟨fun pins s σ H R I q=>h.run pins s σ H R I (w σ H R q)⟩
def RO.ext (r:RO) (e:Ev):RO:=r
def Y4g (t:Tg) (l:Lk) (body:MS):List X→Ev→Sto→RO
  | [],e,S=>if l.ok S then .go (.nx e) S else .bad
  | x :: xs,e,S=>if l.ok S then (match t.asg S x e with
    | some e1=>(match body e1 S with
      | .go (.nx e2) S2=>Y4g t l body xs e2 S2
      | .go (.ct e2) S2=>Y4g t l body xs e2 S2
      | .go (.bk e2) S2 => .go (.nx e2) S2
      | r=>r)
    | none => .bad) else .bad
def Z40 (t:Tg) (mi:MIt) (body:MS):MS:=fun e S=>(mi e S).so e fun p S1=>Y4g t p.2 body p.1 e S1
section
variable {X:Cx} {Wx:WX} {pos:Pos} {tg iter:Expr} {body:List Stmt} {mi:MIt} {mb:MS} {t:Tg}
theorem Z9i {α:Type} {l:List α} {i:Nat} {a:α} (h:l[i]?=some a):l.drop i=a :: l.drop (i + 1):=by
  obtain ⟨h1,h2⟩:=List.getElem?_eq_some_iff.mp h
  rw [← h2]
  exact List.drop_eq_getElem_cons h1
theorem Z37 (hp:PassesOwn (model X.prog X.w) X.A X.env X.xe) (hc:X.calm=true) (hi:MI X Wx tg iter mi) (hg:PG X tg (TGt X.K t)) (hb:MPs X Wx body mb)
    (hs:∀ x,foldedSetIterable iter X.env x=pure x:=by intro _; rfl):MP X Wx (.For tg iter body [] pos) (Z40 t mi mb):=PS.of (ps_for hp hc hi hg hb hs) fun D σ H ⟨Z,ρ,e,S,st,ev,p⟩ =>
  Z1r (rel:=Srv X.K) st ev p fun ρ1 H1 J p0 S1 st1 g1 ev1 srv p1=>by
    obtain ⟨ys,l⟩:=p0
    obtain ⟨G,Y,w,sv⟩:=srv
    have p1:Z28 X.K Z ρ1 H1 Wx D (Y4g t l mb ys e S1):=p1
    have sv:∀ (Z2:Wd) (ρ2:List Addr) (S2:Sto) (H2:Hp),Sta X.K Z2 ρ2 S2 H2→Mv (Wn Z ρ1) H1 (Wn Z2 ρ2) H2→ρ1 <+: ρ2→(∀ a ob u,H1 a=some (.frz ob u)→H2 a=some (.frz ob u))→l.ok S2=true→G H2 ∧
      ∀ i x H3,Y i H2 x H3→Same H2 H3∧∃ y,ys[i]?=some y∧AX X.K (Wn Z2 ρ2) ρ2 H3 y x:=sv
    have w:Walk J ys.length G Y:=w
    let Pv:Nat→L2.St→Hp→Prop:=fun i σ H=>∃ (ρ:List Addr) (e:Ev) (S:Sto),Sta X.K Z ρ S H∧Go ρ1 H1 ρ H∧EvOk X.K (Wn Z ρ) ρ H e σ∧Z28 X.K Z ρ H Wx D (Y4g t l mb (ys.drop i) e S)
    have okOf:∀ {xs:List Bv.X} {e:Ev} {S:Sto} {ρ:List Addr} {H:Hp},Z28 X.K Z ρ H Wx D (Y4g t l mb xs e S)→l.ok S=true:=fun {xs e S ρ H} q=>by
      cases z:l.ok S with
      | true=>rfl
      | false=>cases xs <;> (simp only [Y4g,z] at q; exact q.elim)
    refine for_it w Pv ⟨ρ1,e,S1,st1,Go.refl _ _,ev1,by rw [List.drop_zero]; exact p1⟩ ?_ ?_ ?_
    · rintro i σ2 H2 _ ⟨ρ2,e2,S2,st2,g2,ev2,q2⟩
      exact (sv Z ρ2 S2 H2 st2 (g2.mv st1) g2.pre g2.fz (okOf q2)).1
    · rintro i x σ2 H2 H3 hi ⟨ρ2,e2,S2,st2,g2,ev2,q2⟩ hy
      have hk:=okOf q2
      obtain ⟨k,y,e3,a⟩:=(sv Z ρ2 S2 H2 st2 (g2.mv st1) g2.pre g2.fz hk).2 i x H3 hy
      have st3:=st2.grow k
      have g3:Go ρ2 H2 ρ2 H3:=Go.grow k
      have ev3:=ev2.mv (g3.mv st2) g3.pre
      have q3:=Z28.shift g3 st3 q2
      rw [Z9i e3] at q3
      simp only [Y4g,hk,if_true] at q3
      cases q4:t.asg S2 y e2 with
      | none=>rw [q4] at q3; exact q3.elim
      | some e4 =>
        rw [q4] at q3
        refine ⟨Z,ρ2,e2,S2,y,e4,st3,ev3,a,q4,fun σ5 ev5 _=>⟨Z,ρ2,e4,S2,st3,ev5,?_⟩⟩
        have q3:Z28 X.K Z ρ2 H3 Wx D (match mb e4 S2 with
          | .go (.nx e2) S2=>Y4g t l mb (ys.drop (i + 1)) e2 S2
          | .go (.ct e2) S2=>Y4g t l mb (ys.drop (i + 1)) e2 S2
          | .go (.bk e2) S2 => .go (.nx e2) S2
          | r=>r):=q3
        cases q5:mb e4 S2 with
        | bad=>rw [q5] at q3; exact q3
        | err C fs e6 S6=>rw [q5] at q3; exact q3
        | go o S6 =>
          rw [q5] at q3
          cases o with
          | nx e6=>exact fun ρ7 H7 σ7 st7 g7 ev7=>⟨ρ7,e6,S6,st7,g2.trans (g3.trans g7),ev7,Z28.shift g7 st7 q3⟩
          | ct e6=>exact fun ρ7 H7 σ7 st7 g7 ev7=>⟨ρ7,e6,S6,st7,g2.trans (g3.trans g7),ev7,Z28.shift g7 st7 q3⟩
          | bk e6=>exact q3
          | rt x6=>exact q3
          | rp d6=>exact q3
          | rq d6=>exact q3
    · rintro σ2 H2 ⟨ρ2,e2,S2,st2,g2,ev2,q2⟩
      have hk:=okOf q2
      rw [List.drop_length] at q2
      simp only [Y4g,hk,if_true] at q2
      exact q2.next st2 ev2
def Y5f (mt:MG Bool) (body:MS):Nat→Ev→Sto→RO
  | 0,_,_ => .bad
  | n + 1,e,S=>(mt e S).so e fun b S1=>if b then (match body e S1 with
    | .go (.nx e2) S2=>Y5f mt body n e2 S2
    | .go (.ct e2) S2=>Y5f mt body n e2 S2
    | .go (.bk e2) S2 => .go (.nx e2) S2
    | r=>r) else .go (.nx e) S1
def many:Nat:=1000000
def Y73 (mt:MG Bool) (body:MS):MS:=Y5f mt body many
theorem Y7q {c:Expr} {mt:MG Bool} (hp:PassesOwn (model X.prog X.w) X.A X.env X.xe) (hc:MT X Wx c mt) (hb:MPs X Wx body mb):MP X Wx (.While c body [] pos) (Y73 mt mb):=PS.of (ps_while hp hc hb) fun D σ H ⟨Z,ρ,e,S,st,ev,p⟩=>by
  refine ⟨fun m σ H=>∃ (ρ:List Addr) (e:Ev) (S:Sto),Sta X.K Z ρ S H∧EvOk X.K (Wn Z ρ) ρ H e σ∧Z28 X.K Z ρ H Wx D (Y5f mt mb m e S),⟨many,ρ,e,S,st,ev,p⟩,?_⟩
  rintro m σ H ⟨ρ,e,S,st,ev,p⟩
  cases m with
  | zero=>exact p.elim
  | succ n =>
    refine Z1r (rel:=relB) st ev p fun ρ1 H1 v x S1 st1 g1 ev1 a1 p1=>?_
    cases (show x=v from a1)
    cases v with
    | false=>exact p1.next st1 ev1
    | true =>
      refine ⟨fun σ H=>∃ (ρ:List Addr) (e:Ev) (S:Sto),Sta X.K Z ρ S H∧EvOk X.K (Wn Z ρ) ρ H e σ∧Z28 X.K Z ρ H Wx D (Y5f mt mb n e S),fun σ' H' q=>⟨n,Nat.lt_succ_self n,q⟩,⟨Z,ρ1,e,S1,st1,ev1,?_⟩⟩
      have p1:Z28 X.K Z ρ1 H1 Wx D (match mb e S1 with
        | .go (.nx e2) S2=>Y5f mt mb n e2 S2
        | .go (.ct e2) S2=>Y5f mt mb n e2 S2
        | .go (.bk e2) S2 => .go (.nx e2) S2
        | r=>r):=p1
      cases q5:mb e S1 with
      | bad=>rw [q5] at p1; exact p1
      | err C fs e6 S6=>rw [q5] at p1; exact p1
      | go o S6 =>
        rw [q5] at p1
        cases o with
        | nx e6=>exact fun ρ7 H7 σ7 st7 g7 ev7=>⟨ρ7,e6,S6,st7,ev7,Z28.shift g7 st7 p1⟩
        | ct e6=>exact fun ρ7 H7 σ7 st7 g7 ev7=>⟨ρ7,e6,S6,st7,ev7,Z28.shift g7 st7 p1⟩
        | bk e6=>exact p1
        | rt x6=>exact p1
        | rp d6=>exact p1
        | rq d6=>exact p1
def R.ne {α:Type}:R α→R α
  | .ok a S => .ok a S
  | _ => .bad
def U7 (e:Ev):List Nat→Ev
  | []=>e
  | v :: vs=>(U7 e vs).set v none
theorem Y27 (e:Ev):∀ vs:List Nat,(U7 e vs).length=e.length
  | []=>rfl
  | v :: vs=>by unfold U7; rw [List.length_set,Y27 e vs]
theorem Y69 {e:Ev} {i:Nat} {x:Bv.X}:∀ {vs:List Nat},(U7 e vs)[i]?=some (some x)→e[i]?=some (some x)∧i ∉ vs
  | [],h=>⟨h,by simp⟩
  | v :: vs,h=>by
    unfold U7 at h
    by_cases hi:v=i
    · subst hi
      by_cases hv:v < (U7 e vs).length
      · rw [List.getElem?_set_self hv] at h; cases h
      · rw [List.getElem?_eq_none (by simpa using hv)] at h; cases h
    · rw [List.getElem?_set_ne hi] at h
      obtain ⟨h1,h2⟩:=Y69 h
      exact ⟨h1,by simp only [List.mem_cons,not_or]; exact ⟨fun e=>hi e.symm,h2⟩⟩
theorem X0p {σ:L2.St} {i:Nat} {x:Option V}:∀ {vs:List Nat},i ∉ vs→σ[i]?=some x→(wipe σ vs)[i]?=some x
  | [],_,h=>h
  | v :: vs,hn,h=>by
    rw [List.mem_cons,not_or] at hn
    unfold wipe
    rw [List.getElem?_set_ne (fun z=>hn.1 z.symm)]
    exact X0p hn.2 h
theorem EvOk.wipe {K:PySem.W.Frag} {W:Wd} {ρ:List Addr} {H:Hp} {e:Ev} {σ:L2.St} (h:EvOk K W ρ H e σ) (vs:List Nat):EvOk K W ρ H (U7 e vs) (wipe σ vs) :=
  ⟨by rw [Y27,wipe_length]; exact h.len,fun i x q=>by
    obtain ⟨h1,h2⟩:=Y69 q
    obtain ⟨v,h3,h4⟩:=h.at_ i x h1
    exact ⟨v,X0p h2 h3,h4⟩⟩
def lcL (t:Tg) (l:Lk) (mt:MG Bool) (me:M) (e:Ev):List Bv.X→Sto→R (List D)
  | [],S=>if l.ok S then .ok [] S else .bad
  | x :: xs,S=>if l.ok S then (match t.asg S x e with
    | some e1=>(mt e1 S).ne.bind fun b S1=>if b then (me e1 S1).ne.bind fun y S2=>(match y with
        | .d d=>(lcL t l mt me e xs S2).bind fun ds S3 => .ok (d :: ds) S3
        | .r _ => .bad) else lcL t l mt me e xs S1
    | none => .bad) else .bad
def Y3l (ds:List D) (S:Sto):R Bv.X:=if ds.length ≤ sizeLine then .ok (.d (.lst ds)) S else .bad
def Z8m (t:Tg) (mi:MIt) (mt:MG Bool) (me:M) (vs:List Nat):M:=fun e S=>(mi e S).bind fun p S1=>(lcL t p.2 mt me (U7 e vs) p.1 S1).bind Y3l
def Z2o:MG Bool:=fun _ S => .ok true S
abbrev WX0:WX:=fun _ _ _ _=>False
theorem R.bind_assoc {α β γ:Type} (r:R α) (f:α→Sto→R β) (g:β→Sto→R γ):(r.bind f).bind g=r.bind fun a S=>(f a S).bind g:=by cases r <;> rfl
theorem Y4k {t:Tg} {l:Lk} {mt:MG Bool} {me:M} {e:Ev}:∀ {xs:List Bv.X} {S:Sto} {C fs S'},lcL t l mt me e xs S ≠ .err C fs S'
  | [],S,C,fs,S',h=>by
    simp only [lcL] at h
    split at h <;> cases h
  | x :: xs,S,C,fs,S',h=>by
    simp only [lcL] at h
    split at h
    · split at h
      · rename_i e1 _
        cases q:(mt e1 S).ne with
        | err _ _ _=>cases q2:mt e1 S <;> rw [q2] at q <;> cases q
        | bad=>rw [q] at h; cases h
        | ok b S1 =>
          rw [q] at h
          have h:(if b then (me e1 S1).ne.bind fun y S2=>(match y with
            | .d d=>(lcL t l mt me e xs S2).bind fun ds S3 => .ok (d :: ds) S3
            | .r _ => .bad) else lcL t l mt me e xs S1) = .err C fs S':=h
          cases b with
          | false=>exact Y4k h
          | true =>
            cases q3:(me e1 S1).ne with
            | err _ _ _=>cases q2:me e1 S1 <;> rw [q2] at q3 <;> cases q3
            | bad=>rw [q3] at h; cases h
            | ok y S2 =>
              rw [q3] at h
              cases y with
              | r _=>cases h
              | d d =>
                have h:((lcL t l mt me e xs S2).bind fun ds S3=>R.ok (d :: ds) S3) = .err C fs S':=h
                cases q4:lcL t l mt me e xs S2 with
                | ok _ _=>rw [q4] at h; cases h
                | bad=>rw [q4] at h; cases h
                | err C' fs' S''=>exact Y4k q4
      · cases h
    · cases h
theorem Z52 {α β:Type} {rel:Wd→List Addr→Hp→α→β→Prop} {K:PySem.W.Frag} {Z:Wd} {ρ:List Addr} {S:Sto} {e:Ev} {H:Hp} {σ:L2.St} {m:MG α} {R':β→Hp→Prop} (st:Sta K Z ρ S H) (ev:EvOk K (Wn Z ρ) ρ H e σ) {a:α} {S1:Sto} (h:(m e S).ne = .ok a S1)
    (next:∀ ρ1 H1 v,Sta K Z ρ1 S1 H1→Go ρ H ρ1 H1→EvOk K (Wn Z ρ1) ρ1 H1 e σ→rel (Wn Z ρ1) ρ1 H1 a v→R' v H1):RG rel K WX0 m σ H R':=by
  refine ⟨Z,ρ,e,S,st,ev,?_⟩
  cases q:m e S with
  | ok b S2 =>
    rw [q] at h
    cases h
    exact fun ρ1 H1 v s1 g r=>next ρ1 H1 v s1 g (ev.mv (g.mv st) g.pre) r
  | err _ _ _=>rw [q] at h; cases h
  | bad=>rw [q] at h; cases h
end
end Bv
namespace Bv
open PySem PySem.Spec L2
open PyProof.Rows hiding St
variable [HasW]
theorem X0q {σ:L2.St} {v:Nat}:∀ {vs:List Nat},v ∈ vs→(wipe σ vs).set v none=wipe σ vs
  | w :: ws,h=>by
    unfold wipe
    by_cases e:v=w
    · rw [e,List.set_set]
    · have h2:v ∈ ws:=(List.mem_cons.mp h).resolve_left e
      rw [List.set_comm _ _ (fun z=>e z.symm),X0q h2]
theorem X3d {σ:L2.St} {us:List Nat}:∀ {vs:List Nat},(∀ i ∈ vs,i ∈ us)→wipe (wipe σ us) vs=wipe σ us
  | [],_=>rfl
  | v :: vs,h=>by
    show (wipe (wipe σ us) vs).set v none=wipe σ us
    rw [X3d fun i hi=>h i (List.mem_cons_of_mem _ hi)]
    exact X0q (h v List.mem_cons_self)
theorem Z7n {σ:L2.St} (vs:List Nat):wipe (wipe σ vs) vs=wipe σ vs:=X3d fun _ h=>h
abbrev MTs (X:Cx) (Wx:WX) (ifs:List Expr) (m:MG Bool):Prop:=PTs X ifs (RB X.K Wx m)
section
variable {X:Cx} {Wx:WX} {pos:Pos} {tg iter elt c:Expr} {ifs:List Expr} {mi:MIt} {mt:MG Bool} {me:M} {t:Tg} {vs:List Nat}
theorem Z08:MTs X Wx [] Z2o:=⟨fun pins s σ H Q I h=>pts_nil.run pins s σ H Q I (by
  obtain ⟨Z,ρ,e,S,st,ev,p⟩:=h
  exact W1.ret0 p st rfl)⟩
theorem Z4g (h:MT X Wx c mt):MTs X Wx [c] mt:=pts_one h
theorem X75 (hs:∀ i ∈ t.slots,i ∈ vs) {σ:L2.St} {H:Hp} {Q:VK} (h:RE X.K Wx (Z8m t mi mt me vs) σ H Q):tLc (RG (Srv X.K) X.K Wx mi) (TGt X.K t) (RB X.K WX0 mt) (RE X.K WX0 me) vs σ H Q:=by
  obtain ⟨Z,ρ,e,S,st,ev,p⟩:=h
  refine X9 (rel:=Srv X.K) st ev p fun ρ1 H1 J p0 S1 st1 g1 ev1 srv p1=>?_
  obtain ⟨ys,l⟩:=p0
  obtain ⟨G,Y,w,sv⟩:=srv
  intro D0 hD
  have p1:Z43 X.K Z ρ1 H1 Wx σ Q ((lcL t l mt me (U7 e vs) ys S1).bind Y3l):=p1
  have sv:∀ (Z2:Wd) (ρ2:List Addr) (S2:Sto) (H2:Hp),Sta X.K Z2 ρ2 S2 H2→Mv (Wn Z ρ1) H1 (Wn Z2 ρ2) H2→ρ1 <+: ρ2→(∀ a ob u,H1 a=some (.frz ob u)→H2 a=some (.frz ob u))→l.ok S2=true→G H2 ∧
    ∀ i x H3,Y i H2 x H3→Same H2 H3∧∃ y,ys[i]?=some y∧AX X.K (Wn Z2 ρ2) ρ2 H3 y x:=sv
  have w:Walk J ys.length G Y:=w
  have evw:=ev1.wipe vs
  let Z':Wd:=fun a=>Z a ∨ a=D0
  let Pv:Nat→Hp→Prop:=fun i H=>∃ (ρ:List Addr) (S:Sto) (acc:List D) (xs:List V),Sta X.K Z' ρ S H∧ρ1 <+: ρ∧(∀ a o,a ∉ ρ1→H1 a=some o→a ∉ ρ∧H a=some o)∧(∀ a ob u,H1 a=some (.frz ob u)→H a=some (.frz ob u))∧H D0=some (.lst xs)∧AVs X.K (Wn Z' ρ) H acc xs ∧
    EvOk X.K (Wn Z' ρ) ρ H (U7 e vs) (wipe σ vs)∧Z43 X.K Z ρ1 H1 Wx σ Q ((lcL t l mt me (U7 e vs) (ys.drop i) S).bind fun ds S'=>Y3l (acc++ds) S')
  have mvOf:∀ {ρ:List Addr} {S:Sto} {H:Hp},Sta X.K Z' ρ S H→(∀ a o,a ∉ ρ1→H1 a=some o→a ∉ ρ∧H a=some o)→Mv (Wn Z ρ1) H1 (Wn Z' ρ) H:=fun {ρ S H} s k a o hn hq=>by
    have h1:a ∉ ρ1:=fun z=>hn (.inr z)
    obtain ⟨h2,h3⟩:=k a o h1 hq
    refine ⟨fun z=>?_,h3⟩
    rcases z with (z | z) | z
    · exact hn (.inl z)
    · rw [z,hD] at hq; cases hq
    · exact h2 z
  have okOf:∀ {xs:List Bv.X} {S:Sto} {acc:List D},Z43 X.K Z ρ1 H1 Wx σ Q ((lcL t l mt me (U7 e vs) xs S).bind fun ds S'=>Y3l (acc++ds) S')→l.ok S=true:=fun {xs S acc} q=>by
    cases z:l.ok S with
    | true=>rfl
    | false=>cases xs <;> (simp only [lcL,z] at q; exact q.elim)
  refine lc_it w Pv ?_ ?_ ?_ ?_
  ·
    have k:=U3 (o := .lst []) hD
    have s0:=st1.grow k
    have hnw:¬ Wn Z ρ1 D0:=st1.fresh hD
    have m0:Mv (Wn Z ρ1) H1 (Wn Z' ρ1) (upd H1 D0 (.lst [])):=fun a o hn hq=>⟨fun z=>by
      rcases z with (z | z) | z
      · exact hn (.inl z)
      · rw [z,hD] at hq; cases hq
      · exact hn (.inr z),k a o hq⟩
    refine ⟨ρ1,S1,[],[],⟨st1.nd,fun a z=>?_,st1.len,fun n o a e1 e2=>AO.mv m0 (List.prefix_refl _) (fun u q=>k _ _ q) (st1.ob n o a e1 e2)⟩,List.prefix_refl _,fun a o hn hq=>⟨hn,k a o hq⟩,fun a _ _ q=>k a _ q,upd_same, .nil,evw.mv m0 (List.prefix_refl _),?_⟩
    · rcases z with z | z
      · exact ⟨(st1.z a z).1,let ⟨o,q⟩:=(st1.z a z).2; ⟨o,k a o q⟩⟩
      · exact ⟨fun z2=>hnw (.inr (by rw [← z]; exact z2)),⟨_,by rw [z]; exact upd_same⟩⟩
    · rw [List.drop_zero]
      exact p1
  · rintro i H2 _ ⟨ρ2,S2,acc,xs,st2,pr2,k2,f2,d2,a2,ev2,q2⟩
    exact (sv Z' ρ2 S2 H2 st2 (mvOf st2 k2) pr2 f2 (okOf q2)).1
  · rintro i x H2 H3 hi ⟨ρ2,S2,acc,xs,st2,pr2,k2,f2,d2,a2,ev2,q2⟩ hy
    have hk:=okOf q2
    obtain ⟨k,y,e3,a⟩:=(sv Z' ρ2 S2 H2 st2 (mvOf st2 k2) pr2 f2 hk).2 i x H3 hy
    have st3:=st2.grow k
    have m23:Mv (Wn Z' ρ2) H2 (Wn Z' ρ2) H3:=Z5h k
    have ev3:=ev2.mv m23 (List.prefix_refl _)
    rw [Z9i e3] at q2
    simp only [lcL,hk,if_true] at q2
    cases q4:t.asg S2 y (U7 e vs) with
    | none=>rw [q4] at q2; exact q2.elim
    | some e4 =>
      rw [q4] at q2
      refine ⟨Z',ρ2,U7 e vs,S2,y,e4,st3,ev3,a,q4,fun σ5 ev5 w5=>⟨?_,?_⟩⟩
      · rw [w5 vs hs,Z7n]
      have q2:Z43 X.K Z ρ1 H1 Wx σ Q (((mt e4 S2).ne.bind fun b S1=>if b then (me e4 S1).ne.bind fun y S2=>(match y with
          | .d d=>(lcL t l mt me (U7 e vs) (ys.drop (i + 1)) S2).bind fun ds S3 => .ok (d :: ds) S3
          | .r _ => .bad) else lcL t l mt me (U7 e vs) (ys.drop (i + 1)) S1).bind fun ds S'=>Y3l (acc++ds) S'):=q2
      cases q5:(mt e4 S2).ne with
      | err _ _ _=>cases q6:mt e4 S2 <;> rw [q6] at q5 <;> cases q5
      | bad=>rw [q5] at q2; exact q2.elim
      | ok b S6 =>
        rw [q5] at q2
        refine Z52 (rel:=relB) st3 ev5 q5 fun ρ6 H6 v st6 g6 ev6 r6=>?_
        cases (show b=v from r6)
        have pr6:ρ1 <+: ρ6:=pr2.trans g6.pre
        have nD:D0 ∉ ρ2:=(st2.z D0 (.inr rfl)).1
        obtain ⟨nD6,d6⟩:=g6.keep D0 _ nD (k _ _ d2)
        have k6:∀ a o,a ∉ ρ1→H1 a=some o→a ∉ ρ6∧H6 a=some o:=fun a o h1 h2=>by
          obtain ⟨h3,h4⟩:=k2 a o h1 h2
          exact g6.keep a o h3 (k _ _ h4)
        have m36:=g6.mv st3
        have ev6':EvOk X.K (Wn Z' ρ6) ρ6 H6 (U7 e vs) (wipe σ vs):=ev3.mv m36 g6.pre
        have a6:=(a2.mv m23).mv m36
        cases b with
        | false =>
          rw [if_neg Bool.false_ne_true]
          exact ⟨ρ6,S6,acc,xs,st6,pr6,k6,fun a ob u q=>g6.fz a ob u (k _ _ (f2 a ob u q)),d6,a6,ev6',q2⟩
        | true =>
          rw [if_pos rfl]
          have q2:Z43 X.K Z ρ1 H1 Wx σ Q (((me e4 S6).ne.bind fun y S2=>(match y with
            | .d d=>(lcL t l mt me (U7 e vs) (ys.drop (i + 1)) S2).bind fun ds S3 => .ok (d :: ds) S3
            | .r _ => .bad)).bind fun ds S'=>Y3l (acc++ds) S'):=q2
          cases q7:(me e4 S6).ne with
          | err _ _ _=>cases q6:me e4 S6 <;> rw [q6] at q7 <;> cases q7
          | bad=>rw [q7] at q2; exact q2.elim
          | ok z S7 =>
            rw [q7] at q2
            refine Z52 (rel:=AX X.K) st6 ev6 q7 fun ρ7 H7 v st7 g7 ev7 r7=>?_
            cases z with
            | r _=>exact q2.elim
            | d d =>
              have q2:Z43 X.K Z ρ1 H1 Wx σ Q (((lcL t l mt me (U7 e vs) (ys.drop (i + 1)) S7).bind fun ds S3 => .ok (d :: ds) S3).bind fun ds S'=>Y3l (acc++ds) S'):=q2
              rw [R.bind_assoc] at q2
              have nD6':D0 ∉ ρ6:=nD6
              obtain ⟨nD7,d7⟩:=g7.keep D0 _ nD6' d6
              have m67:=g7.mv st6
              have a7:=a6.mv m67
              have k7:∀ a o,a ∉ ρ1→H1 a=some o→a ∉ ρ7∧H7 a=some o:=fun a o h1 h2=>by
                obtain ⟨h3,h4⟩:=k6 a o h1 h2
                exact g7.keep a o h3 h4
              cases r7 with
              | d r7 =>
                have hlen:acc.length < sizeLine:=by
                  cases q8:lcL t l mt me (U7 e vs) (ys.drop (i + 1)) S7 with
                  | bad=>rw [q8] at q2; exact q2.elim
                  | err C fs S8=>exact absurd q8 Y4k
                  | ok ds S8 =>
                    rw [q8] at q2
                    have q2:Z43 X.K Z ρ1 H1 Wx σ Q (if (acc++d :: ds).length ≤ sizeLine then .ok (.d (.lst (acc++d :: ds))) S8 else .bad):=q2
                    by_cases hl:(acc++d :: ds).length ≤ sizeLine
                    · rw [List.length_append,List.length_cons] at hl; omega
                    · rw [if_neg hl] at q2; exact q2.elim
                have wD:Wn Z' ρ7 D0 := .inl (.inr rfl)
                have m8:Mv (Wn Z' ρ7) H7 (Wn Z' ρ7) (upd H7 D0 (.lst (xs++[v]))):=fun a o hn hq=>⟨hn,by rw [upd_ne (fun z=>hn (by rw [z]; exact wD))]; exact hq⟩
                have neD:∀ b,b ∈ ρ7→b ≠ D0:=fun b hb z=>nD7 (by rw [← z]; exact hb)
                refine ⟨xs,d7,by rw [← a7.length]; exact hlen,ρ7,S7,acc++[d],xs++[v],⟨st7.nd,fun a z=>⟨(st7.z a z).1,?_⟩,st7.len,fun n o a e1 e2=>AO.mv m8 (List.prefix_refl _) (fun u q=>by rw [upd_ne (neD a (List.mem_of_getElem? e2))]; exact q) (st7.ob n o a e1 e2)⟩,pr6.trans g7.pre,fun a o h1 h2=>?_,fun a ob u q=>by rw [upd_ne (fun z=>by rw [z,hD] at q; cases q)]; exact g7.fz a ob u (g6.fz a ob u (k _ _ (f2 a ob u q))),upd_same,(a7.append (.cons r7 .nil)).mv m8,(ev6'.mv m67 g7.pre).mv m8 (List.prefix_refl _),?_⟩
                · by_cases hz:a=D0
                  · exact ⟨_,by rw [hz]; exact upd_same⟩
                  · obtain ⟨o,q⟩:=(st7.z a z).2
                    exact ⟨o,by rw [upd_ne hz]; exact q⟩
                · obtain ⟨h3,h4⟩:=k7 a o h1 h2
                  exact ⟨h3,by rw [upd_ne (fun z=>by rw [z,hD] at h2; cases h2)]; exact h4⟩
                · have e9:(fun (ds:List D) (S':Sto)=>Y3l (acc++[d]++ds) S')=fun ds S'=>Y3l (acc++(d :: ds)) S':=by
                    funext ds S'
                    rw [List.append_assoc]; rfl
                  show Z43 X.K Z ρ1 H1 Wx σ Q ((lcL t l mt me (U7 e vs) (ys.drop (i + 1)) S7).bind fun ds S'=>Y3l (acc++[d]++ds) S')
                  rw [e9]
                  exact q2
  · rintro H2 ⟨ρ2,S2,acc,xs,st2,pr2,k2,f2,d2,a2,ev2,q2⟩
    have hk:=okOf q2
    rw [List.drop_length] at q2
    simp only [lcL,hk,if_true] at q2
    have q2:Z43 X.K Z ρ1 H1 Wx σ Q (Y3l (acc++[]) S2):=q2
    rw [List.append_nil] at q2
    have q2:Z43 X.K Z ρ1 H1 Wx σ Q (if acc.length ≤ sizeLine then .ok (.d (.lst acc)) S2 else .bad):=q2
    by_cases hl:acc.length ≤ sizeLine
    · rw [if_pos hl] at q2
      have m:Mv (Wn Z' ρ2) H2 (Wn Z ρ2) H2:=fun a o hn hq=>⟨fun z=>hn (z.elim (fun z => .inl (.inl z)) .inr),hq⟩
      refine q2 ρ2 H2 (.ref D0) ⟨st2.nd,fun a z=>st2.z a (.inl z),st2.len,fun n o a e1 e2=>AO.mv m (List.prefix_refl _) (fun u q=>q) (st2.ob n o a e1 e2)⟩ ⟨pr2,k2,f2⟩ (.d (.lst (fun z=>?_) d2 (a2.mv m)))
      rcases z with z | z
      · exact st1.fresh hD (.inl z)
      · exact (st2.z D0 (.inr rfl)).1 z
    · rw [if_neg hl] at q2; exact q2.elim
theorem Z5d {scope:Scope} {own:List (Str × Nat)} (hc:X.calm=true) (hN:X.N.Nodup) (hi:MI X Wx tg iter mi) (ok:BlkOk X.N X.env.scope scope own) (hsl:∀ i ∈ t.slots,i ∈ own.map (·.2))
    (hg:∀ (s:Shared) (H:Hp) (C:Addr) (cl:List (Str × Addr)) (fp:List Addr),PG (X.blk s H scope (compEnvC scope cl C X.env) fp) tg (TGt X.K t)) (ht:∀ (s:Shared) (H:Hp) (C:Addr) (cl:List (Str × Addr)) (fp:List Addr),MTs (X.blk s H scope (compEnvC scope cl C X.env) fp) WX0 ifs mt)
    (he:∀ (s:Shared) (H:Hp) (C:Addr) (cl:List (Str × Addr)) (fp:List Addr),ME (X.blk s H scope (compEnvC scope cl C X.env) fp) WX0 elt me) (hs:∀ x,foldedSetIterable iter X.env x=pure x:=by intro _; rfl) :
    ME X Wx (.ListComp elt [⟨tg,iter,ifs,0⟩] scope pos) (Z8m t mi mt me (own.map (·.2))):=PE.of (pe_lc hc hN hi ok hg ht he hs) fun _ _ _ h=>X75 hsl h
theorem Z6t {i:Nat} {y:Str} {py spos:Pos} {scope:Scope} {own:List (Str × Nat)} (hc:X.calm=true) (hN:X.N.Nodup) (hy:X.N[i]?=some y) (hyl:X.env.scope.names.lookup y=some .local)
    (hsw:swapsWith (.ListComp elt [⟨tg,iter,ifs,0⟩] scope pos) (some (.Name y py)) spos.line X.env=pure true) (hi:MI X Wx tg iter mi) (ok:BlkOk X.N X.env.scope scope own) (hsl:∀ i ∈ t.slots,i ∈ own.map (·.2))
    (hg:∀ (s:Shared) (H:Hp) (C:Addr) (cl:List (Str × Addr)) (fp:List Addr),PG (X.blk s H scope (compEnvC scope cl C X.env) fp) tg (TGt X.K t)) (ht:∀ (s:Shared) (H:Hp) (C:Addr) (cl:List (Str × Addr)) (fp:List Addr),MTs (X.blk s H scope (compEnvC scope cl C X.env) fp) WX0 ifs mt)
    (he:∀ (s:Shared) (H:Hp) (C:Addr) (cl:List (Str × Addr)) (fp:List Addr),ME (X.blk s H scope (compEnvC scope cl C X.env) fp) WX0 elt me) (hs:∀ x,foldedSetIterable iter X.env x=pure x:=by intro _; rfl) :
    MP X Wx (.Assign [.Name y py] (.ListComp elt [⟨tg,iter,ifs,0⟩] scope pos) spos) (V0 i (Z8m t mi mt me (own.map (·.2)))):=PS.of (ps_setLc hc hN hy hyl hsw hi ok hg ht he hs) fun D σ H ⟨Z,ρ,e,S,st,ev,p⟩=>by
  refine X75 (mt:=mt) (me:=me) (t:=t) hsl ?_
  exact Z1r (rel:=AX X.K) st ev p fun ρ1 H1 v x S1 st1 g1 ev1 a1 p1=>p1.next st1 (ev1.set a1)
end
end Bv
namespace Bv
open PySem PySem.Spec L2
open PyProof.Rows hiding St
variable [HasW]
def W4e (K:PySem.W.Frag) (t:TE):TI:=fun σ H R=>t σ H fun x H1 =>
  (∃ a,x = .ref a∧(((∃ xs,SqL K H1 a xs)∧R (Itl K a) H1) ∨ ((∃ xs,SqT K H1 a xs)∧R (Itt K a) H1))) ∨ ∃ z,x = .str z∧R (Its z) H1
theorem W16 {X:Cx} {tg e:Expr} {t:TE} (he:PE X e t):PI X tg e (W4e X.K t):=⟨fun pins s σ H R I h=>thn (he.run pins s σ H _ I h) fun v s1 ⟨x,H1,I1,r1,q1⟩=>by
  rcases q1 with ⟨a,rfl,⟨⟨xs,hq⟩,q⟩ | ⟨⟨xs,hq⟩,q⟩⟩ | ⟨z,rfl,q⟩
  · cases r1
    obtain ⟨its,_,p,_⟩:=I1.list hq
    exact wpAny_pyIter_list p.isList (pi_one (tk:=s1.toks) I1 _ (turn_list a _) ⟨_,Heap.get?_push_size _ rfl,rfl,rfl⟩ q)
  · cases r1
    obtain ⟨its,_,p,_⟩:=I1.tuple hq
    exact wpAny_pyIter_tuple (show s1.heap.IsTuple a its.toArray from p) (pi_one (tk:=s1.toks) I1 _ (turn_tuple a _) ⟨_,Heap.get?_push_size _ rfl,rfl,rfl⟩ q)
  · obtain ⟨t,rfl⟩:=r1
    cases hz:z.cps.all (· < 128) with
    | false=>exact wpAny_pyIter_wide hz (pi_one (tk:=s1.toks) I1 _ (turn_str _ z t "str_iterator" (.inr rfl)) ⟨_,Heap.get?_push_size _ rfl,rfl,rfl⟩ q)
    | true=>exact wpAny_pyIter_ascii hz (pi_one (tk:=s1.toks) I1 _ (turn_str _ z t "str_ascii_iterator" (.inl rfl)) ⟨_,Heap.get?_push_size _ rfl,rfl,rfl⟩ q)⟩
def W0j (S:Sto):X→Option (List X × Lk)
  | .d (.lst ds)=>some (ds.map .d, .free)
  | .d (.tup ds)=>some (ds.map .d, .free)
  | .d (.scr ns)=>some (ns.map fun i => .d (.int i), .free)
  | .d (.str z)=>some (z.cps.toList.map fun c => .d (.str ⟨#[c]⟩), .free)
  | .d _=>none
  | .r n=>match S[n]? with
    | some (.lst xs)=>some (xs, .lst n xs)
    | _=>none
def Z05 (m:M):MIt:=fun e S=>(m e S).bind fun x S1=>Y3b (W0j S1 x) S1
theorem X36 {K:PySem.W.Frag} {a:Addr} (n:Nat):Walk (Itl K a) n (fun H=>∃ xs,xs.length=n∧SqL K H a xs) (fun i H x H'=>H'=H∧∀ xs,SqL K H a xs→xs[i]?=some x) :=
  ⟨fun i _ hi ⟨xs,e,q⟩=>⟨xs,xs[i]'(by omega),q,by simp [show i < xs.length by omega]⟩,fun _ ⟨xs,e,q⟩=>⟨xs,q,by omega⟩,fun _ _ _ _ _ _ y=>y⟩
theorem Same.rfl' {H:Hp}:Same H H:=fun _ _ q=>q
theorem Y43 {α β:Type} {F:α→β→Prop}:∀ {l:List α} {r:List β} {j:Nat} {b:β},Paired F l r→r[j]?=some b→∃ a,l[j]?=some a∧F a b
  | _,_,_,_, .nil,z=>by simp at z
  | _,_,0,_, .cons h _,z=>by simp at z; subst z; exact ⟨_,rfl,h⟩
  | _,_,j + 1,_, .cons _ t,z=>by
    obtain ⟨a,h1,h2⟩:=Y43 (j:=j) t (by simpa using z)
    exact ⟨a,by simpa using h1,h2⟩
theorem AVs.at_ {K:PySem.W.Frag} {W:Wd} {H:Hp} {ds:List D} {vs:List V} {i:Nat} {v:V} (h:AVs K W H ds vs) (e:vs[i]?=some v):∃ d,ds[i]?=some d∧AV K W H d v:=by
  have hl:=h.length
  obtain ⟨h1,h2⟩:=List.getElem?_eq_some_iff.mp e
  have hd:ds[i]?=some (ds[i]'(by omega)):=List.getElem?_eq_getElem _
  obtain ⟨u,h3,h4⟩:=h.get hd
  rw [e] at h3
  cases h3
  exact ⟨_,hd,h4⟩
theorem Y7e {K:PySem.W.Frag} {W:Wd} {H:Hp}:∀ ns:List Int,AVs K W H (ns.map D.int) (ns.map V.int)
  | [] => .nil
  | i :: r => .cons (.int i) (Y7e r)
section
variable {X:Cx} {Wx:WX} {pos p:Pos} {tg e a b:Expr} {es:List Expr} {m:M} {ms:MG (List Bv.X)}
theorem X3b {K:PySem.W.Frag} {W:Wd} {ρ:List Addr} {H:Hp} {a:Addr} {xs:List V} {ds:List D} (r:Lp K W H a xs) (hs:AVs K W H ds xs):Srv K W ρ H (ds.map .d, .free) (Itl K a) :=
  ⟨fun H=>SqL K H a xs,YAt xs,by rw [show (ds.map Bv.X.d,Lk.free).1.length=xs.length by simpa using hs.length]; exact walk_list,fun Z2 ρ2 S2 H2 st m p fz k=>⟨(m.lp r).sl,fun i x H3 y=>by
    obtain ⟨rfl,y⟩:=y
    obtain ⟨d,h1,h2⟩:=(hs.mv m).at_ y
    exact ⟨Same.rfl', .d d,by simp [h1], .d h2⟩⟩⟩
theorem Q1 (h:ME X Wx e m):MI X Wx tg e (Z05 m):=PI.of (W16 h) fun σ H R ⟨Z,ρ,e,S,st,ev,p⟩=>X9 st ev p fun ρ1 H1 v x S1 st1 g1 ev1 a1 p1=>by
  obtain ⟨w,hw,p2⟩:=p1.opt
  have fin:∀ J,Srv X.K (Wn Z ρ1) ρ1 H1 w J→R J H1:=fun J h=>W1.ret0 p2 st1 h
  cases a1 with
  | d a =>
    cases a with
    | lst w r hs=>cases hw; exact .inl ⟨_,rfl, .inl ⟨⟨_, .inl (.inl r)⟩,fin _ (X3b (.inl ⟨w, .inl r⟩) hs)⟩⟩
    | scr r =>
      rename_i q ns
      cases hw
      refine .inl ⟨_,rfl, .inl ⟨⟨_,r.sl⟩,fin _ ?_⟩⟩
      have hs:AVs X.K (Wn Z ρ1) H1 (ns.map D.int) (ns.map V.int):=Y7e ns
      have e1:(ns.map D.int).map Bv.X.d=ns.map fun i=>Bv.X.d (.int i):=by simp
      rw [← e1]
      exact X3b r hs
    | tup t hs =>
      rename_i q us ds
      cases hw
      refine .inl ⟨_,rfl, .inr ⟨⟨_,t.sq⟩,fin _ ⟨_,_,by rw [show (ds.map Bv.X.d,Lk.free).1.length=us.length by simpa using hs.length]; exact walk_tup,fun Z2 ρ2 S2 H2 st m p fz k=>⟨(m.tp t).sq,fun i x H3 y=>?_⟩⟩⟩⟩
      obtain ⟨rfl,y⟩:=y
      obtain ⟨d,h1,h2⟩:=(hs.mv m).at_ y
      exact ⟨Same.rfl', .d d,by simp [h1], .d h2⟩
    | str hz =>
      rename_i z
      cases hw
      refine .inr ⟨_,rfl,fin _ ⟨_,_,by rw [show (z.cps.toList.map fun c=>Bv.X.d (.str ⟨#[c]⟩),Lk.free).1.length=z.cps.size by simp]; exact walk_str,fun Z2 ρ2 S2 H2 st m p fz k=>⟨trivial,fun i x H3 y=>?_⟩⟩⟩
      obtain ⟨rfl,c,hc,rfl⟩:=y
      have hm:c ∈ z.cps.toList:=by
        have:=Array.mem_of_getElem? hc
        simpa using this
      have hc':=Y5d hz hm
      refine ⟨Same.rfl', .d (.str ⟨#[c]⟩),by simp [hc], .d (.str (Y3o fun c' m=>?_))⟩
      have:c'=c:=by simpa using m
      rw [this]; exact hc'
    | _=>cases hw
  | r h =>
    rename_i n a
    have hw:(match S1[n]? with
      | some (.lst xs)=>some (xs,Lk.lst n xs)
      | _=>none)=some w:=hw
    cases q:S1[n]? with
    | none=>rw [q] at hw; cases hw
    | some o =>
      rw [q] at hw
      cases o with
      | lst xs =>
        cases hw
        obtain ⟨vs,h1,h2⟩:=st1.ob n _ _ q h
        refine .inl ⟨_,rfl, .inl ⟨⟨_, .inl (.inl h1)⟩,fin _ ⟨_,_,X36 xs.length,fun Z2 ρ2 S2 H2 st m p fz k=>?_⟩⟩⟩
        have k:(match S2[n]? with
          | some (.lst zs)=>decide (zs=xs)
          | _=>false)=true:=k
        cases q2:S2[n]? with
        | none=>rw [q2] at k; cases k
        | some o2 =>
          rw [q2] at k
          cases o2 with
          | lst zs =>
            have k:zs=xs:=of_decide_eq_true k
            subst k
            have h':ρ2[n]?=some a:=by
              obtain ⟨t,rfl⟩:=p
              rw [List.getElem?_append_left (List.getElem?_eq_some_iff.mp h).1]; exact h
            obtain ⟨us,h3,h4⟩:=st.ob n _ _ q2 h'
            refine ⟨⟨us,(Paired.length h4).symm, .inl (.inl h3)⟩,fun i x H3 y=>?_⟩
            obtain ⟨rfl,y⟩:=y
            obtain ⟨b,h5,h6⟩:=Y43 h4 (y us (.inl (.inl h3)))
            exact ⟨Same.rfl',b,h5,h6⟩
          | _=>cases k
      | _=>cases hw
def ints?:List Bv.X→Option (List Int)
  | []=>some []
  | x :: r=>match X6r x,ints? r with
    | some i,some l=>some (i :: l)
    | _,_=>none
theorem Y7k {K:PySem.W.Frag} {W:Wd} {ρ:List Addr} {H:Hp}:∀ {xs:List Bv.X} {vs:List V} {l:List Int},AXs K W ρ H xs vs→ints? xs=some l→vs=l.map V.int
  | _,_,_, .nil,e=>by cases e; rfl
  | x :: r,_,l, .cons h t,e=>by
    unfold ints? at e
    cases q:X6r x with
    | none=>rw [q] at e; cases e
    | some i =>
      cases q2:ints? r with
      | none=>rw [q,q2] at e; cases e
      | some l2 =>
        rw [q,q2] at e
        cases e
        rw [h.int q,Y7k t q2]; rfl
end
end Bv
namespace Xq
open PySem PySem.Spec PyProof.Rows L2
inductive Ch (B:Heap) (H:Hp):Value→Prop
  | nil:Ch B H .none
  | cons {b:Addr} {ob:Obj} {ws:Array Value} {v:Value} (at_:B.get? b=some ob) (da:ob.data = .fields ws) (fr:H b=none) (nx:ws[2]?=some v) (rest:Ch B H v):Ch B H (.ref b)
def Ctx (B:Heap) (H:Hp) (o:Obj):Prop:=∀ ws:Array Value,o.data = .fields ws→∃ v,ws[2]?=some v∧Ch B H v
abbrev Zq (B:Heap) (H:Hp) (cls:Value) (d:Option Addr) (o:Obj):Prop:=Zc cls d o∧Ctx B H o
theorem ctx_steady {B:Heap} {H:Hp}:PXN.Steady1 (Ctx B H):=fun o v h=>by
  obtain ⟨c,d,dt,sl⟩:=o
  cases dt with
  | fields u0 =>
    intro ws e
    cases e
    obtain ⟨v2,e2,q⟩:=h u0 rfl
    exact ⟨v2,HotX.set_other (by decide) e2,q⟩
  | _=>intro ws e; cases e
theorem zq_steady {B:Heap} {H:Hp} {cls:Value} {d:Option Addr}:PXN.Steady1 (Zq B H cls d):=PXN.steady_and (PXN.steady_and PXN.steady_cls PXN.steady_dict) ctx_steady
structure Up (X:Cx) (W:WX) (u:Value) (s':Shared) (a:Addr) (B:Heap) (sI:Shared) (pins:List (Addr × Obj)) (σ:L2.St) (H:Hp) (cls:Value) (d:Option Addr):Prop where
  isA:u = .ref a
  inv:Inv X pins σ H sI
  gr:∀ b o,sI.heap.get? b=some o→b ∉ frs X.stack→B.get? b=some o
  up:sI.heap.UpToSlots s'.heap
  sky:Sky B X.stack a (Zq B H cls d) X.env.locals s'.heap
  na:H a=none
  os:s'.os=sI.os
  ag:AllBare s'.gens
  wish:W cls d σ H
def QX (X:Cx) (W:WX) (u:Value) (s':Shared):Prop:=∃ a B sI pins σ H cls d,Up X W u s' a B sI pins σ H cls d
def Tk (X:Cx) (W:WX):Prop:=∀ u s',QX X W u s'→X.xe u s'
structure Out (P:Program) (w:World) (outer:List Env) (H:Hp) (s:Shared) (E:XK) (u:Value) (s':Shared) (a:Addr) (B:Heap) (H':Hp) (cls:Value) (d:Option Addr):Prop where
  isA:u = .ref a
  fl:HandSPX.FlyingZ B outer a (Zq B H' cls d) s'.heap
  hok:HOk P w H' B
  ub:UB (frs outer) H H' s.heap B s'.heap
  na:H' a=none
  os:s'.os=s.os
  ag:AllBare s'.gens
  wish:E cls d H'
def CQ (P:Program) (w:World):CXT:=fun outer H s E u s'=>∃ a B H' cls d,Out P w outer H s E u s' a B H' cls d
section
variable {X:Cx} {pins:List (Addr × Obj)} {σ:L2.St} {H:Hp} {sI s s':Shared} {B:Heap} {W:WX} {E:XK}
theorem of_call (I:Inv X pins σ H s) (hW:∀ cls d H',E cls d H'→W cls d σ H') {u:Value} (c:CQ X.prog X.w X.stack H s E u s'):QX X W u s':=by
  obtain ⟨a,B,H',cls,d,x⟩:=c
  let keep:Addr→Bool:=fun b=>(B.get? b).isSome || decide (b ∈ frs X.stack)
  obtain ⟨G,inG,outG⟩:=restrict s'.heap keep
  have toG:∀ b o,B.get? b=some o→G.get? b=some o:=fun b o e=>(inG b (by show ((B.get? b).isSome || _)=true; rw [e]; rfl)).trans (x.fl.1 b o e)
  have frG:∀ b,b ∈ frs X.stack→G.get? b=s'.heap.get? b:=fun b hb=>inG b (by show (_ || decide _)=true; rw [decide_eq_true hb,Bool.or_true])
  have un:Un (frs X.stack) [] H H' s.heap G:=by
    refine ⟨fun b o e n hb _=>toG b o (x.ub.keep b o e n hb),fun b o e n hb _=>?_,fun b o e n _=>x.ub.free b o e n,fun b o e _=>?_,x.ub.tups,x.ub.frzs,x.ub.tbls⟩
    · rw [frG b hb]; exact x.ub.slot b o e hb
    · by_cases hb:b ∈ frs X.stack
      · rw [frG b hb]; obtain ⟨sl,q⟩:=x.ub.slot b o e hb; exact ⟨_,q⟩
      · obtain ⟨o',q⟩:=x.ub.there b o e hb; exact ⟨o',toG b o' q⟩
  have fromG:∀ b o,G.get? b=some o→s'.heap.get? b=some o∧keep b=true:=fun b o e=>by
    cases q:keep b with
    | true=>exact ⟨(inG b q).symm.trans e,rfl⟩
    | false=>rw [outG b q] at e; cases e
  refine ⟨a,B,{ s with heap:=G,gens:=s'.gens,drawn:=s'.drawn,toks:=s'.toks },pins,σ,H',cls,d,x.isA,I.call (ch:=[]) un (x.hok.kept toG) x.ag (fun _ z=>nomatch z),fun b o e hb=>?_,Heap.UpToSlots.of_keeps fun b o e=>(fromG b o e).1, .inr (.inl x.fl),x.na,x.os,x.ag,hW _ _ _ x.wish⟩
  obtain ⟨e1,k1⟩:=fromG b o e
  rcases Bool.or_eq_true_iff.mp k1 with k2 | k2
  · obtain ⟨o2,q⟩:=Option.isSome_iff_exists.mp k2
    have z:=x.fl.1 b o2 q
    rw [e1] at z; cases z; exact q
  · exact absurd (of_decide_eq_true k2) hb
theorem born {a:Addr} {oe:Obj} {vs:Array Value} {cls:Value} {d:Option Addr} (I:Inv X pins σ H sI) (k:∀ b o,sI.heap.get? b=some o→s'.heap.get? b=some o) (hne:sI.heap.get? a=none) (he:s'.heap.get? a=some oe)
    (hz:Zc cls d oe) (hx:Ctx (PySem.W.hideAll sI.heap (frs X.stack)) H oe) (hd:oe.data = .fields vs) (h1:vs[1]?=some .none) (na:H a=none) (os:s'.os=sI.os) (ag:AllBare s'.gens) (w:W cls d σ H):QX X W (.ref a) s':=by
  have none_:(PySem.W.hideAll sI.heap (frs X.stack)).get? a=none:=by
    rcases q:(PySem.W.hideAll sI.heap (frs X.stack)).get? a with _ | o
    · rfl
    · have z:=PySem.W.of_hideAll _ q
      rw [hne] at z; cases z
  have ff:s'.heap.FunFrames (PySem.W.hideAll sI.heap (frs X.stack)) X.stack:=Heap.FunFrames.of_keeps (fun b o e _=>⟨o,k b o e,rfl⟩) (funFrames_none I.stack fun b hb=>PySem.W.hideAll_none _ hb)
  exact ⟨a,_,sI,pins,σ,H,cls,d,rfl,I,fun b o e hb=>PySem.W.hideAll_get _ e hb,Heap.UpToSlots.of_keeps k, .inl ⟨fun b o e=>k b o (PySem.W.of_hideAll _ e),none_,ff,oe,vs,he,⟨hz,hx⟩,hd,h1⟩,na,os,ag,w⟩
theorem ctx_none {cls:Value} {d:Option Addr} {oe:Obj} (hz:L2N.Zn cls d oe):Ctx B H oe:=fun ws e=>⟨.none,hz.2.2 ws e, .nil⟩
theorem QX.leave (hs:X.stack=X.env :: X.outer) (hf:X.env.frame=some X.env.locals) (hex:X.ex=[]) {E₁:Value→Shared→Prop} (hW:∀ cls d σ H,W cls d σ H→E cls d H) {u:Value} (x:QX X W u s') :
    wpAny (model X.prog X.w) X.A (leaving X.env u) (fun _ s''=>CQ X.prog X.w X.outer X.H_0 X.s_0 E u s'') E₁ s':=by
  obtain ⟨a,B,sI,pins,σ,H,cls,d,rfl,I,gr,up,sky,na,os,ag,w⟩:=x
  have frames:X.A.frames=some (X.env :: X.outer):=I.ok.frames.trans (congrArg some hs)
  have hex':∀ b,b ∉ X.ex:=fun b hb=>by rw [hex] at hb; cases hb
  have away:∀ b o,X.s_0.heap.get? b=some o→b ∉ X.fs→b ∉ frs X.stack:=fun b o e hb hm=>by
    cases List.mem_cons.mp (I.stkSub b hm) with
    | inl z =>
      have l1:=Heap.lt_size e
      have l2:=I.ok.above
      rw [z] at l1
      exact Nat.lt_irrefl _ (Nat.lt_of_lt_of_le l1 l2)
    | inr z=>exact hb z
  have ends:∀ h',HandSPX.FlyingZ B X.outer a (Zq B H cls d) h'→s'.heap.UpToSlots h'→CQ X.prog X.w X.outer X.H_0 X.s_0 E (.ref a) { s' with heap:=h' }:=fun h' fl up'=>by
    have ub:UB (frs X.outer) X.H_0 H X.s_0.heap B h':=by
      refine ⟨fun b o e n hb=>gr b o (I.base.keep b o e n hb (hex' b)) (away b o e hb),fun b o e hb=>?_,fun b o e n=>I.base.free b o e n (hex' b),fun b o e hb=>?_,I.base.tups,I.base.frzs,I.base.tbls⟩
      · obtain ⟨_,o0,e0,notF⟩:=I.ok.funs.mem hb
        obtain rfl:o0=o:=by rw [e] at e0; cases e0; rfl
        obtain ⟨l1,q1⟩:=I.base.slot b o0 e (I.ok.frf b hb) hb (hex' b)
        obtain ⟨l2,q2⟩:=up b _ q1 notF
        exact up' b _ q2 notF |>.elim fun l3 q3=>⟨l3,q3⟩
      · obtain ⟨o',q1⟩:=I.base.there b o e (hex' b)
        exact ⟨o',gr b o' q1 (away b o e hb)⟩
    exact ⟨a,B,H,cls,d,rfl,fl,I.inGround gr,ub,na,os.trans I.os,ag,hW _ _ _ _ w⟩
  rw [hs] at sky
  rcases sky with ⟨b1,b2,b3,oe,vs,b4,b5,b6,b7⟩ | fl | hd
  · exact PXN.leaving_firstZ zq_steady frames b3 hf b4 b1 b2 b6 b7 b5 ends
  · exact PXN.leaves_onZ zq_steady frames hf fl ends
  · exact HandSPX.leaves_heldZ hf hd ends
theorem tk_of (hs:X.stack=X.env :: X.outer) (hf:X.env.frame=some X.env.locals) (hex:X.ex=[]) {E₁:Value→Shared→Prop}
    (hx:X.xe=fun e s'=>wpAny (model X.prog X.w) X.A (leaving X.env e) (fun _ s''=>CQ X.prog X.w X.outer X.H_0 X.s_0 E e s'') E₁ s'):Tk X (fun cls d _ H=>E cls d H):=fun u s' x=>by
  rw [hx]
  exact QX.leave (W:=fun cls d _ H=>E cls d H) hs hf hex (fun _ _ _ _ h=>h) x
theorem passAt (tk:Tk X W) (σ:L2.St):PassesAt (CQ X.prog X.w) X σ (WE W σ):=fun _ _ _ e s' I c=>tk e s' (of_call I (fun _ _ _ h=>h) c)
theorem tk0 {X:Cx}:Tk X (fun _ _ _ _=>False):=fun _ _ ⟨_,_,_,_,_,_,_,_,x⟩=>x.wish.elim
theorem ps_raiseQ {e:Expr} {t:L2.St→Hp→XK→Prop} {pos:Pos} (hc:X.calm=true) (tk:Tk X W) (he:L2N.PMk X e t):PS X (.Raise (some e) none pos) (fun _ σ H=>t σ H fun cls d H'=>W cls d σ H'):=by
  refine ⟨fun pins s σ H D I h=>?_⟩
  show wpAny _ _ (do standAt pos; raiseStmt X.env (some (do let v ← eval e X.env; standAt pos; pure v)) none) _ _ _
  refine wpAny_bind (wpAny_standAt (raise_made (I.ok.hd hc) (wpAny_bind (thn (he pins s σ H _ I h) fun u s1 hu=>wpAny_bind (wpAny_standAt (wpAny_pure ?_))))))
  obtain ⟨a,oe,vs,s2,H',cls,d,rfl,J,k,hne,ha,hz,hd,h1,na,os,ag,r,q⟩:=hu
  have L:=r (model X.prog X.w) s1.heap (J.kIn.keeps k)
  exact ⟨a,oe,vs,cls,rfl,ha,hz.1,hd,h1,L.1,L.2,tk _ _ (born J k hne ha hz.zc (ctx_none hz) hd h1 na os ag q)⟩
end
end Xq
namespace Xq
open PySem PySem.Spec PyProof.Rows L2
inductive Hc (h:Heap) (a:Addr):Value→Prop
  | nil:Hc h a .none
  | cons {b:Addr} {ob:Obj} {ws:Array Value} {v:Value} (ne:b ≠ a) (at_:h.get? b=some ob) (da:ob.data = .fields ws) (nx:ws[2]?=some v) (rest:Hc h a v):Hc h a (.ref b)
inductive Pth (h:Heap):Nat→Addr→Addr→Prop
  | here (b:Addr):Pth h 0 b b
  | step {c b c2:Addr} {oc:Obj} {ws:Array Value} {m:Nat}:h.get? c=some oc→oc.data = .fields ws→ws[2]?=some (.ref c2)→Pth h m c2 b→Pth h (m + 1) c b
theorem Pth.on {h:Heap} {m:Nat} {c b b2:Addr} {ob:Obj} {ws:Array Value} (p:Pth h m c b) (e:h.get? b=some ob) (d:ob.data = .fields ws) (n:ws[2]?=some (.ref b2)):Pth h (m + 1) c b2:=by
  induction p with
  | here b=>exact .step e d n (.here _)
  | step e1 d1 n1 _ ih=>exact .step e1 d1 n1 (ih e)
section
variable {prog:Program} {w:World} {A:Around} {E:Value→Shared→Prop} {s:Shared}
theorem unchain_code {R:Result→Shared→Prop} {a:Addr} {v:Value} (hc:Hc s.heap a v) :
    ∀ (A:Around) (b c:Addr) (t:Bool) (m:Nat),v = .ref b→Pth s.heap m c b→(t=true→1 ≤ m)→R (.ok (.ret .none)) s→codeAny (model prog w) A (.builtin "proto.unchain" ⟨[.ref a, .ref b, .ref c, .bool t],[]⟩) R s:=by
  induction hc with
  | nil=>intro A b c t m e; cases e
  | @cons b0 ob ws v2 ne0 e1 d1 n1 r1 ih =>
    intro A b c t m e p ht hR
    obtain rfl:b=b0:=by cases e; rfl
    refine codeAny_builtin HotX.entry_unchain ?_
    show wpAny _ _ (field (.ref b) 2 >>= _) _ _ s
    refine wpAny_bind (wpAny_field e1 d1 n1 ?_)
    cases r1 with
    | nil=>exact wpAny_pure hR
    | @cons b2 ob2 ws2 v3 ne e2 d2 n2 r2 =>
      have z1:¬ ((Value.ref b2 == Value.none)=true):=by simp
      have z2:¬ ((Value.ref b2 == Value.ref a)=true):=by simpa using ne
      show wpAny _ _ (if (Value.ref b2 == Value.none)=true then _ else _) _ _ s
      rw [if_neg z1]
      show wpAny _ _ (if (Value.ref b2 == Value.ref a)=true then _ else _) _ _ s
      rw [if_neg z2]
      show wpAny _ _ (if (Value.ref b2 == Value.ref c)=true then _ else _) _ _ s
      by_cases hs:(Value.ref b2 == Value.ref c)=true
      · rw [if_pos hs]
        exact wpAny_bind (wpAny_rule (wpAny_pure hR))
      · rw [if_neg hs]
        have p2:Pth s.heap (m + 1) c b2:=p.on e1 d1 n1
        cases t with
        | false =>
          refine wpAny_bind (wpAny_pure ?_)
          exact wpAny_pure ⟨Code.quiet_builtin _ (by decide +kernel),ih A b2 c true (m + 1) rfl p2 (fun _=>Nat.le_add_left _ _) hR⟩
        | true =>
          cases p with
          | here _=>exact absurd (ht rfl) (by decide)
          | @step _ _ c2 oc wc m2 f1 f2 f3 f4 =>
            refine wpAny_bind (wpAny_field f1 f2 f3 ?_)
            exact wpAny_pure ⟨Code.quiet_builtin _ (by decide +kernel),ih A b2 c2 false _ rfl (f4.on e1 d1 n1) (fun z=>by cases z) hR⟩
theorem raiseNew_chain {α:Type} {a x1:Addr} {oe:Obj} {ws:Array Value} {Q:α→Shared→Prop} (hh:A.handled=some (.ref x1)) (hc:Hc s.heap a (.ref x1)) (ha:s.heap.get? a=some oe) (da:oe.data = .fields ws) (hi:2 < ws.size)
    (hE:E (.ref a) { s with heap:=s.heap.update a (Obj.mapFields (·.setIfInBounds 2 (.ref x1))) }):wpAny (model prog w) A (raiseNew (.ref a):Sem α) Q E s:=by
  have hb:(Value.ref x1 != Value.ref a)=true:=by
    cases hc with
    | cons ne _ _ _ _=>exact HotX.ref_bne ne
  have un:∀ {Q':Value→Shared→Prop},Q' .none s→wpAny (model prog w) A (holding [Value.ref a] (runValue (.builtin "proto.unchain" ⟨[.ref a, .ref x1, .ref x1, .bool false],[]⟩))) Q' E s:=fun q =>
    wpAny_holding (wpAny_runValue (unchain_code hc _ x1 x1 false 0 rfl (.here _) (fun z=>by cases z) q))
  unfold raiseNew
  refine wpAny_bind (wpAny_handled ?_)
  rw [hh]
  first
  | (show wpAny _ _ (if (Value.ref x1 != Value.ref a)=true then _ else _) _ _ _
     rw [if_pos hb]
     exact wpAny_bind (un (wpAny_bind (HotX.chained ha da hi (wpAny_throw hE)))))
  | (show wpAny _ _ (if (Value.ref x1 != Value.ref a)=true then _ else _) _ _ _
     rw [if_pos hb]
     exact wpAny_bind (wpAny_bind (un (HotX.chained ha da hi (wpAny_throw hE)))))
  | (refine wpAny_bind ?_
     show wpAny _ _ (if (Value.ref x1 != Value.ref a)=true then _ else _) _ _ _
     rw [if_pos hb]
     exact wpAny_bind (un (HotX.chained ha da hi (wpAny_throw hE))))
end
inductive Cp (pn:List (Addr × Obj)):Value→Prop
  | nil:Cp pn .none
  | cons {b:Addr} {ob:Obj} {ws:Array Value} {v:Value} (mem:(b,ob) ∈ pn) (da:ob.data = .fields ws) (nx:ws[2]?=some v) (rest:Cp pn v):Cp pn (.ref b)
theorem Cp.mono {pn pn':List (Addr × Obj)} {v:Value} (c:Cp pn v) (k:∀ p ∈ pn,p ∈ pn'):Cp pn' v:=by
  induction c with
  | nil=>exact .nil
  | cons mem da nx _ ih=>exact .cons (k _ mem) da nx ih
section
variable {X:Cx} {pins:List (Addr × Obj)} {σ:L2.St} {H:Hp} {s:Shared}
theorem Cp.heap {h':Heap} {a:Addr} {v:Value} (c:Cp X.pn v) (I:Inv X pins σ H s) (ha:s.heap.get? a=none) (k:∀ b o,b ≠ a→s.heap.get? b=some o→h'.get? b=some o):Hc h' a v:=by
  induction c with
  | nil=>exact .nil
  | @cons b ob ws v mem da nx _ ih =>
    have e:=(I.pin (b,ob) (List.mem_append_left _ mem)).1
    have ne:b ≠ a:=fun z=>by
      have e':s.heap.get? b=some ob:=e
      rw [z,ha] at e'; cases e'
    exact .cons ne (k _ _ ne e) da nx ih
theorem Cp.ground {v:Value} (c:Cp X.pn v) (I:Inv X pins σ H s):Ch (PySem.W.hideAll s.heap (frs X.stack)) H v:=by
  induction c with
  | nil=>exact .nil
  | @cons b ob ws v mem da nx _ ih =>
    obtain ⟨e,fr,nl,nf,_⟩:=I.pin (b,ob) (List.mem_append_left _ mem)
    exact .cons (PySem.W.hideAll_get _ e fun z=>(List.mem_cons.mp (I.stkSub b z)).elim nl nf) da fr nx ih
end
end Xq
namespace Xq
open PySem PySem.Spec PyProof.Rows L2
structure Hot (X:Cx) (a:Addr) (cls:Value):Prop where
  hd:X.A.handled=some (.ref a)
  ch:Cp X.pn (.ref a)
  base:X.base.get? a=none
  obj:∃ (oe:Obj) (vs:Array Value),(a,oe) ∈ X.pn∧oe.cls=cls∧oe.data = .fields vs
abbrev suiteQ (X:Cx) (a:Addr) (pn:List (Addr × Obj)) (xe:Value→Shared→Prop):Cx:={ X with A:=X.A.mark (some (.ref a)),calm:=false,pn:=pn,xe:=xe }
theorem pa_suiteQ {X:Cx} {a:Addr} {pn:List (Addr × Obj)} {xe:Value→Shared→Prop} {e:List Expr} {t:TA} (h:PA (X.suite a pn) e t):PA (suiteQ X a pn xe) e t:=⟨fun pos pins s σ H Q I q=>by
  refine wpAny_mono (h.run pos pins s σ H Q (I.wish fun _ _=>False) q) (fun u s' z=>?_) fun _ _ z=>z.elim
  obtain ⟨v,H',J,r,k⟩:=z
  exact ⟨v,H',Inv.unwish (X:=suiteQ X a pn xe) (E:=fun _ _=>False) J,r,k⟩⟩
section
variable {X:Cx} {W:WX} {a:Addr} {cls0:Value}
theorem ps_raiseQF {e:Expr} {t:L2.St→Hp→XK→Prop} {i:Nat} {n:Str} {np pos:Pos} (ht:Hot X a cls0) (rz:Raises X cls0) (tk:Tk X W) (he:L2H.PMk5 X e t) (hN:X.N[i]?=some n) (hl:X.env.kindOf n=some .local) (hdb:(n == ("__debug__" : Str))=false) :
    PS X (.Raise (some e) (some (.Name n np)) pos) (fun _ σ H=>σ[i]?=some (some (.ref a))∧t σ H fun cls d H'=>W cls d σ H'):=by
  refine ⟨fun pins s σ H D I ⟨hi,h⟩=>?_⟩
  refine wpAny_Raise_from (thn (he pins s σ H _ I h) fun u s1 hu=>?_)
  obtain ⟨⟨b,oe,vs,sI,H',cls,d,rfl,J,k,hne,hb,hz,hd,h1,nb,os,ag,r,q⟩,h5⟩:=hu
  have J1:Inv X pins σ H' s1:=J.call' os (Un.kept k) (J.hok.kept k) ag (ch:=[]) (fun _ z=>nomatch z)
  have size:4 < vs.size:=h5 b oe vs rfl hb hd
  obtain ⟨m,hn,lk⟩:=J1.loc
  obtain ⟨u,ru,l⟩:=lk i n (.ref a) hN hi (.inl hl)
  obtain rfl:u=Value.ref a:=ru
  have hm:m n=some (.ref a):=by
    rcases l with ⟨_,z⟩ | ⟨z | z,_⟩
    · exact z
    · rw [hl] at z; cases z
    · rw [hl] at z; cases z
  refine wpAny_Name (wpAny_loadName_local J1.ok.kind hl hn hm ?_) hdb
  obtain ⟨oa,va,ma,ca,da⟩:=ht.obj
  have ga:=(J.pin (a,oa) (List.mem_append_left _ ma)).1
  have nab:a ≠ b:=fun z=>by
    have ga':sI.heap.get? a=some oa:=ga
    rw [z,hne] at ga'; cases ga'
  obtain ⟨r1,r2⟩:=r (model X.prog X.w) sI.heap J.kIn
  have R:RaiseAt (model X.prog X.w) sI.heap s1.heap b oe vs cls:=⟨hb,hz.1,hd,k,hne,r1,r2⟩
  obtain ⟨c1,c2⟩:=rz (model X.prog X.w) X.base I.ok.mod.kin
  have Rc:RaiseAt (model X.prog X.w) X.base s1.heap a oa va cls0:=⟨k _ _ ga,ca,da,J1.bk,ht.base,c1,c2⟩
  refine raise_from_tree R size (.inr ⟨a,oa,va,cls0,rfl,X.base,Rc⟩) ?_
  let h2:Heap:=(s1.heap.update b (Obj.mapFields (·.setIfInBounds 3 (.ref a)))).update b (Obj.mapFields (·.setIfInBounds 4 (.bool true)))
  have d3:=Obj.data_mapFields hd (·.setIfInBounds 3 (.ref a))
  have g3:=Heap.get?_update_self (Obj.mapFields (·.setIfInBounds 3 (.ref a))) hb (Obj.isFreed_of_fields d3)
  have d4:=Obj.data_mapFields d3 (·.setIfInBounds 4 (.bool true))
  have g4:h2.get? b=_:=Heap.get?_update_self (Obj.mapFields (·.setIfInBounds 4 (.bool true))) g3 (Obj.isFreed_of_fields d4)
  have old:∀ x o,x ≠ b→s1.heap.get? x=some o→h2.get? x=some o:=fun x o hx e=>by
    show ((s1.heap.update b _).update b _).get? x=_
    rw [Heap.get?_update_other _ _ (Ne.symm hx),Heap.get?_update_other _ _ (Ne.symm hx)]
    exact e
  have f1:((vs.setIfInBounds 3 (Value.ref a)).setIfInBounds 4 (Value.bool true))[1]?=some Value.none:=HotX.set_other (by decide) (HotX.set_other (by decide) h1)
  refine setFlight_fresh (s:={ s1 with heap:=h2 }) g4 d4 f1 ?_
  have big:2 < ((vs.setIfInBounds 3 (Value.ref a)).setIfInBounds 4 (Value.bool true)).size:=by rw [HotX.set_size,HotX.set_size]; omega
  refine raiseNew_chain (s:={ s1 with heap:=h2 }) ht.hd (ht.ch.heap J hne fun x o hx e=>old x o hx (k x o e)) g4 d4 big (tk _ _ ?_)
  have d5:=Obj.data_mapFields d4 (·.setIfInBounds 2 (.ref a))
  refine born J (fun x o e=>?_) hne (Heap.get?_update_self _ g4 (Obj.isFreed_of_fields d5)) ⟨?_,?_⟩ (fun ws e=>?_) d5 (HotX.set_other (by decide) f1) nb os ag q
  · have hx:x ≠ b:=fun z=>by rw [z,hne] at e; cases e
    show (h2.update b _).get? x=some o
    rw [Heap.get?_update_other _ _ (Ne.symm hx)]
    exact old x o hx (k x o e)
  · rw [Obj.cls_mapFields,Obj.cls_mapFields,Obj.cls_mapFields]; exact hz.1
  · rw [HandSPX.dict_mapFields,HandSPX.dict_mapFields,HandSPX.dict_mapFields]; exact hz.2.1
  · rw [d5] at e
    cases e
    refine ⟨.ref a,?_,ht.ch.ground J⟩
    first
      | exact Array.getElem?_setIfInBounds_self_of_lt big
      | simp [Array.getElem?_setIfInBounds,big]
end
end Xq
namespace Xq
open PySem PySem.Spec PyProof.Rows L2
theorem funFrames_to {h h' B:Heap} (k:∀ b o,h.get? b=some o→(∀ vs,o.data ≠ .fields vs)→∃ o',h'.get? b=some o'∧∀ vs,o'.data ≠ .fields vs):∀ {l:List Env},h.FunFrames B l→h'.FunFrames B l
  | [],_=>trivial
  | _ :: _,⟨x1,⟨L,o,x2,x3,x4,x5⟩,x6⟩=>by
    obtain ⟨o',y1,y2⟩:=k L o x4 x5
    exact ⟨x1,⟨L,o',x2,x3,y1,y2⟩,funFrames_to k x6⟩
section
variable {X:Cx} {pins:List (Addr × Obj)} {σ:L2.St} {H:Hp} {sI s:Shared} {B:Heap} {a:Addr} {Z:Obj→Prop} {i:Nat} {n:Str} {pos:Pos}
def Gone (X:Cx) (pins:List (Addr × Obj)) (σ:L2.St) (H:Hp) (B:Heap) (a:Addr) (Z:Obj→Prop) (s':Shared):Prop :=
  ∃ sI',Inv X pins σ H sI'∧(∀ b o,sI'.heap.get? b=some o→b ∉ frs X.stack→B.get? b=some o)∧sI'.heap.UpToSlots s'.heap∧HandSPX.HeldZ B X.stack a Z X.env.locals s'.heap∧s'.os=sI'.os∧AllBare s'.gens
theorem gone_held {M:Model} {A:Around} {E:Value→Shared→Prop} {Q:Unit→Shared→Prop} (hs:X.stack=X.env :: X.outer) (hf:X.env.frame=some X.env.locals) (hN:X.N.Nodup) (hi:X.N[i]?=some n) (hl:X.env.kindOf n=some .local)
    (I:Inv X pins σ H sI) (gr:∀ b o,sI.heap.get? b=some o→b ∉ frs X.stack→B.get? b=some o) (up:sI.heap.UpToSlots s.heap) (hd:HandSPX.HeldZ B X.stack a Z X.env.locals s.heap) (os:s.os=sI.os) (ag:AllBare s.gens)
    (h:∀ s',Gone X pins (σ.set i none) H B a Z s'→Q () s'):wpAny M A (do bindName X.env n .none; unbindBehindTheSuite X.env n pos) Q E s:=by
  have J:Inv X pins σ H s:=I.landed gr hd.1 up os ag
  obtain ⟨m,hn,lk⟩:=id J.loc
  have cls:(X.env.scope.kind == .class || (X.env.scope.kind == .module && X.env.locals != X.env.globals))=false:=by rw [I.ok.kind]; rfl
  refine wpAny_nameGoes_keeps hl hn cls fun h' v hn' same=>h _ ?_
  have inL:X.env.locals ∈ frs X.stack:=by rw [hs]; exact List.mem_filterMap.mpr ⟨X.env,List.mem_cons_self,hf⟩
  obtain ⟨b1,b2,b3,b4⟩:=hd
  have sb:∀ b,b ≠ X.env.locals→h'.get? b=s.heap.get? b:=same.2
  obtain ⟨G,inG,outG⟩:=restrict h' fun b=>(sI.heap.get? b).isSome
  have atG:∀ b o,sI.heap.get? b=some o→G.get? b=h'.get? b:=fun b o e=>inG b (by rw [e]; rfl)
  have fromG:∀ b o,G.get? b=some o→h'.get? b=some o∧∃ o2,sI.heap.get? b=some o2:=fun b o e=>by
    cases q:sI.heap.get? b with
    | none=>rw [outG b (by rw [q]; rfl)] at e; cases e
    | some o2=>exact ⟨(atG b o2 q).symm.trans e,o2,rfl⟩
  have firm:∀ b o,sI.heap.get? b=some o→b ∉ frs X.stack→G.get? b=some o:=fun b o e hb=>by
    rw [atG b o e,sb b fun z=>hb (z ▸ inL)]
    exact b1 b o (gr b o e hb)
  have loose:∀ b o,sI.heap.get? b=some o→(∀ vs,o.data ≠ .fields vs)→b ≠ X.env.locals→∃ sl,G.get? b=some { o with slots:=sl }:=fun b o e nf hb=>by
    rw [atG b o e,sb b hb]
    exact up b o e nf
  have frNF:∀ b ∈ frs X.stack,∀ o,sI.heap.get? b=some o→∀ vs,o.data ≠ .fields vs:=fun b hb o e=>by
    obtain ⟨_,o2,e2,q⟩:=I.stack.mem hb
    rw [e] at e2; cases e2; exact q
  have there:∀ b o,sI.heap.get? b=some o→b ≠ X.env.locals→∃ o',G.get? b=some o':=fun b o e hb=>by
    by_cases hm:b ∈ frs X.stack
    · obtain ⟨sl,q⟩:=loose b o e (frNF b hm o e) hb; exact ⟨_,q⟩
    · exact ⟨o,firm b o e hm⟩
  have below:∀ b o,X.s_0.heap.get? b=some o→b ≠ X.env.locals:=fun b o e=>Nat.ne_of_lt (Nat.lt_of_lt_of_le (Heap.lt_size e) I.ok.above)
  have out:∀ b,b ≠ X.env.locals→b ∉ X.fs→b ∉ frs X.stack:=fun b x y z=>(List.mem_cons.mp (I.stkSub b z)).elim x y
  have gL:G.get? X.env.locals=h'.get? X.env.locals:=by
    obtain ⟨_,⟨oL,_,_,eL,_⟩,_⟩:=id I.loc
    exact atG _ oL eL
  have cellG:∀ y c u,X.env.cells.lookup y=some c→s.heap.IsCell c u→G.IsCell c u:=fun y c u e z=>by
    obtain ⟨_,oc,ec,_⟩:=I.cell y c e
    obtain ⟨o2,e2,d2⟩:=z.sameBut same (I.cne y c e)
    exact ⟨o2,(atG c oc ec).trans e2,d2⟩
  have J':Inv X pins (σ.set i none) H { sI with heap:=G }:=by
    refine ⟨I.ok,I.os,I.bare,⟨fun b o e n hb hx=>firm b o (I.base.keep b o e n hb hx) (out b (below b o e) hb),fun b o e n hb hx=>?_,I.base.free,fun b o e hx=>?_,I.base.tups,I.base.frzs,I.base.tbls⟩,⟨_,hn'.at fun o e=>gL.trans e,fun j y u e1 e2 e3=>?_⟩,fun y c e=>?_,I.free,I.freeC,fun p hp=>?_,fun b ob e=>?_,by rw [List.length_set]; exact I.len⟩
    · obtain ⟨_,o2,e2,nf⟩:=I.ok.funs.mem hb
      rw [e] at e2; cases e2
      obtain ⟨l1,q1⟩:=I.base.slot b o e n hb hx
      obtain ⟨l2,q2⟩:=loose b _ q1 nf (below b o e)
      exact ⟨l2,q2⟩
    · obtain ⟨o2,q⟩:=I.base.there b o e hx
      exact there b o2 q (below b o e)
    · by_cases hj:j=i
      · rw [hj] at e2
        by_cases hlt:i < σ.length
        · rw [List.getElem?_set_self hlt] at e2; cases e2
        · rw [List.getElem?_eq_none (by rw [List.length_set]; omega)] at e2; cases e2
      · rw [List.getElem?_set_ne (Ne.symm hj)] at e2
        obtain ⟨u',r,q⟩:=lk j y u e1 e2 e3
        have yn:y ≠ n:=fun w=>hj (nodup_ix hN e1 (w ▸ hi))
        refine ⟨u',r,q.imp (fun z=>⟨z.1,(if_neg yn).trans z.2⟩) fun z=>⟨z.1,?_⟩⟩
        obtain ⟨c,ec,hcell⟩:=z.2
        exact ⟨c,ec,cellG y c _ ec hcell⟩
    · obtain ⟨u,z⟩:=J.cell y c e
      exact ⟨u,cellG y c u e z⟩
    · obtain ⟨x1,x2,x3,x4,x5⟩:=I.pin p hp
      exact ⟨firm _ _ x1 (out _ x3 x4),x2,x3,x4,x5⟩
    · refine (I.hok b ob e).stay (fun c u hc r=>firm c u r fun hm=>?_) (fun _ q=>q) fun _ _ q=>q
      have z:=I.stkFree c hm
      rcases hc with hc | hc
      · rw [hc,e] at z; cases z
      · rw [hc] at z; cases z
  refine ⟨{ sI with heap:=G },J',fun b o e hb=>?_,Heap.UpToSlots.of_keeps fun b o e=>(fromG b o e).1,⟨fun b o e=>?_,b2,funFrames_to (fun b o e nf=>?_) b3,?_⟩,os,ag⟩
  · obtain ⟨e1,o2,e2⟩:=fromG b o e
    have q:=gr b o2 e2 hb
    rw [sb b fun z=>hb (z ▸ inL),b1 b o2 q] at e1
    cases e1; exact q
  · have ne:b ≠ X.env.locals:=fun z=>by
      obtain ⟨q,_⟩:=b3.mem inL
      rw [← z,e] at q; cases q
    exact (sb b ne).trans (b1 b o e)
  · by_cases hb:b=X.env.locals
    · obtain ⟨o2,es,ep,e2,d2,_⟩:=hn'
      rw [hb]
      exact ⟨o2,e2,fun vs z=>by rw [d2] at z; cases z⟩
    · exact ⟨o,(sb b hb).trans e,nf⟩
  · obtain ⟨oe,vs,T,oT,ts,x1,x2,x3,x4,x5,x6,x7,x8,x9⟩:=b4
    obtain ⟨oL,es,ep,eL,dL,_⟩:=hn
    have notL:∀ {x o ws},s.heap.get? x=some o→o.data = .fields ws→x ≠ X.env.locals:=fun {x o ws} e d z=>by
      rw [z,eL] at e; cases e; rw [dL] at d; cases d
    exact ⟨oe,vs,T,oT,ts,(sb a (notL x1 x3)).trans x1,x2,x3,x4,x5,x6,(sb T (notL x7 x8)).trans x7,x8,x9⟩
end
end Xq
namespace Xq
open PySem PySem.Spec PyProof.Rows L2
theorem Ch.pins {B h:Heap} {H:Hp} {v:Value} (st:B.StaysIn h) (c:Ch B H v):∃ l:List (Addr × Obj),Cp l v∧∀ p ∈ l,h.get? p.1=some p.2∧H p.1=none∧(∃ o,B.get? p.1=some o)∧∀ u,p.2.data ≠ .cell u:=by
  induction c with
  | nil=>exact ⟨[], .nil,fun p hp=>by cases hp⟩
  | @cons b ob ws v at_ da fr nx _ ih =>
    obtain ⟨l,h1,h2⟩:=ih
    refine ⟨(b,ob) :: l, .cons List.mem_cons_self da nx (h1.mono fun p hp=>List.mem_cons_of_mem _ hp),fun p hp=>?_⟩
    rcases List.mem_cons.mp hp with e | hp
    · subst e
      exact ⟨st b ob at_,fr,⟨ob,at_⟩,fun u z=>by have z':ob.data = .cell u:=z; rw [da] at z'; cases z'⟩
    · exact h2 p hp
section
variable {X:Cx} {x n:Str} {c:Value} {i:Nat} {body suite:List Stmt} {b₀:Stmt} {np pos pos':Pos} {tb:WX→TS} {ts:Addr→Value→Option Addr→TS} {Wout:WX}
theorem noted {M:Model} {A:Around} {E₁:Value→Shared→Prop} {s:Shared} {B:Heap} {env:Env} {outer:List Env} {L a:Addr} {Z:Obj→Prop} {Q:Unit→Shared→Prop} (hZ:PXN.Steady1 Z) (hfr:A.frames=some (env :: outer)) (hf:env.frame=some L)
    (k:Sky B (env :: outer) a Z L s.heap) (hQ:∀ h',HandSPX.HeldZ B (env :: outer) a Z L h'→s.heap.UpToSlots h'→Q () { s with heap:=h' }):wpAny M A (noteFrame (.ref a) env) Q E₁ s:=by
  rcases k with ⟨y1,y2,y3,oe,vs,y4,y5,y6,y7⟩ | fl | hh
  · exact PXN.look_newZ hZ hfr y3 hf y4 y1 y2 y6 y7 y5 hQ
  · exact PXN.looks_onZ hZ hfr hf fl hQ
  · exact HandSPX.againZ hf hh.2.2.2 (hQ s.heap hh (Heap.UpToSlots.refl _))
theorem on_from {M:Model} {A:Around} {s:Shared} {B:Heap} {env:Env} {l:List Env} {L a:Addr} {Z:Obj→Prop} {fl:Value} {what:String} {Q:Flow→Shared→Prop} {E:Value→Shared→Prop} (hf:env.frame=some L)
    (b1:B.StaysIn s.heap) (b2:B.get? a=none) (b3:s.heap.FunFrames B l) (b4:HandSPX.TracedZ s.heap B a Z fl) (hE:∀ h',HandSPX.HeldZ B l a Z L h'→s.heap.UpToSlots h'→E (.ref a) { s with heap:=h' }):wpAny M A (passOn what (.ref a) env:Sem Flow) Q E s:=by
  obtain ⟨oe,vs,T,oT,ws,he,hz,hd,h1,hr⟩:=id b4
  unfold PySem.passOn
  refine wpAny_bind (wpAny_field he hd h1 ?_)
  rw [if_neg (show ¬ ((Value.ref T == Value.none)=true) from by simp)]
  have fin:wpAny M A (setFlight (.ref a) env.frame) (fun _ s4=>wpAny M A (throw (.ref a):Sem Flow) Q E s4) E s:=by
    rw [hf]
    exact HandSPX.setFlight_anyZ b1 b3 b4 fun h' k1 k2 k3 k4=>wpAny_throw (hE h' ⟨k1,b2,k2,k3⟩ k4)
  first
    | exact wpAny_bind (wpAny_pure (wpAny_bind fin))
    | exact wpAny_bind fin
theorem ps_try_asQ (hs:X.stack=X.env :: X.outer) (hf:X.env.frame=some X.env.locals) (hN:X.N.Nodup) (hi:X.N[i]?=some n) (hln:X.env.kindOf n=some .local) (hc:Names X x c)
    (hpa:∀ hd:Option Value,PassesOwnAt (model X.prog X.w) (X.A.mark hd) X.A X.env X.xe) (tk:Tk X Wout)
    (hb:∀ (W:WX) (pn:List (Addr × Obj)) (xe:Value→Shared→Prop),Tk (X.tr pn xe) W→PassesOwn (model X.prog X.w) X.A X.env xe→PSs (X.tr pn xe) body (tb W))
    (hsu:∀ (a:Addr) (oe:Obj) (cls:Value) (d:Option Addr) (pn:List (Addr × Obj)) (xe:Value→Shared→Prop),Zc cls d oe→(∃ vs,oe.data = .fields vs)→Hot (suiteQ X a ((a,oe) :: pn) xe) a cls →
      Tk (suiteQ X a ((a,oe) :: pn) xe) (fun cls d σ H=>Wout cls d (σ.set i none) H)→PSs (suiteQ X a ((a,oe) :: pn) xe) (b₀ :: suite) (ts a cls d)) :
    PS X (.Try body [.ExceptHandler (some (.Name x np)) (some n) (b₀ :: suite) pos'] [] [] pos) (fun D σ H=>tb (wAs X.K c i ts Wout D) D σ H):=by
  refine ⟨fun pins s σ H D I h=>?_⟩
  have ok:=I.ok
  have frames:X.A.frames=some (X.env :: X.outer):=ok.frames.trans (congrArg some hs)
  have loc:Loc X.env.scope n := .inl hln
  refine wpAny_Try_except ?_
  let xeB:Value→Shared→Prop:=fun e s₁=>wpAny (model X.prog X.w) X.A (noteFrame e X.env) (fun _ s₂=>wpAny (model X.prog X.w) X.A (setFlight e none) (fun _ s₃ =>
    wpAny (model X.prog X.w) X.A (handleBy e X.env [.ExceptHandler (some (.Name x np)) (some n) (b₀ :: suite) pos']) (SP X pins D) X.xe s₃) X.xe s₂) X.xe s₁
  refine wpAny_mono ((hb (wAs X.K c i ts Wout D) (X.pn++pins) xeB (fun u s' up0=>?_) PassesOwn.looking).run [] s σ H D (I.toTry _) h) (fun f s1 hsp=>?_) (fun e s1 he=>he)
  · obtain ⟨a,B,sI,pins',σ1,H1,cls,d,rfl,J0,gr,up,sky0,na,os,ag,b,hb1,hyes,hno⟩:=up0
    have J:Inv X pins σ1 H1 sI:=J0.ofTry ok
    have sky:Sky B (X.env :: X.outer) a (Zq B H1 cls d) X.env.locals s'.heap:=by rw [← hs]; exact sky0
    show wpAny (model X.prog X.w) X.A (noteFrame (.ref a) X.env) _ _ _
    refine L2N.Sky.land zq_steady frames hf sky fun h3 fl3 up3=>?_
    have X6p:∀ h4,HandSPX.FlyingZ B (X.env :: X.outer) a (Zq B H1 cls d) h4→s'.heap.UpToSlots h4→∀ (xe:Value→Shared→Prop),∃ oe pn,(∀ p ∈ X.pn++pins,p ∈ pn)∧Zq B H1 cls d oe∧(∃ vs,oe.data = .fields vs)∧h4.get? a=some oe∧Inv (suiteQ X a ((a,oe) :: pn) xe) [] σ1 H1 { s' with heap:=h4 }∧Hot (suiteQ X a ((a,oe) :: pn) xe) a cls:=by
      intro h4 fl4 up4 xe
      have J4:Inv X pins σ1 H1 { s' with heap:=h4 }:=J.landed gr fl4.1 (up.trans up4) os ag
      obtain ⟨oe,vs,he,hz,hd⟩:=fl4.there
      obtain ⟨v,hv,cv⟩:=hz.2 vs hd
      obtain ⟨l,cl,hl⟩:=cv.pins fl4.1
      have notFr:∀ b,b ∈ frs (X.env :: X.outer)→B.get? b=none:=fun b hb=>(fl4.2.2.1.mem hb).1
      have aFr:a ∉ frs (X.env :: X.outer):=fun hm=>by
        obtain ⟨_,o2,e2,q⟩:=fl4.2.2.1.mem hm
        rw [he] at e2; cases e2
        exact q _ hd
      have isL:X.env.locals ∈ frs (X.env :: X.outer):=List.mem_filterMap.mpr ⟨X.env,List.mem_cons_self,hf⟩
      have inF:∀ b,b ∈ X.fs→b ∈ frs (X.env :: X.outer):=fun b hb=>by
        obtain ⟨e,m,q⟩:=List.mem_filterMap.mp hb
        exact List.mem_filterMap.mpr ⟨e,List.mem_cons_of_mem _ m,q⟩
      refine ⟨oe,l++(X.pn++pins),fun p hp=>List.mem_append_right _ hp,hz,⟨vs,hd⟩,he,⟨⟨J4.ok.mod,J4.ok.kind,J4.ok.glob,J4.ok.blt,J4.ok.above,J4.ok.inj,J4.ok.has,J4.ok.cab,(fun z=>absurd (show false=true from z) Bool.false_ne_true),J4.ok.frames,J4.ok.stk,J4.ok.exf,J4.ok.bs,J4.ok.bsz,J4.ok.noex,J4.ok.exfs,J4.ok.funs,J4.ok.frf⟩,J4.os,J4.bare,J4.base,J4.loc,J4.cell,J4.free,J4.freeC,fun p hp=>?_,J4.hok,J4.len⟩,⟨rfl,?_,?_,oe,vs,List.mem_cons_self,hz.1.1,hd⟩⟩
      · have hp':p ∈ (a,oe) :: (l++(X.pn++pins)):=by rw [List.append_nil] at hp; exact hp
        rcases List.mem_cons.mp hp' with e | hp'
        · subst e
          exact ⟨he,na,fun z=>aFr (by rw [show a=X.env.locals from z]; exact isL),fun z=>aFr (inF _ z),fun u z=>by have z':oe.data = .cell u:=z; rw [hd] at z'; cases z'⟩
        · rcases List.mem_append.mp hp' with hp' | hp'
          · obtain ⟨y1,y2,⟨o,y3⟩,y4⟩:=hl p hp'
            refine ⟨y1,y2,(?_:p.1 ≠ X.env.locals),(?_:p.1 ∉ X.fs),y4⟩
            · intro z
              rw [z,notFr _ isL] at y3
              cases y3
            · intro z
              rw [notFr _ (inF _ z)] at y3
              cases y3
          · exact J4.pin p hp'
      · exact .cons List.mem_cons_self hd hv (cl.mono fun p hp=>List.mem_cons_of_mem _ (List.mem_append_left _ hp))
      · rcases q:X.base.get? a with _ | o
        · rfl
        · have q1:=J.bk a o q
          have q2:a ∉ frs X.stack:=by rw [hs]; exact aFr
          have q3:=gr a o q1 q2
          rw [fl4.2.1] at q3; cases q3
    obtain ⟨oe3,pn3,_,hz3,_,he3,S3,_⟩:=X6p h3 fl3 up3 fun _ _=>False
    refine wpAny_handleBy_cons (codeAny_handlers_test ?_) (by intro q; cases q)
    have LT:PySem.W.Looks (model X.prog X.w) h3 (typeOf (.ref a)) cls:=fun A Q E s k q=>wpAny_typeOf_ref (k _ _ he3) (by rw [hz3.1.1]; exact q)
    have LM:=PySem.W.exm_one (M:=model X.prog X.w) S3.kIn LT hb1
    have test:∀ {Q E:Value→Shared→Prop},Q c { s' with heap:=h3 }→wpAny (model X.prog X.w) (X.A.mark (some (.ref a))) (eval (.Name x np) X.env) Q E { s' with heap:=h3 }:=fun {Q E} q=>by
      obtain ⟨g1,g2,g3 | ⟨g3,g4,g5⟩⟩:=hc
      · exact ld_glob (X:=suiteQ X a ((a,oe3) :: pn3) fun _ _=>False) S3 g1 g3 q g2
      · exact ld_blt (X:=suiteQ X a ((a,oe3) :: pn3) fun _ _=>False) S3 g1 g3 g4 q g5 g2
    refine test (LM.here ?_)
    cases b with
    | false =>
      show wpAny _ X.A (handleBy (.ref a) X.env []) _ _ _
      refine wpAny_handleBy_nil ?_
      obtain ⟨k1,k2,k3,k4⟩:=id fl3
      exact on_from (s:={ s' with heap:=h3 }) hf k1 k2 k3 k4 fun h4 hh4 up4=>tk _ _ ⟨a,B,sI,pins,σ1,H1,cls,d,rfl,J,gr,(up.trans up3).trans up4, .inr (.inr (by rw [hs]; exact hh4)),na,os,ag,hno rfl⟩
    | true =>
      refine codeAny_handlers_suite_as ?_
      refine HandSPX.lands_againZ fl3 fun h4 fl4 up4=>?_
      obtain ⟨oe,pn,sub,hz,hd,he,S4,hot⟩:=X6p h4 fl4 (up3.trans up4) (AsSuiteRaised (model X.prog X.w) (X.A.mark (some (.ref a))) X.env n pos' (notedBy (model X.prog X.w) (X.A.mark (some (.ref a))) X.env (cameBackBy (model X.prog X.w) X.A X.env X.xe)))
      have back:∀ {xe σ2 H2 s2 pin2},Inv (suiteQ X a ((a,oe) :: pn) xe) pin2 σ2 H2 s2→Inv X pins σ2 H2 s2:=fun {xe σ2 H2 s2 pin2} K =>
        ⟨ok,K.os,K.bare,K.base,K.loc,K.cell,K.free,K.freeC,fun p hp=>K.pin p (List.mem_append_left _ (List.mem_cons_of_mem _ (sub p hp))),K.hok,K.len⟩
      refine store_ok (X:=suiteQ X a ((a,oe) :: pn) _) (v := .ref a) S4 hN hi loc rfl (fun s5 S5=>?_) (.inr hln)
      have tkS:Tk (suiteQ X a ((a,oe) :: pn) (AsSuiteRaised (model X.prog X.w) (X.A.mark (some (.ref a))) X.env n pos' (notedBy (model X.prog X.w) (X.A.mark (some (.ref a))) X.env (cameBackBy (model X.prog X.w) X.A X.env X.xe)))) (fun cls d σ H=>Wout cls d (σ.set i none) H):=fun u2 s2 x2=>by
        obtain ⟨a2,B2,sI2,pn2,σ2,H2,cls2,d2,rfl,I2,gr2,up2,sky2,na2,os2,ag2,w2⟩:=x2
        have I2':=back I2
        have sky3:Sky B2 (X.env :: X.outer) a2 (Zq B2 H2 cls2 d2) X.env.locals s2.heap:=by rw [← hs]; exact sky2
        show wpAny _ _ (noteFrame (.ref a2) X.env) _ _ _
        refine noted zq_steady frames hf sky3 fun h5 hh5 up5=>?_
        refine gone_held (s:={ s2 with heap:=h5 }) (a:=a2) (Z:=Zq B2 H2 cls2 d2) hs hf hN hi hln I2' gr2 (up2.trans up5) (by rw [hs]; exact hh5) os2 ag2 fun s6 g6=>?_
        obtain ⟨sI6,I6,gr6,up6,⟨k1,k2,k3,k4⟩,os6,ag6⟩:=g6
        exact on_from hf k1 k2 k3 k4 fun h7 hh7 up7=>hpa _ _ _ (tk _ _ ⟨a2,B2,sI6,pins,_,H2,cls2,d2,rfl,I6,gr6,up6.trans up7, .inr (.inr hh7),na2,os6,ag6,w2⟩)
      have end_:∀ {σ6:L2.St} {H6:Hp} {s6:Shared} {Q:Shared→Prop},Inv (suiteQ X a ((a,oe) :: pn) (AsSuiteRaised (model X.prog X.w) (X.A.mark (some (.ref a))) X.env n pos' (notedBy (model X.prog X.w) (X.A.mark (some (.ref a))) X.env (cameBackBy (model X.prog X.w) X.A X.env X.xe)))) [] σ6 H6 s6→(∀ s7,Inv X pins (σ6.set i none) H6 s7→Q s7) →
          wpAny (model X.prog X.w) X.A (do bindName X.env n .none; unbindBehindTheSuite X.env n pos') (fun _ s7=>Q s7) X.xe s6:=fun {σ6 H6 s6 Q} S6 hq=>gone_ok (back S6) hN hi hln hq
      refine wpAny_mono ((hsu a oe cls d pn _ hz.1 hd hot tkS).run [] s5 _ H1 _ S5 (hyes rfl a na)) (fun f s6 hsp=>?_) (fun _ _ z=>z)
      cases f with
      | ret u =>
        obtain ⟨v6,σ6,H6,S6,r6,q6⟩:=hsp
        exact end_ S6 fun s7 J7=>⟨_,_,_,J7,r6,q6⟩
      | next=>obtain ⟨σ6,H6,S6,q6⟩:=hsp; exact end_ S6 fun s7 J7=>⟨_,_,J7,q6⟩
      | brk=>obtain ⟨σ6,H6,S6,q6⟩:=hsp; exact end_ S6 fun s7 J7=>⟨_,_,J7,q6⟩
      | cont=>obtain ⟨σ6,H6,S6,q6⟩:=hsp; exact end_ S6 fun s7 J7=>⟨_,_,J7,q6⟩
  · cases f with
    | ret u=>obtain ⟨v,σ2,H2,K,r,q⟩:=hsp; exact ⟨v,σ2,H2,K.ofTry ok,r,q⟩
    | next=>obtain ⟨σ2,H2,K,q⟩:=hsp; exact wpAny_execs_nil ⟨σ2,H2,K.ofTry ok,q⟩
    | brk=>obtain ⟨σ2,H2,K,q⟩:=hsp; exact ⟨σ2,H2,K.ofTry ok,q⟩
    | cont=>obtain ⟨σ2,H2,K,q⟩:=hsp; exact ⟨σ2,H2,K.ofTry ok,q⟩
end
end Xq
namespace Bv
open PySem PySem.Spec L2
open PyProof.Rows hiding St
variable [HasW]
structure FnG (P:Program) (w:World) (K:PySem.W.Frag) (mg:Str→Option Value) (base:Heap) (k:Nat) (f:Addr) (fd:FuncData) (ps:List Str) (sp:Sp):Prop where
  len:∀ vs H Q E,sp vs H Q E→vs.length=ps.length
  run:∀ (A:Around) (outer:List Env) (s:Shared) (H:Hp) (as:Args) (us:List Value) (vs:List V) (Q:VK) (E:XK),A.guards=some []→Room k A→Env0 P w K mg base A outer s H→BindsTo s fd as (ps.zip us)→Vals vs us→sp vs H Q E →
    codeAny (model P w) A (.call (.ref f) as) (CR (Xq.CQ P w) outer P w H s Q E) s
theorem X9a {A:Around} {C:Addr} {us:List Value} {kw:List (Str × Value)} (h:A.guards=some []):(A.under (.builtin "type.__call__" ⟨.ref C :: us,kw⟩)).guards=some []:=by
  have e:(Code.builtin "type.__call__" ⟨.ref C :: us,kw⟩).guards=[]:=by first | rfl | simp [Code.guards,Code.isGuard,guardIds]
  show pushGuards (Code.builtin "type.__call__" ⟨.ref C :: us,kw⟩).guards A.guards=some []
  rw [e]
  exact h
section
variable {P:Program} {w:World} {K:PySem.W.Frag} {mg:Str→Option Value} {base:Heap} {x qual:Str} {pa:Arguments} {bd:List Stmt} {sc:Scope} {dl:List V} {kw:List (Str × V)} {f:Addr} {fd:FuncData} {N ps:List Str} {k:Nat} {sp:Sp}
abbrev cxB (P:Program) (w:World) (K:PySem.W.Frag) (mg:Str→Option Value) (base:Heap) (N:List Str) (qual:Str) (sc:Scope) (f:Addr) (cdv:Value) (A:Around) (outer:List Env) (s:Shared) (H:Hp) (E:XK):Cx :=
  cxOf (Xq.CQ P w) P w K mg base N qual sc f cdv A outer s H E
theorem FnG.of (F:FunD K x qual pa bd sc dl kw f fd) (S:FnScope N ps sc) (len:∀ vs H Q E,sp vs H Q E→vs.length=ps.length)
    (body:∀ (cdv:Value) (A:Around) (outer:List Env) (s:Shared) (H:Hp) (vs:List V) (Q:VK) (E:XK),A.guards=some []→Room k (A.deeper (envOfC qual sc s.heap.objs.size f cdv))→sp vs H Q E →
      ∃ t,PSs (cxB P w K mg base N qual sc f cdv A outer s H E) bd t∧t { nx:=fun _ H'=>Q .non H',rt:=Q } (L2.start N vs) H):FnG P w K mg base (k + 1) f fd ps sp:=by
  obtain ⟨oc,od,dV,kV,doc,pm,an,cdv,ct,osl,rfl,look,code,_,_⟩:=F.ex
  refine ⟨len,fun A outer s H as us vs Q E gu room e0 binds rel hsp=>?_⟩
  have inK:K.In s.heap:=e0.mod.kin.keeps fun b o q=>(e0.bs b o q).1
  have nolim:s.heap.NoLimit:=e0.mod.nolimit.keeps fun b o q=>(e0.bs b o q).1
  refine codeAny_call_function room.depth (inK _ _ look) rfl S.co S.gen rfl (PySem.W.codeRec_of inK code) (binds _ _ _ _ ?_)
  refine wpAny_newFunctionEnv_cells S.kind (fun ⟨n,v⟩ m=>?_) fun env ee s1 z=>?_
  · rcases S.par n (List.of_mem_zip m).1 with q | q
    · exact .inl q
    · exact .inr ⟨q,PySem.W.cellsFrom_some _ _ _ (.inl q)⟩
  · subst ee
    refine ⟨nolim.keeps z.toInCall.keep,codeAny_func ?_⟩
    obtain ⟨t,run,q⟩:=body cdv A outer s H vs Q E gu (room.deeper _) hsp
    have I:Inv (cxB P w K mg base N qual sc f cdv A outer s H E) [] (L2.start N vs) H s1:=inv_start S room.hd e0 (len _ _ _ _ hsp) rel z
    refine wpAny_mono (run.run [] s1 (L2.start N vs) H _ I q) (fun fl s' y=>?_) fun _ _ y=>y
    cases fl with
    | ret u=>obtain ⟨v,σ',H',J,rv,q⟩:=y; exact ⟨v,H',J.os,J.bare,J.base,J.hok,rv,q⟩
    | next=>obtain ⟨σ',H',J,q⟩:=y; exact ⟨.non,H',J.os,J.bare,J.base,J.hok,rfl,q⟩
    | brk=>obtain ⟨_,_,_,q⟩:=y; exact (show False from q).elim
    | cont=>obtain ⟨_,_,_,q⟩:=y; exact (show False from q).elim
end
theorem X2d {X:Cx} {k:Nat} {f:Addr} {fd:FuncData} {ps:List Str} {sp:Sp} {dvs:List V} {ds:List Value} {E:St→XK} {pins:List (Addr × Obj)} {σ:St} {H:Hp} {s:Shared} {Q:VK} {us:List Value} {vs:List V} (F:FnG X.prog X.w X.K X.mg X.base k f fd ps sp) (gu:X.A.guards=some []) (room:Room k X.A) (hb:Binds X.K fd ps ds) (hd:Vals dvs ds) (hx:PassesAt (Xq.CQ X.prog X.w) X σ (E σ))
    (I:Inv X pins σ H s) (r:Vals vs us) (h:sp (vs++dvs) H Q (E σ)):codeAny (model X.prog X.w) X.A (.call (.ref f) ⟨us,[]⟩) (wants (EP X pins σ Q) X.xe) s:=by
  have rel:=r.append hd
  have many:(us++ds).length=ps.length:=rel.length.symm.trans (F.len _ _ _ _ h)
  refine codeAny_mono (F.run X.A X.stack s H ⟨us,[]⟩ (us++ds) (vs++dvs) Q (E σ) gu room I.env0 (hb s us I.kIn many) rel h) fun y s' z=>?_
  cases y with
  | error e=>exact hx pins H s e s' I z
  | ok fl =>
    cases fl with
    | ret u=>exact I.after z
    | next=>exact z.elim
    | brk=>exact z.elim
    | cont=>exact z.elim
omit [HasW] in
theorem X45 {P:Program} {w:World} {K:PySem.W.Frag} {mg mb:Str→Option Value} {k:Nat} {fa a:Addr} {fd:FuncData} {x:Str} {sp:Sp} {s1:Shared} {vs:List Value} {ns:List Int} (KX:K.In s1.heap) (hm:s1.heap.Ns mainGlobals mg) (hb:s1.heap.Ns builtinsNs mb) (hbb:∀ x:Str,x ≠ "__name__" → mb x=bootBuiltins x)
    (lim:s1.heap.NoLimit) (hg:s1.gens=#[]) (ha:s1.heap.get? a=some { cls := .type "list",data := .seq vs.toArray }) (hi:IntsAre vs ns) (hl:ns.length ≤ sizeLine) (room:Room k callerA) (F:∀ base:Heap,K.In base→base.Ns mainGlobals mg→FnG P w K mg base k fa fd [x] sp)
    (bind:∀ (s:Shared) (u:Value),BindsTo s fd ⟨[u],[]⟩ [(x,u)]) (hsp:∀ H:Hp,Only H→SqL K H a (ns.map V.int)→sp [.ref a] H (fun v _=>v = .bl true) fun _ _ _=>False) :
    codeAny (model P w) callerA (.call (.ref fa) ⟨[.ref a],[]⟩) (fun r s'=>r = .ok (.ret (.bool true))∧OldK s1.heap s'.heap∧s'.os=s1.os∧AllBare s'.gens) s1:=by
  have main:∀ H:Hp,Only H→SqL K H a (ns.map V.int)→HOk P w H s1.heap→(∀ b,H b ≠ none→b=a)→(H a ≠ none→K.lookup a=none) →
      codeAny (model P w) callerA (.call (.ref fa) ⟨[.ref a],[]⟩) (fun r s'=>r = .ok (.ret (.bool true))∧OldK s1.heap s'.heap∧s'.os=s1.os∧AllBare s'.gens) s1:=fun H only seq hok own out=>by
    have isA:∀ {b:Addr},H b=none ∨ b=a:=fun {b}=>Classical.byCases .inl fun z => .inr (own b z)
    have keepN:∀ {b:Addr} {o:Obj},s1.heap.get? b=some o→H b=none→(hidT s1.heap H).get? b=some o:=fun q n=>hidT_get q n
    have dictN:∀ {b:Addr} {o:Obj} {es:Array DictEntry} {ep:Nat},s1.heap.get? b=some o→o.data = .dict es ep→H b=none:=fun {b o es ep} q d=>isA.resolve_right fun z=>by
      rw [z,ha] at q
      cases q
      exact nomatch (show Data.seq vs.toArray _=Data.dict es ep from d)
    have nsN:∀ {b:Addr} {m:Str→Option Value},s1.heap.Ns b m→(hidT s1.heap H).Ns b m:=fun {b m} ⟨o,es,ep,q,d,r⟩=>⟨o,es,ep,keepN q (dictN q d),d,r⟩
    have inB:K.In (hidT s1.heap H):=fun b o q=>keepN (KX b o q) (Classical.byContradiction fun z=>by
      rw [own b z,out (by rw [← own b z]; exact z)] at q
      cases q)
    have modB:Mod K mg (hidT s1.heap H):=⟨inB,nsN hm,⟨mb,nsN hb,hbb⟩,let ⟨mc,h1,h2⟩:=lim; ⟨mc,nsN h1,h2⟩⟩
    have e0:Env0 P w K mg (hidT s1.heap H) callerA [] s1 H:=⟨rfl,modB,fun b o q=>of_hidT q,Nat.le_of_eq (hidT_size _ _),trivial,fun b z=>absurd (show b ∈ ([]:List Addr) from z) (by simp),hok, .of_eq hg⟩
    refine codeAny_mono ((F _ inB (nsN hm)).run callerA [] s1 H ⟨[.ref a],[]⟩ [.ref a] [.ref a] _ _ rfl room e0 (bind s1 (.ref a)) (.cons rfl .nil) (hsp H only seq)) fun y s' z=>?_
    cases y with
    | error e =>
      obtain ⟨_,_,_,_,_,no⟩:=z
      exact no.wish.elim
    | ok fl =>
      cases fl with
      | next=>exact z.elim
      | brk=>exact z.elim
      | cont=>exact z.elim
      | ret u =>
        obtain ⟨v,H',os,bare,un,hok',rv,q⟩:=z
        cases (show v = .bl true from q)
        cases (show u=Value.bool true from rv)
        refine ⟨rfl,OldK.of_keep fun b o e=>?_,os,bare⟩
        rcases only b with n | ⟨ob,xs,n⟩
        · exact un.keep b o e n (fun z=>absurd (show b ∈ ([]:List Addr) from z) (by simp)) (by simp)
        · obtain ⟨e1,_⟩:=hok b _ n
          obtain ⟨e2,_⟩:=hok' b _ (un.frzs b ob _ n)
          rw [e] at e1
          cases e1
          exact e2
  have rv:=vals_ints hi
  cases own:K.lookup a with
  | some o =>
    have e:=KX a o own
    rw [ha] at e
    cases e
    exact main (fun _=>none) (fun _ => .inl rfl) (.inr ⟨_,vs.toArray,_,own,rfl,rfl,rfl,by rw [List.size_toArray,hi.length]; exact hl,by simpa using rv⟩) (fun b u z=>nomatch (show (none:Option HO)=some u from z)) (fun b z=>absurd rfl z) fun z=>absurd rfl z
  | none =>
    let H0:Hp:=fun b=>if b=a then some (.frz { cls := .type "list",data := .seq vs.toArray } (.lst (ns.map V.int))) else none
    have at0:H0 a=some (.frz { cls := .type "list",data := .seq vs.toArray } (.lst (ns.map V.int))):=if_pos rfl
    have off:∀ b,b ≠ a→H0 b=none:=fun b z=>if_neg z
    refine main H0 (fun b=>?_) (.inl (.inr ⟨_,at0⟩)) (fun b u z=>?_) (fun b z=>Classical.byContradiction fun y=>z (off b y)) fun _=>own
    · by_cases y:b=a
      · exact .inr ⟨_,_,by rw [y]; exact at0⟩
      · exact .inl (off b y)
    · by_cases y:b=a
      · rw [y,at0] at z
        cases z
        rw [y]
        exact ⟨ha,by rw [List.length_map]; exact hl,vs,_,rv,ha⟩
      · rw [off b y] at z; cases z
omit [HasW] in
theorem walk_ofG {l:PySem.W.OpenLaw} {n k:Nat} {q:Program} {loose:List Str} {XP:(Str→Option Value)→Heap→Prop} {YP:World→Heap→Prop} {d:DefRec} {x:Str} (hn:l.most=some n) (hn2:n ≤ sizeLine) (hdf:d.params.defaults=[]) (room:Room k callerA)
    (F:∀ (w:World) (mg:Str→Option Value) (fa:Addr) (h:Heap),YP w h→h.Ns mainGlobals mg→mg d.name=some (.ref fa) →
      ∃ (K:PySem.W.Frag) (fd:FuncData) (sp:Sp),K.In h∧(∀ (s:Shared) (u:Value),BindsTo s fd ⟨[u],[]⟩ [(x,u)])∧(∀ (H:Hp) (a:Addr) (ns:List Int),ns.length ≤ n→Only H→SqL K H a (ns.map V.int)→sp [.ref a] H (fun v _=>v = .bl true) fun _ _ _=>False) ∧
        ∀ base:Heap,K.In base→base.Ns mainGlobals mg→FnG l.prog w K mg base k fa fd [x] sp):PySem.W.WalkO q loose XP YP l.row.toRowW d [] (fun f vs=>PySem.call f vs):=by
  refine Att.attach_call hn hdf fun w s0 s1 mg mb fa o pm cd doc a vs ns G Y _ _ _ hmg hobj hints hlen hg=>?_
  obtain ⟨K,fd,sp,KX,bind,hsp,run⟩:=F w mg fa _ Y G.T.g hmg
  exact X45 KX G.T.g G.T.b G.T.builtins G.T.nolimit hg hobj hints (Nat.le_trans hlen hn2) room run bind fun H only seq=>hsp H a ns hlen only seq
end Bv
namespace Bv
open PySem PySem.Spec L2
open PyProof.Rows hiding St
variable [HasW]
def okX (k:Nat):X→Bool
  | .d _=>true
  | .r n=>decide (n < k)
def okO (k:Nat):O→Bool
  | .lst xs=>xs.all (okX k)
  | .dic kvs=>kvs.all fun p=>okX k p.2
  | .fdc kvs=>kvs.all fun p=>okX k p.2
  | .tdc kvs=>kvs.all fun p=>okX k p.2
  | .tfc kvs=>kvs.all fun p=>okX k p.2
  | .ins _ fs=>fs.all fun p=>okX k p.2
def cut (k:Nat) (S:Sto):Option Sto:=if (S.take k).all (okO k) then some (S.take k) else none
def X6v (k:Nat) (S:Sto):X→Option X
  | .d v=>some (.d v)
  | .r n=>if decide (n < k) then some (.r n) else ((X.r n).get S).map .d
def trunc (k:Nat):R X→R X
  | .ok x S=>match X6v k S x,cut k S with
    | some y,some T => .ok y T
    | _,_ => .ok x S
  | .err C fs S=>match cut k S with
    | some T => .err C fs T
    | none => .err C fs S
  | .bad => .bad
section
variable {K:PySem.W.Frag} {Z:Wd} {ρ ρ1:List Addr} {S S1 T:Sto} {H H1:Hp}
theorem Y20 {W W':Wd} {x:X} {v:V} (p:ρ <+: ρ1) (m:Mv W H W' H) (h:okX ρ.length x=true) (a:AX K W ρ1 H x v):AX K W' ρ H x v:=by
  cases a with
  | d a=>exact .d (a.mv m)
  | r e =>
    rename_i n a
    have h:n < ρ.length:=of_decide_eq_true h
    obtain ⟨t,rfl⟩:=p
    rw [List.getElem?_append_left h] at e
    exact .r e
theorem Z8b {α β:Type} {F G:α→β→Prop} {f:α→Bool} (hf:∀ a b,f a=true→F a b→G a b):∀ {l:List α} {r:List β},l.all f=true→Paired F l r→Paired G l r
  | _,_,_, .nil => .nil
  | a :: l,_,h, .cons x t=>by
    rw [List.all_cons,Bool.and_eq_true] at h
    exact .cons (hf _ _ h.1 x) (Z8b hf h.2 t)
theorem X0z (s:Sta K Z ρ S H) (s1:Sta K Z ρ1 S1 H1) (g:Go ρ H ρ1 H1) (h:cut ρ.length S1=some T):Sta K Z ρ T H1∧Go ρ H ρ H1∧Mv (Wn Z ρ1) H1 (Wn Z ρ) H1:=by
  obtain ⟨h1,h2⟩:(S1.take ρ.length).all (okO ρ.length)=true∧T=S1.take ρ.length:=by
    unfold cut at h
    split at h
    · rename_i q; cases h; exact ⟨q,rfl⟩
    · cases h
  subst h2
  have m:Mv (Wn Z ρ1) H1 (Wn Z ρ) H1:=fun a o z q=>⟨fun w=>z (w.elim .inl fun w => .inr (g.pre.subset w)),q⟩
  have hl:ρ.length ≤ S1.length:=by rw [s1.len]; exact g.pre.length_le
  refine ⟨⟨s.nd,fun a z=>⟨(s.z a z).1,(s1.z a z).2⟩,by simp; omega,fun n o a e1 e2=>?_⟩,⟨List.prefix_refl _,fun a o z q=>⟨z,(g.keep a o z q).2⟩,g.fz⟩,m⟩
  have hn:n < ρ.length:=(List.getElem?_eq_some_iff.mp e2).1
  have e3:S1[n]?=some o:=by rw [List.getElem?_take_of_lt hn] at e1; exact e1
  have e4:ρ1[n]?=some a:=by
    obtain ⟨t,rfl⟩:=g.pre
    rw [List.getElem?_append_left hn]; exact e2
  have x:=s1.ob n o a e3 e4
  have ho:okO ρ.length o=true:=(List.all_eq_true.mp h1) o (List.mem_of_getElem? e1)
  cases o with
  | lst xs=>obtain ⟨vs,e,q⟩:=x; exact ⟨vs,e,Z8b (fun _ _=>Y20 g.pre m) ho q⟩
  | dic kvs=>obtain ⟨vs,e,q⟩:=x; exact ⟨vs,e,Z8b (f:=fun p=>okX ρ.length p.2) (fun _ _ h z=>⟨z.1,Y20 g.pre m h z.2⟩) (show (kvs.all fun p=>okX ρ.length p.2)=true from ho) q⟩
  | fdc kvs=>obtain ⟨ob,vs,e,q⟩:=x; exact ⟨ob,vs,e,Z8b (f:=fun p=>okX ρ.length p.2) (fun _ _ h z=>⟨z.1,Y20 g.pre m h z.2⟩) (show (kvs.all fun p=>okX ρ.length p.2)=true from ho) q⟩
  | tdc kvs=>obtain ⟨vs,e,q⟩:=x; exact ⟨vs,e,Z8b (f:=fun p=>okX ρ.length p.2) (fun _ _ h z=>⟨z.1,z.2.1.mv m,Y20 g.pre m h z.2.2⟩) (show (kvs.all fun p=>okX ρ.length p.2)=true from ho) q⟩
  | tfc kvs=>obtain ⟨ob,vs,e,q⟩:=x; exact ⟨ob,vs,e,Z8b (f:=fun p=>okX ρ.length p.2) (fun _ _ h z=>⟨z.1,z.2.1.mv m,Y20 g.pre m h z.2.2⟩) (show (kvs.all fun p=>okX ρ.length p.2)=true from ho) q⟩
  | ins C fs=>obtain ⟨dx,vs,e,q⟩:=x; exact ⟨dx,vs,e,Z8b (f:=fun p=>okX ρ.length p.2) (fun _ _ h z=>⟨z.1,Y20 g.pre m h z.2⟩) (show (fs.all fun p=>okX ρ.length p.2)=true from ho) q⟩
theorem X9g {x y:X} {v:V} (s:Sta K Z ρ S H) (s1:Sta K Z ρ1 S1 H1) (g:Go ρ H ρ1 H1) (m:Mv (Wn Z ρ1) H1 (Wn Z ρ) H1) (h:X6v ρ.length S1 x=some y) (a:AX K (Wn Z ρ1) ρ1 H1 x v):AX K (Wn Z ρ) ρ H1 y v:=by
  cases x with
  | d d=>cases h; exact Y20 g.pre m rfl a
  | r n =>
    have h:(if decide (n < ρ.length) then some (X.r n) else ((X.r n).get S1).map .d)=some y:=h
    by_cases hn:n < ρ.length
    · rw [if_pos (decide_eq_true hn)] at h
      cases h
      exact Y20 g.pre m (decide_eq_true hn) a
    · rw [if_neg (by simpa using hn)] at h
      obtain ⟨d,h1,h2⟩:=Option.map_eq_some_iff.mp h
      subst h2
      have w:=a.get s1 h1
      cases a with
      | r e =>
        rename_i b
        have hb:¬ Wn Z ρ b:=fun z=>by
          rcases z with z | z
          · exact (s1.z b z).1 (List.mem_of_getElem? e)
          · obtain ⟨j,hj,e5⟩:=List.getElem_of_mem z
            obtain ⟨t,rfl⟩:=g.pre
            have e6:(ρ++t)[j]?=some b:=by rw [List.getElem?_append_left hj,List.getElem?_eq_getElem hj,e5]
            have hn2:n < (ρ++t).length:=(List.getElem?_eq_some_iff.mp e).1
            have hj2:j < (ρ++t).length:=(List.getElem?_eq_some_iff.mp e6).1
            have:(ρ++t)[n]=(ρ++t)[j]:=by
              rw [List.getElem?_eq_getElem hn2] at e
              rw [List.getElem?_eq_getElem hj2] at e6
              exact Option.some.inj (e.trans e6.symm)
            have:=(List.getElem_inj s1.nd).mp this
            omega
        cases w with
        | av w=>exact .d (w.mv m)
        | lst h hs=>exact .d (.lst hb h (hs.mv m))
        | fdc h hs=>exact .d (.dic hb h (hs.mv m))
theorem Y65 {Wx:WX} {σ:St} {Q:VK} {r:R X} (s:Sta K Z ρ S H) (h:W1 (AX K) K Z ρ H Wx σ Q (trunc S.length r)):W1 (AX K) K Z ρ H Wx σ Q r:=by
  rw [s.len] at h
  cases r with
  | bad=>exact h
  | ok x T =>
    intro ρ1 H1 v s1 g a
    have h:W1 (AX K) K Z ρ H Wx σ Q (match X6v ρ.length T x,cut ρ.length T with
      | some y,some T => .ok y T
      | _,_ => .ok x T):=h
    cases q1:X6v ρ.length T x with
    | none=>rw [q1] at h; exact h ρ1 H1 v s1 g a
    | some y =>
      cases q2:cut ρ.length T with
      | none=>rw [q1,q2] at h; exact h ρ1 H1 v s1 g a
      | some T' =>
        rw [q1,q2] at h
        obtain ⟨s2,g2,m⟩:=X0z s s1 g q2
        exact h ρ H1 v s2 g2 (X9g s s1 g m q1 a)
  | err C fs T =>
    have h:W1 (AX K) K Z ρ H Wx σ Q (match cut ρ.length T with
      | some T => .err C fs T
      | none => .err C fs T):=h
    cases q2:cut ρ.length T with
    | none=>rw [q2] at h; exact h
    | some T' =>
      rw [q2] at h
      intro ρ1 H1 d s1 g z
      obtain ⟨s2,g2,m⟩:=X0z s s1 g q2
      refine h ρ H1 d s2 g2 ?_
      rcases z with z | ⟨dd,vs,z1,z2,z3,z4,z5⟩
      · exact .inl z
      · exact .inr ⟨dd,vs,z1,z2,fun w=>z3 (w.elim .inl fun w => .inr (g.pre.subset w)),z4,z5.mv m⟩
end
abbrev wxE (E:XK):WX:=fun c d _ H=>E c d H
def spE (K:PySem.W.Frag) (n:Nat) (g:List X→Sto→R X):Sp:=fun vs H Q E=>vs.length=n∧∃ (Z:Wd) (ρ:List Addr) (xs:List X) (S:Sto),Sta K Z ρ S H∧AXs K (Wn Z ρ) ρ H xs vs∧W1 (AX K) K Z ρ H (wxE E) [] Q (g xs S)
inductive PR where
  | ok (d:D) | err (C:Str) (fs:List (Str × D)) | bad
def W0w (K:PySem.W.Frag) (W:Wd) (H:Hp) (Q:VK) (E:XK):PR→Prop
  | .ok d=>∀ H' v,Same H H'→AV K W H' d v→Q v H'
  | .err C fs=>∀ H' d,Same H H'→W0t K W H H' fs d→E (.ref (He.ga K C)) d H'
  | .bad=>False
def spP (K:PySem.W.Frag) (n:Nat) (g:List D→PR):Sp:=fun vs H Q E=>vs.length=n∧∃ (W:Wd) (ds:List D),(∀ a,W a→∃ o,H a=some o)∧AVs K W H ds vs∧W0w K W H Q E (g ds)
def ev0 (N:Nat) (xs:List X):Ev:=xs.map some++List.replicate (N - xs.length) none
def W2q:RO→R X
  | .go (.nx _) S => .ok (.d .non) S
  | .go (.rt x) S => .ok x S
  | .err C fs _ S => .err C fs S
  | _ => .bad
def Y0p (N:Nat) (mb:MS) (xs:List X) (S:Sto):R X:=trunc S.length (W2q (mb (ev0 N xs) S))
def W37 (N:Nat) (mb:MS) (xs:List X) (S:Sto):R X:=W2q (mb (ev0 N xs) S)
def W2r:RO→PR
  | .go (.nx _) _ => .ok .non
  | .go (.rp d) _ => .ok d
  | .err C fs _ _ => .err C fs
  | _ => .bad
def Z53 (N:Nat) (mb:MS) (ds:List D):PR:=W2r (mb (ev0 N (ds.map .d)) [])
theorem X4p {K:PySem.W.Frag} {W:Wd} {ρ:List Addr} {H:Hp} {N:List Str} {xs:List X} {vs:List V} (a:AXs K W ρ H xs vs):EvOk K W ρ H (ev0 N.length xs) (L2.start N vs):=by
  have hl:xs.length=vs.length:=Paired.length a
  refine ⟨by simp [ev0,L2.start,hl],fun i x q=>?_⟩
  unfold ev0 at q
  by_cases hi:i < xs.length
  · rw [List.getElem?_append_left (by simpa using hi),List.getElem?_map] at q
    obtain ⟨y,h1,h2⟩:=Option.map_eq_some_iff.mp q
    cases h2
    have go:∀ {l:List X} {r:List V} {j:Nat},AXs K W ρ H l r→l[j]?=some x→∃ b,r[j]?=some b∧AX K W ρ H x b:=fun {l r j} p=>by
      induction p generalizing j with
      | nil=>intro z; simp at z
      | cons x _ ih =>
        intro z
        cases j with
        | zero=>simp at z; subst z; exact ⟨_,rfl,x⟩
        | succ n=>simp at z; obtain ⟨b,h1,h2⟩:=ih z; exact ⟨b,by simpa using h1,h2⟩
    obtain ⟨v,h3,h4⟩:=go a h1
    refine ⟨v,?_,h4⟩
    unfold L2.start
    rw [List.getElem?_append_left (by rw [List.length_map,← hl]; exact hi),List.getElem?_map,h3]; rfl
  · rw [List.getElem?_append_right (by simpa using hi)] at q
    rw [List.getElem?_replicate] at q
    split at q <;> cases q
section
variable {P:Program} {w:World} {K:PySem.W.Frag} {mg:Str→Option Value} {base:Heap} {x qual:Str} {pa:Arguments} {bd:List Stmt} {sc:Scope} {dl:List V} {kw:List (Str × V)} {f:Addr} {fd:FuncData} {N ps:List Str} {k:Nat} {mb:MS}
theorem fnE (F:FunD K x qual pa bd sc dl kw f fd) (S:FnScope N ps sc)
    (h:∀ (cdv:Value) (A:Around) (outer:List Env) (s:Shared) (H:Hp) (E:XK),A.guards=some []→Room k (A.deeper (envOfC qual sc s.heap.objs.size f cdv))→MPs (cxB P w K mg base N qual sc f cdv A outer s H E) (wxE E) bd mb) :
    FnG P w K mg base (k + 1) f fd ps (spE K ps.length (Y0p N.length mb)):=FnG.of F S (fun _ _ _ _ z=>z.1) fun cdv A outer s H vs Q E gu hr ⟨hl,Z,ρ,xs,T,st,a,p⟩=>by
  refine ⟨_,h cdv A outer s H E gu hr,Z,ρ,ev0 N.length xs,T,st,X4p a,?_⟩
  have p:=Y65 st (show W1 (AX K) K Z ρ H (wxE E) [] Q (trunc T.length (W2q (mb (ev0 N.length xs) T))) from p)
  cases q:mb (ev0 N.length xs) T with
  | bad=>rw [q] at p; exact p
  | err C fs e S'=>rw [q] at p; exact fun ρ' H' σ' d s1 g ev z=>p ρ' H' d s1 g z
  | go o S' =>
    rw [q] at p
    cases o with
    | nx e=>exact fun ρ' H' σ' s1 g ev=>p ρ' H' .non s1 g (.d .non)
    | rt x=>exact p
    | bk e=>exact p.elim
    | ct e=>exact p.elim
    | rp d=>exact p.elim
    | rq d=>exact p.elim
theorem fnR (F:FunD K x qual pa bd sc dl kw f fd) (S:FnScope N ps sc)
    (h:∀ (cdv:Value) (A:Around) (outer:List Env) (s:Shared) (H:Hp) (E:XK),A.guards=some []→Room k (A.deeper (envOfC qual sc s.heap.objs.size f cdv))→MPs (cxB P w K mg base N qual sc f cdv A outer s H E) (wxE E) bd mb) :
    FnG P w K mg base (k + 1) f fd ps (spE K ps.length (W37 N.length mb)):=FnG.of F S (fun _ _ _ _ z=>z.1) fun cdv A outer s H vs Q E gu hr ⟨hl,Z,ρ,xs,T,st,a,p⟩=>by
  refine ⟨_,h cdv A outer s H E gu hr,Z,ρ,ev0 N.length xs,T,st,X4p a,?_⟩
  have p:W1 (AX K) K Z ρ H (wxE E) [] Q (W2q (mb (ev0 N.length xs) T)):=p
  cases q:mb (ev0 N.length xs) T with
  | bad=>rw [q] at p; exact p
  | err C fs e S'=>rw [q] at p; exact fun ρ' H' σ' d s1 g ev z=>p ρ' H' d s1 g z
  | go o S' =>
    rw [q] at p
    cases o with
    | nx e=>exact fun ρ' H' σ' s1 g ev=>p ρ' H' .non s1 g (.d .non)
    | rt x=>exact p
    | bk e=>exact p.elim
    | ct e=>exact p.elim
    | rp d=>exact p.elim
    | rq d=>exact p.elim
theorem fnP (F:FunD K x qual pa bd sc dl kw f fd) (S:FnScope N ps sc)
    (h:∀ (cdv:Value) (A:Around) (outer:List Env) (s:Shared) (H:Hp) (E:XK),A.guards=some []→Room k (A.deeper (envOfC qual sc s.heap.objs.size f cdv))→MPs (cxB P w K mg base N qual sc f cdv A outer s H E) (wxE E) bd mb) :
    FnG P w K mg base (k + 1) f fd ps (spP K ps.length (Z53 N.length mb)):=FnG.of F S (fun _ _ _ _ z=>z.1) fun cdv A outer s H vs Q E gu hr ⟨hl,W,ds,hw,a,p⟩=>by
  have m0:∀ H,Mv W H (Wn W []) H:=fun H a o z q=>⟨fun y=>y.elim z (by simp),q⟩
  have m1:∀ ρ H,Mv (Wn W ρ) H W H:=fun ρ H a o z q=>⟨fun y=>z (.inl y),q⟩
  have st:Sta K W [] [] H:=⟨List.nodup_nil,fun a z=>⟨by simp,hw a z⟩,rfl,fun n o a e1 _=>by simp at e1⟩
  refine ⟨_,h cdv A outer s H E gu hr,W,[],ev0 N.length (ds.map .d),[],st,X4p (a.mv (m0 H)).axs,?_⟩
  have p:W0w K W H Q E (W2r (mb (ev0 N.length (ds.map .d)) [])):=p
  cases q:mb (ev0 N.length (ds.map .d)) [] with
  | bad=>rw [q] at p; exact p
  | err C fs e S' =>
    rw [q] at p
    refine fun ρ' H' σ' d s1 g ev z=>p H' d (fun a o q=>(g.keep a o (by simp) q).2) ?_
    rcases z with z | ⟨dd,vs,z1,z2,z3,z4,z5⟩
    · exact .inl z
    · exact .inr ⟨dd,vs,z1,z2,fun w=>z3 (.inl w),z4,z5.mv (m1 _ _)⟩
  | go o S' =>
    rw [q] at p
    cases o with
    | nx e=>exact fun ρ' H' σ' s1 g ev=>p H' .non (fun a o q=>(g.keep a o (by simp) q).2) .non
    | rp d=>exact fun H' v k a=>p H' v (fun b o q=>k b o (by simp) q) a
    | bk e=>exact p.elim
    | ct e=>exact p.elim
    | rt d=>exact p.elim
    | rq d=>exact p.elim
end
end Bv
namespace Bv
open PySem PySem.Spec L2
open PyProof.Rows hiding St
variable [HasW]
mutual
def D.noL:D→Bool
  | .lst _=>false
  | .dic _=>false
  | .scr _=>false
  | .tup ds=>D.noLs ds
  | .obj _ fs=>D.noLf fs
  | _=>true
def D.noLs:List D→Bool
  | []=>true
  | d :: r=>d.noL && D.noLs r
def D.noLf:List (Str × D)→Bool
  | []=>true
  | (_,d) :: r=>d.noL && D.noLf r
end
def X6e (W W':Wd) (H:Hp):Prop:=∀ a,W a→¬ W' a→(∃ xs,H a=some (.lst xs)) ∨ ∃ ob ks,H a=some (.frz ob (.dK ks))
theorem X9v {ds:List D} (h:(D.tup ds).noL=true):D.noLs ds=true:=by simpa [D.noL] using h
theorem X9t {C:Str} {fs:List (Str × D)} (h:(D.obj C fs).noL=true):D.noLf fs=true:=by simpa [D.noL] using h
theorem Y9e {d:D} {r:List D} (h:D.noLs (d :: r)=true):d.noL=true∧D.noLs r=true:=by simpa [D.noLs] using h
theorem Y9d {f:Str} {d:D} {r:List (Str × D)} (h:D.noLf ((f,d) :: r)=true):d.noL=true∧D.noLf r=true:=by simpa [D.noLf] using h
theorem X9s {ds:List D}:¬ (D.lst ds).noL=true:=by simp [D.noL]
theorem X9r {ds:List (D × D)}:¬ (D.dic ds).noL=true:=by simp [D.noL]
theorem X9u {ds:List Int}:¬ (D.scr ds).noL=true:=by simp [D.noL]
section
variable {K:PySem.W.Frag} {W W':Wd} {H:Hp}
mutual
theorem AV.noL (hw:X6e W W' H):∀ {d:D} {v:V},d.noL=true→AV K W' H d v→AV K W H d v
  | _,_,_, .non => .non
  | _,_,_, .bl b => .bl b
  | _,_,_, .int i => .int i
  | _,_,_, .str x => .str x
  | _,_,_, .gl x => .gl x
  | _,_,n, .tup h hs => .tup (by
      rcases h with ⟨h1,h2⟩ | h
      · refine .inl ⟨fun z=>?_,h2⟩
        rcases hw _ z h1 with ⟨xs,q⟩ | ⟨_,ks,q⟩ <;> (rw [h2] at q; cases q)
      · exact .inr h) (AVs.noL hw (X9v n) hs)
  | _,_,n, .obj h1 h2 hs => .obj (fun z=>by
      rcases hw _ z h1 with ⟨xs,q⟩ | ⟨_,ks,q⟩ <;> (rw [h2] at q; cases q)) h2 (AVf.noL hw (X9t n) hs)
  | _,_,n, .lst _ _ _=>(X9s n).elim
  | _,_,n, .dic _ _ _=>(X9r n).elim
  | _,_,n, .scr _=>(X9u n).elim
theorem AVs.noL (hw:X6e W W' H):∀ {ds:List D} {vs:List V},D.noLs ds=true→AVs K W' H ds vs→AVs K W H ds vs
  | _,_,_, .nil => .nil
  | _,_,n, .cons h hs => .cons (AV.noL hw (Y9e n).1 h) (AVs.noL hw (Y9e n).2 hs)
theorem AVf.noL (hw:X6e W W' H):∀ {ds:List (Str × D)} {vs:List (Str × V)},D.noLf ds=true→AVf K W' H ds vs→AVf K W H ds vs
  | _,_,_, .nil => .nil
  | _,_,n, .cons h hs => .cons (AV.noL hw (Y9d n).1 h) (AVf.noL hw (Y9d n).2 hs)
end
end
def X.isD:X→Bool
  | .d _=>true
  | .r _=>false
def callP (g:List D→PR) (xs:List X) (S:Sto):R X:=match X0s S xs with
  | some ds=>(match g ds with
    | .ok d=>if xs.all X.isD || d.noL then .ok (.d d) S else .bad
    | .err C fs=>if xs.all X.isD || D.noLf fs then .err C fs S else .bad
    | .bad => .bad)
  | none => .bad
section
variable {K:PySem.W.Frag} {Z:Wd} {ρ:List Addr} {S:Sto} {H:Hp}
def W0v (ρ:List Addr) (xs:List X):Wd:=fun a=>∃ n,X.r n ∈ xs∧ρ[n]?=some a
theorem lend (st:Sta K Z ρ S H) (W':Wd) (hs:∀ a,W' a→Wn Z ρ a):∀ {xs:List X} {vs:List V} {ds:List D},(∀ a,W0v ρ xs a→¬ W' a)→AXs K (Wn Z ρ) ρ H xs vs→X0s S xs=some ds→AVs K W' H ds vs
  | _,_,_,_, .nil,e=>by cases e; exact .nil
  | x :: r,_,ds,hb, .cons h t,e=>by
    unfold X0s at e
    cases q:x.get S with
    | none=>rw [q] at e; cases e
    | some d =>
      cases q2:X0s S r with
      | none=>rw [q,q2] at e; cases e
      | some l =>
        rw [q,q2] at e
        cases e
        have m:Mv (Wn Z ρ) H W' H:=fun a o z y=>⟨fun w=>z (hs a w),y⟩
        refine .cons ?_ (lend st W' hs (fun a ⟨n,h1,h2⟩=>hb a ⟨n,List.mem_cons_of_mem _ h1,h2⟩) t q2)
        have w:=h.get st q
        cases h with
        | d h=>cases q; exact h.mv m
        | r h =>
          have nb:=hb _ ⟨_,List.mem_cons_self,h⟩
          cases w with
          | av w=>exact w.mv m
          | lst h hs=>exact .lst nb h (hs.mv m)
          | fdc h hs=>exact .dic nb h (hs.mv m)
theorem X76 (st:Sta K Z ρ S H):∀ {xs:List X} {ds:List D} {a:Addr},X0s S xs=some ds→W0v ρ xs a→(∃ vs,H a=some (.lst vs)) ∨ ∃ ob ks,H a=some (.frz ob (.dK ks))
  | [],_,_,_,⟨n,h,_⟩=>by simp at h
  | x :: r,ds,a,e,⟨n,h,h2⟩=>by
    unfold X0s at e
    cases q:x.get S with
    | none=>rw [q] at e; cases e
    | some d =>
      cases q2:X0s S r with
      | none=>rw [q,q2] at e; cases e
      | some l =>
        rcases List.mem_cons.mp h with z | z
        · subst z
          have w:=(AX.r (K:=K) (W:=Wn Z ρ) (H:=H) h2).get st q
          have q':(match S[n]? with
            | some (.lst xs)=>(ds? xs).map .lst
            | some (.fdc kvs)=>(ks? kvs).map .dic
            | _=>none)=some d:=q
          cases y:S[n]? with
          | none=>rw [y] at q'; cases q'
          | some o =>
            rw [y] at q'
            have ob:=st.ob n o a y h2
            cases o with
            | lst xs=>obtain ⟨vs,h3,_⟩:=ob; exact .inl ⟨vs,h3⟩
            | fdc xs=>obtain ⟨o,vs,h3,_⟩:=ob; exact .inr ⟨o,vs,h3⟩
            | _=>cases q'
        · exact X76 st q2 ⟨n,z,h2⟩
theorem X6s {xs:List X} (h:xs.all X.isD=true) (a:Addr):¬ W0v ρ xs a:=fun ⟨n,h1,_⟩=>by
  have:=List.all_eq_true.mp h _ h1
  cases this
end
end Bv
namespace Bv
open PySem PySem.Spec L2
open PyProof.Rows hiding St
variable [HasW]
section
variable {K:PySem.W.Frag} {Z:Wd} {ρ:List Addr} {S:Sto} {H:Hp}
theorem X8k {g:List D→PR} {Wx:WX} {σ:St} {Q:VK} {xs:List X} {vs:List V} {n:Nat} (st:Sta K Z ρ S H) (a:AXs K (Wn Z ρ) ρ H xs vs) (hn:vs.length=n) (p:W1 (AX K) K Z ρ H Wx σ Q (callP g xs S)):spP K n g vs H Q (WE Wx σ):=by
  unfold callP at p
  cases q:X0s S xs with
  | none=>rw [q] at p; exact p.elim
  | some ds =>
    rw [q] at p
    have p:W1 (AX K) K Z ρ H Wx σ Q (match g ds with
      | .ok d=>if xs.all X.isD || d.noL then .ok (.d d) S else .bad
      | .err C fs=>if xs.all X.isD || D.noLf fs then .err C fs S else .bad
      | .bad => .bad):=p
    let W':Wd:=fun a=>Wn Z ρ a∧¬ W0v ρ xs a
    have only:∀ {H':Hp},Same H H'→X6e (Wn Z ρ) W' H':=fun k a h1 h2=>by
      have:W0v ρ xs a:=Classical.byContradiction fun z=>h2 ⟨h1,z⟩
      rcases X76 st q this with ⟨vs,h⟩ | ⟨o,vs,h⟩
      · exact .inl ⟨vs,k _ _ h⟩
      · exact .inr ⟨o,vs,k _ _ h⟩
    have none':xs.all X.isD=true→∀ {H':Hp},Mv W' H' (Wn Z ρ) H':=fun hd H' a o z y=>⟨fun w=>z ⟨w,X6s hd a⟩,y⟩
    refine ⟨hn,W',ds,fun a h=>st.thereW h.1,lend st W' (fun a h=>h.1) (fun a h z=>z.2 h) a q,?_⟩
    cases q2:g ds with
    | bad=>rw [q2] at p; exact p.elim
    | ok d =>
      rw [q2] at p
      have p:W1 (AX K) K Z ρ H Wx σ Q (if xs.all X.isD || d.noL then .ok (.d d) S else .bad):=p
      split at p
      · rename_i hc
        refine fun H' v k a=>p ρ H' v (st.grow k) (Go.grow k) (.d ?_)
        rcases Bool.or_eq_true_iff.mp hc with hc | hc
        · exact a.mv (none' hc)
        · exact a.noL (only k) hc
      · exact p.elim
    | err C fs =>
      rw [q2] at p
      have p:W1 (AX K) K Z ρ H Wx σ Q (if xs.all X.isD || D.noLf fs then .err C fs S else .bad):=p
      split at p
      · rename_i hc
        refine fun H' d k z=>p ρ H' d (st.grow k) (Go.grow k) ?_
        rcases z with z | ⟨dd,vs,z1,z2,z3,z4,z5⟩
        · exact .inl z
        · refine .inr ⟨dd,vs,z1,z2,fun w=>?_,z4,?_⟩
          · obtain ⟨o,e⟩:=st.thereW w
            rw [z2] at e; cases e
          · rcases Bool.or_eq_true_iff.mp hc with hc | hc
            · exact z5.mv (none' hc)
            · exact z5.noL (only k) hc
      · exact p.elim
theorem X8j {g:List X→Sto→R X} {Wx:WX} {σ:St} {Q:VK} {xs:List X} {vs:List V} {n:Nat} (st:Sta K Z ρ S H) (a:AXs K (Wn Z ρ) ρ H xs vs) (hn:vs.length=n) (p:W1 (AX K) K Z ρ H Wx σ Q (g xs S)):spE K n g vs H Q (WE Wx σ):=by
  refine ⟨hn,Z,ρ,xs,S,st,a,?_⟩
  cases q:g xs S with
  | bad=>rw [q] at p; exact p
  | ok x T=>rw [q] at p; exact p
  | err C fs T=>rw [q] at p; exact p
end
end Bv
namespace Bv
open PySem PySem.Spec L2
open PyProof.Rows hiding St
variable [HasW]
def X37 (X:Cx) (Wx:WX) (fv:Value) (n:Nat) (g:List Bv.X→Sto→R Bv.X):Prop:=∀ (pins:List (Addr × Obj)) (s:Shared) (σ:St) (H:Hp) (Q:VK) (us:List Value) (vs:List V) (Z:Wd) (ρ:List Addr) (xs:List Bv.X) (S:Sto),
  Inv X pins σ H s→Vals vs us→Sta X.K Z ρ S H→AXs X.K (Wn Z ρ) ρ H xs vs→vs.length=n→W1 (AX X.K) X.K Z ρ H Wx σ Q (g xs S)→codeAny (model X.prog X.w) X.A (.call fv ⟨us,[]⟩) (wants (EP X pins σ Q) X.xe) s
structure Dft (K:PySem.W.Frag) (dxs:List D) (dvs:List V) (ds:List Value):Prop where
  av:∀ W H,AVs K W H dxs dvs
  va:Vals dvs ds
theorem X00 {K:PySem.W.Frag}:Dft K [] [] []:=⟨fun _ _ => .nil, .nil⟩
def X5 (dxs:List D) (g:List Bv.X→Sto→R Bv.X):List Bv.X→Sto→R Bv.X:=fun xs S=>g (xs++dxs.map .d) S
section
variable {X:Cx} {Wx:WX} {k n:Nat} {f:Addr} {fd:FuncData} {ps:List Str} {dxs:List D} {dvs:List V} {ds:List Value}
theorem W04 {g:List Bv.X→Sto→R Bv.X} (tk:Xq.Tk X Wx) (gu:X.A.guards=some []) (F:FnG X.prog X.w X.K X.mg X.base k f fd ps (spE X.K n g)) (hr:Room k X.A) (hb:Binds X.K fd ps ds) (hd:Dft X.K dxs dvs ds) (hn:n - dvs.length + dvs.length=n:=by rfl) :
    X37 X Wx (.ref f) (n - dvs.length) (X5 dxs g):=fun pins s σ H Q us vs Z ρ xs S I r st a hl p =>
  X2d F gu hr hb hd.va (Xq.passAt tk σ) I r (X8j st (Paired.append a (hd.av _ _).axs) (by rw [List.length_append,hl,hn]) p)
theorem W2z {g:List D→PR} (tk:Xq.Tk X Wx) (gu:X.A.guards=some []) (F:FnG X.prog X.w X.K X.mg X.base k f fd ps (spP X.K n g)) (hr:Room k X.A) (hb:Binds X.K fd ps ds) (hd:Dft X.K dxs dvs ds) (hn:n - dvs.length + dvs.length=n:=by rfl) :
    X37 X Wx (.ref f) (n - dvs.length) (X5 dxs (callP g)):=fun pins s σ H Q us vs Z ρ xs S I r st a hl p =>
  X2d F gu hr hb hd.va (Xq.passAt tk σ) I r (X8k st (Paired.append a (hd.av _ _).axs) (by rw [List.length_append,hl,hn]) p)
def fs?:List (Str × Bv.X)→Option (List (Str × D))
  | []=>some []
  | (f,x) :: r=>match x,fs? r with
    | .d v,some l=>some ((f,v) :: l)
    | _,_=>none
def frz (S:Sto) (k:Nat):Option D:=match S[k]? with
  | some (.ins C fs)=>(fs? fs).map (.obj C)
  | _=>none
def mkF (k:Nat):R Bv.X→R Bv.X
  | .ok (.d .non) S=>(match frz S k,cut k S with
    | some d,some T => .ok (.d d) T
    | _,_ => .bad)
  | .ok _ _ => .bad
  | .err C fs S=>trunc k (.err C fs S)
  | .bad => .bad
def mkM (k:Nat):R Bv.X→R Bv.X
  | .ok (.d .non) S => .ok (.r k) S
  | .ok _ _ => .bad
  | .err C fs S=>trunc k (.err C fs S)
  | .bad => .bad
def made (C:Str) (mk:Nat→R Bv.X→R Bv.X) (g:List Bv.X→Sto→R Bv.X):List Bv.X→Sto→R Bv.X:=fun xs S=>mk S.length (g (.r S.length :: xs) (S++[.ins C []]))
def Mks (mk:Nat→R Bv.X→R Bv.X):Prop:=∀ {K:PySem.W.Frag} {Z:Wd} {ρ:List Addr} {S:Sto} {H H2:Hp} {Wx:WX} {σ:St} {Q:VK} {x:Addr} {r:R Bv.X},Sta K Z ρ S H→H x=none→(∀ a o,H a=some o→H2 a=some o)→Sta K Z (ρ++[x]) (S++[.ins (Str.empty) []]) H2 ∨ True→x ∉ ρ→Go ρ H (ρ++[x]) H2 →
  W1 (AX K) K Z ρ H Wx σ Q (mk S.length r)→W1 (AX K) K Z (ρ++[x]) H2 Wx σ (fun v H3=>v = .non∧Q (.ref x) H3) r
theorem X7w {K:PySem.W.Frag} {W:Wd} {ρ:List Addr} {H:Hp}:∀ {fs:List (Str × Bv.X)} {vs:List (Str × V)} {l:List (Str × D)},Paired (fun (p:Str × Bv.X) (q:Str × V)=>p.1=q.1∧AX K W ρ H p.2 q.2) fs vs→fs? fs=some l→AVf K W H l vs
  | _,_,_, .nil,e=>by cases e; exact .nil
  | (f,x) :: r,(f',v) :: _,l, .cons h t,e=>by
    cases x with
    | r n=>simp [fs?] at e
    | d d =>
      unfold fs? at e
      cases q:fs? r with
      | none=>rw [q] at e; cases e
      | some l2 =>
        rw [q] at e
        cases e
        obtain ⟨h1,h2⟩:=h
        obtain rfl:f=f':=h1
        cases h2 with
        | d h2=>exact .cons h2 (X7w t q)
theorem X5e {K:PySem.W.Frag} {Z:Wd} {ρ:List Addr} {S:Sto} {H H2:Hp} {Wx:WX} {σ:St} {Q Q':VK} {x:Addr} {C:Str} {fs:List (Str × D)} {T:Sto} (st:Sta K Z ρ S H) (k:∀ a o,H a=some o→H2 a=some o) (g:Go ρ H (ρ++[x]) H2)
    (p:W1 (AX K) K Z ρ H Wx σ Q (trunc S.length (.err C fs T))):W1 (AX K) K Z (ρ++[x]) H2 Wx σ Q' (.err C fs T) :=
  X8s.shift g (fun a o h=>⟨o,k a o h⟩) (show X8s K Z ρ H Wx σ C fs T from Y65 st p)
theorem Y4q:Mks mkF:=fun {K Z ρ S H H2 Wx σ Q x r} st hx k _ hn g p=>by
  cases r with
  | bad=>exact p
  | err C fs T=>exact X5e st k g p
  | ok y T =>
    cases y with
    | r n=>exact p.elim
    | d d =>
      cases d with
      | non =>
        intro ρ1 H1 v s1 g1 a
        have p:W1 (AX K) K Z ρ H Wx σ Q (match frz T S.length,cut S.length T with
          | some d,some T => .ok (.d d) T
          | _,_ => .bad):=p
        cases a with
        | d a =>
          cases a with
          | non =>
            refine ⟨rfl,?_⟩
            cases q1:frz T S.length with
            | none=>rw [q1] at p; exact p.elim
            | some d =>
              cases q2:cut S.length T with
              | none=>rw [q1,q2] at p; exact p.elim
              | some T' =>
                rw [q1,q2] at p
                have gg:=g.trans g1
                have q2':=q2
                rw [st.len] at q2'
                obtain ⟨s2,g2,m⟩:=X0z st s1 gg q2'
                refine p ρ H1 (.ref x) s2 g2 (.d ?_)
                have ex:ρ1[S.length]?=some x:=by
                  obtain ⟨t,rfl⟩:=g1.pre
                  rw [st.len,List.append_assoc,List.getElem?_append_right (Nat.le_refl _),Nat.sub_self]; rfl
                unfold frz at q1
                cases y:T[S.length]? with
                | none=>rw [y] at q1; cases q1
                | some o =>
                  rw [y] at q1
                  have ob:=s1.ob _ o x y ex
                  cases o with
                  | ins C fs =>
                    obtain ⟨l,h1,h2⟩:=Option.map_eq_some_iff.mp (show (fs? fs).map (D.obj C)=some d from q1)
                    subst h2
                    obtain ⟨dx,vs,h3,h4⟩:=ob
                    refine .obj (fun z=>?_) h3 ((X7w h4 h1).mv m)
                    rcases z with z | z
                    · exact (s1.z x z).1 (List.mem_of_getElem? ex)
                    · exact hn z
                  | _=>cases q1
      | _=>exact p.elim
theorem X3n:Mks mkM:=fun {K Z ρ S H H2 Wx σ Q x r} st hx k _ hn g p=>by
  cases r with
  | bad=>exact p
  | err C fs T=>exact X5e st k g p
  | ok y T =>
    cases y with
    | r n=>exact p.elim
    | d d =>
      cases d with
      | non =>
        intro ρ1 H1 v s1 g1 a
        cases a with
        | d a =>
          cases a with
          | non =>
            refine ⟨rfl,?_⟩
            have p:W1 (AX K) K Z ρ H Wx σ Q (.ok (.r S.length) T):=p
            refine p ρ1 H1 (.ref x) s1 (g.trans g1) (.r ?_)
            obtain ⟨t,rfl⟩:=g1.pre
            rw [st.len,List.append_assoc,List.getElem?_append_right (Nat.le_refl _),Nat.sub_self]; rfl
      | _=>exact p.elim
theorem X6g {C:Str} {g:List Bv.X→Sto→R Bv.X} {mk:Nat→R Bv.X→R Bv.X} (hm:Mks mk) (tk:Xq.Tk X Wx) (gu:X.A.guards=some []) (M:Mk X.K (He.ga X.K C) f) (F:FnG X.prog X.w X.K X.mg X.base k f fd ps (spE X.K (n + 1) g)) (hr:Room (k + 1) X.A) (hb:Binds X.K fd ps ds) (hd:Dft X.K dxs dvs ds) (hn:n - dvs.length + dvs.length=n:=by rfl) :
    X37 X Wx (.ref (He.ga X.K C)) (n - dvs.length) (X5 dxs (made C mk g)):=fun pins s σ H Q us vs Z ρ xs S I r st a hl p=>by
  have I2:=Inv.made (C:=He.ga X.K C) I
  have f1:H (s.heap.objs.size + 1)=none:=I.hok.fresh (Nat.le_succ _)
  have f2:H s.heap.objs.size=none:=I.hok.fresh (Nat.le_refl _)
  have fne:s.heap.objs.size ≠ s.heap.objs.size + 1:=Nat.ne_of_lt (Nat.lt_succ_self _)
  have kk:∀ a o,H a=some o→(upd (upd H s.heap.objs.size (.own (s.heap.objs.size + 1))) (s.heap.objs.size + 1) (.ins (He.ga X.K C) s.heap.objs.size [])) a=some o:=fun a o q=>by
    rw [upd_ne (ne_of_none q f1),upd_ne (ne_of_none q f2)]; exact q
  obtain ⟨st2,g2⟩:=st.push (o' := .ins C []) f1 kk ⟨_,[],upd_same, .nil⟩
  have hx:s.heap.objs.size + 1 ∉ ρ:=fun z=>by
    obtain ⟨m,o,e1,e2⟩:=st.mem z
    obtain ⟨u,q⟩:=(st.ob m o _ e1 e2).there
    rw [f1] at q; cases q
  have p2:=hm st f1 kk (.inr trivial) hx g2 (show W1 (AX X.K) X.K Z ρ H Wx σ Q (mk S.length (g (.r S.length :: (xs++dxs.map .d)) (S++[.ins C []]))) from p)
  have a2:AXs X.K (Wn Z (ρ++[s.heap.objs.size + 1])) (ρ++[s.heap.objs.size + 1]) _ (.r S.length :: (xs++dxs.map .d)) (V.ref (s.heap.objs.size + 1) :: (vs++dvs)) :=
    .cons (.r (by rw [st.len,List.getElem?_append_right (Nat.le_refl _),Nat.sub_self]; rfl)) (Paired.append (a.mv (g2.mv st) g2.pre) (hd.av _ _).axs)
  have hq:=X8j st2 a2 (n:=n + 1) (by simp only [List.length_cons,List.length_append,hl]; omega) p2
  have r2:Vals (V.ref (s.heap.objs.size + 1) :: (vs++dvs)) (Value.ref (s.heap.objs.size + 1) :: (us++ds)) := .cons rfl (r.append hd.va)
  have hl2:(Value.ref (s.heap.objs.size + 1) :: us++ds).length=ps.length:=by
    have e:=r2.length
    rw [F.len _ _ _ _ hq] at e
    exact e.symm
  refine (make_map (f:=f) I.kIn M.makes M.init (beq_iff_eq.mp M.fn) (codeAny_mono (F.run _ X.stack _ _ ⟨Value.ref (s.heap.objs.size + 1) :: us,[]⟩ (Value.ref (s.heap.objs.size + 1) :: (us++ds)) _ _ (WE Wx σ) (X9a gu) (hr.make _ us [])
    (I2.env0.make _ us []) (hb _ (Value.ref (s.heap.objs.size + 1) :: us) I2.kIn hl2) r2 hq) fun y s' hq'=>?_))
  cases y with
  | error e=>exact Xq.passAt tk σ pins _ _ e s' I2 hq'
  | ok fl =>
    cases fl with
    | ret u =>
      obtain ⟨v,H',I3,rv,ev,q3⟩:=I2.after hq'
      subst ev
      exact ⟨rv,V.ref (s.heap.objs.size + 1),H',I3,rfl,q3⟩
    | next=>exact False.elim hq'
    | brk=>exact False.elim hq'
    | cont=>exact False.elim hq'
end
end Bv
namespace Bv
open PySem PySem.Spec L2
open PyProof.Rows hiding St
variable [HasW]
def Z9 (g:List Bv.X→Sto→R Bv.X) (ms:MG (List Bv.X)):M:=fun e S=>(ms e S).bind g
def Y7 (n:Nat) (g:List Bv.X→Sto→R Bv.X):List Bv.X→Sto→R Bv.X:=fun xs S=>if decide (xs.length=n) then g xs S else .bad
section
variable {X:Cx} {Wx:WX} {n:Nat} {f:Addr} {x:Str} {p pos apos:Pos} {e o:Expr} {es:List Expr} {ms:MG (List Bv.X)} {mo:M} {g:List Bv.X→Sto→R Bv.X}
theorem ari {rel:R Bv.X→Prop} {xs:List Bv.X} {S:Sto} (hb:¬ rel .bad) (h:rel (Y7 n g xs S)):xs.length=n∧rel (g xs S):=by
  unfold Y7 at h
  by_cases hn:xs.length=n
  · rw [if_pos (decide_eq_true hn)] at h; exact ⟨hn,h⟩
  · rw [if_neg (by simpa using hn)] at h; exact (hb h).elim
theorem Y8 (c:X37 X Wx (.ref f) n g) (hg:Gl X x) (hm:X.mg x=some (.ref f)) (hk:PySem.W.keepIn X.K (.ref f)=true) (ha:MA X Wx (e :: es) ms) (hdb:(x == ("__debug__" : Str))=false:=by decide)
    (he:starEach (e :: es) X.env=(false,eval e X.env) :: starEach es X.env:=by rfl) (hpl:(backTo pos (starEach es X.env)).any (·.1)=false:=by rfl):ME X Wx (.Call (.Name x p) (e :: es) [] pos) (Z9 (Y7 n g) ms):=⟨fun pins s σ H Q I ⟨Z,ρ,e,S,st,ev,q⟩=>by
  refine wpAny_Call_Name_kw (ld_glob I hg hm ?_ hdb)
  refine PySem.W.callWith_K (h₀:=X.base) I.ok.mod.kin hk (thn (ha.run pos pins s σ H _ I (X9 (R':=fun vs H1=>∃ (ρ1:List Addr) (xs:List Bv.X) (S1:Sto),Sta X.K Z ρ1 S1 H1∧AXs X.K (Wn Z ρ1) ρ1 H1 xs vs∧W1 (AX X.K) X.K Z ρ1 H1 Wx σ Q (Y7 n g xs S1)) st ev q fun ρ1 H1 v xs S1 s1 g1 ev1 a1 p1=>⟨ρ1,xs,S1,s1,a1,p1⟩))
    fun us s1 ⟨vs,H1,I1,r,ρ1,xs,S1,st1,a1,p1⟩=>⟨I1.kIn,?_⟩) he hpl
  obtain ⟨hl,p2⟩:=ari (rel:=W1 (AX X.K) X.K Z ρ1 H1 Wx σ Q) (fun z=>z) p1
  exact wpAny_call (c pins s1 σ H1 Q us vs Z ρ1 xs S1 I1 r st1 a1 (by rw [← Paired.length a1]; exact hl) p2)⟩
def isOf (C m:Str) (S:Sto):Bv.X→Bool
  | .d (.obj D fs)=>decide (D=C) && (fs.lookup m).isNone
  | .d _=>false
  | .r n=>match S[n]? with
    | some (.ins D fs)=>decide (D=C) && (fs.lookup m).isNone
    | _=>false
theorem X2q {K:PySem.W.Frag} {Z:Wd} {ρ:List Addr} {S:Sto} {H:Hp} {C m:Str} {y:Bv.X} {v:V} (st:Sta K Z ρ S H) (a:AX K (Wn Z ρ) ρ H y v) (h:isOf C m S y=true):∃ a dx fs,v = .ref a∧H a=some (.ins (He.ga K C) dx fs)∧fs.lookup m=none:=by
  cases a with
  | d a =>
    cases a with
    | obj w r hs =>
      obtain ⟨h1,h2⟩:=Bool.and_eq_true_iff.mp h
      obtain rfl:=of_decide_eq_true h1
      exact ⟨_,_,_,rfl,r,hs.none_of (Option.isNone_iff_eq_none.mp h2)⟩
    | _=>cases h
  | r e =>
    rename_i n q
    have h:(match S[n]? with
      | some (.ins D fs)=>decide (D=C) && (fs.lookup m).isNone
      | _=>false)=true:=h
    cases z:S[n]? with
    | none=>rw [z] at h; cases h
    | some ob =>
      rw [z] at h
      cases ob with
      | ins D fs =>
        obtain ⟨h1,h2⟩:=Bool.and_eq_true_iff.mp (show (decide (D=C) && (fs.lookup m).isNone)=true from h)
        obtain rfl:=of_decide_eq_true h1
        obtain ⟨dx,vs,h3,h4⟩:=st.ob n _ q z e
        exact ⟨_,_,_,rfl,h3,Y62 h4 (Option.isNone_iff_eq_none.mp h2)⟩
      | _=>cases h
def V5 (C m:Str) (g:List Bv.X→Sto→R Bv.X) (mo:M) (ms:MG (List Bv.X)):M:=fun e S=>(mo e S).bind fun x S1=>if isOf C m S1 x then (ms e S1).bind fun xs S2=>g (x :: xs) S2 else .bad
theorem W9 {C m:Str} {pl:Sem Bool} (cc:X37 X Wx (.ref f) n g) (c:Cls X.K (He.ga X.K C)) (hm:Meth X.K (He.ga X.K C) m f) (ho:ME X Wx o mo) (ha:MA X Wx (e :: es) ms)
    (hst:starEach (e :: es) X.env=(false,eval e X.env) :: starEach es X.env:=by rfl) (hpl:(backTo pos (starEach es X.env)).any (·.1)=false:=by rfl)
    (ht:eval (.Call (.Attribute o m apos) (e :: es) [] pos) X.env=(do
      let ov ← eval o X.env
      standAt apos.atName
      let (f,first) ← holding [ov] (getMethod ov m pl)
      callWith pos f first (backTo pos (starEach (e :: es) X.env)) (backToKw pos (keywordEach [] X.env))):=by rfl):ME X Wx (.Call (.Attribute o m apos) (e :: es) [] pos) (V5 C m (Y7 n g) mo ms):=⟨fun pins s σ H Q I ⟨Z,ρ,e,S,st,ev,q⟩=>by
  refine PySem.W.methodCall_KW (pl:=pl) (thn (ho.run pins s σ H _ I (X9 (R':=fun v H1=>∃ (ρ1:List Addr) (y:Bv.X) (S1:Sto),Sta X.K Z ρ1 S1 H1∧AX X.K (Wn Z ρ1) ρ1 H1 y v∧EvOk X.K (Wn Z ρ1) ρ1 H1 e σ∧isOf C m S1 y=true∧W1 (AX X.K) X.K Z ρ1 H1 Wx σ Q ((ms e S1).bind fun xs S2=>Y7 n g (y :: xs) S2)) st ev q
    fun ρ1 H1 v y S1 s1 g1 ev1 a1 p1=>by
      have p1:W1 (AX X.K) X.K Z ρ1 H1 Wx σ Q (if isOf C m S1 y then (ms e S1).bind fun xs S2=>Y7 n g (y :: xs) S2 else .bad):=p1
      split at p1
      · rename_i hq; exact ⟨ρ1,y,S1,s1,a1,ev1,hq,p1⟩
      · exact p1.elim)) fun u s1 ⟨x,H1,I1,rx,ρ1,y,S1,st1,a1,ev1,hq,p1⟩=>?_) ht
  obtain ⟨a,dx,fs,rfl,ea,l⟩:=X2q st1 a1 hq
  obtain rfl:u=Value.ref a:=rx
  refine getmeth_ok I1 ea c hm l ?_
  refine PySem.W.callWith_K (first:=[.ref a]) (h₀:=X.base) I.ok.mod.kin hm.kp (thn (ha.run pos pins s1 σ H1 _ I1 (X9 (R':=fun vs H2=>∃ (ρ2:List Addr) (xs:List Bv.X) (S2:Sto),Sta X.K Z ρ2 S2 H2∧AX X.K (Wn Z ρ2) ρ2 H2 y (.ref a)∧AXs X.K (Wn Z ρ2) ρ2 H2 xs vs∧W1 (AX X.K) X.K Z ρ2 H2 Wx σ Q (Y7 n g (y :: xs) S2)) st1 ev1 p1
    fun ρ2 H2 v xs S2 s2 g2 ev2 a2 p2=>⟨ρ2,xs,S2,s2,a1.mv (g2.mv st1) g2.pre,a2,p2⟩)) fun us s2 ⟨vs,H2,I2,r,ρ2,xs,S2,st2,b2,a2,p2⟩=>⟨I2.kIn,?_⟩) hst hpl
  obtain ⟨hl,p3⟩:=ari (rel:=W1 (AX X.K) X.K Z ρ2 H2 Wx σ Q) (fun z=>z) p2
  have aa:AXs X.K (Wn Z ρ2) ρ2 H2 (y :: xs) (V.ref a :: vs) := .cons b2 a2
  exact wpAny_call (cc pins s2 σ H2 Q (.ref a :: us) (.ref a :: vs) Z ρ2 (y :: xs) S2 I2 (.cons rfl r) st2 aa (by rw [← Paired.length aa]; exact hl) p3)⟩
theorem Z5l {C m:Str} {pl:Sem Bool} (cc:X37 X Wx (.ref f) 1 g) (c:Cls X.K (He.ga X.K C)) (hm:Meth X.K (He.ga X.K C) m f) (ho:ME X Wx o mo)
    (ht:eval (.Call (.Attribute o m apos) [] [] pos) X.env=(do
      let ov ← eval o X.env
      standAt apos.atName
      let (f,first) ← holding [ov] (getMethod ov m pl)
      callWith pos f first (backTo pos (starEach [] X.env)) (backToKw pos (keywordEach [] X.env))):=by rfl):ME X Wx (.Call (.Attribute o m apos) [] [] pos) (V5 C m g mo Z7):=⟨fun pins s σ H Q I ⟨Z,ρ,e,S,st,ev,q⟩=>by
  refine PySem.W.methodCall_KW (pl:=pl) (thn (ho.run pins s σ H _ I (X9 (R':=fun v H1=>∃ (ρ1:List Addr) (y:Bv.X) (S1:Sto),Sta X.K Z ρ1 S1 H1∧AX X.K (Wn Z ρ1) ρ1 H1 y v∧isOf C m S1 y=true∧W1 (AX X.K) X.K Z ρ1 H1 Wx σ Q (g [y] S1)) st ev q
    fun ρ1 H1 v y S1 s1 g1 ev1 a1 p1=>by
      have p1:W1 (AX X.K) X.K Z ρ1 H1 Wx σ Q (if isOf C m S1 y then g [y] S1 else .bad):=p1
      split at p1
      · rename_i hq; exact ⟨ρ1,y,S1,s1,a1,hq,p1⟩
      · exact p1.elim)) fun u s1 ⟨x,H1,I1,rx,ρ1,y,S1,st1,a1,hq,p1⟩=>?_) ht
  obtain ⟨a,dx,fs,rfl,ea,l⟩:=X2q st1 a1 hq
  obtain rfl:u=Value.ref a:=rx
  refine getmeth_ok I1 ea c hm l ?_
  exact PySem.W.callWith_K0 (first:=[.ref a]) I1.kIn hm.kp (wpAny_call (cc pins s1 σ H1 Q [.ref a] [.ref a] Z ρ1 [y] S1 I1 (.cons rfl .nil) st1 (.cons a1 .nil) rfl p1))⟩
def X0t (K:PySem.W.Frag) (r:List V→Hp→VK→Prop) (g:List Bv.X→Sto→R Bv.X):Prop:=∀ (Z:Wd) (ρ:List Addr) (S:Sto) (H:Hp) (Wx:WX) (σ:St) (xs:List Bv.X) (vs:List V) (Q:VK),Sta K Z ρ S H→AXs K (Wn Z ρ) ρ H xs vs→W1 (AX K) K Z ρ H Wx σ Q (g xs S)→r vs H Q
theorem CallR.or {fv:Value} {r r':List V→Hp→VK→Prop} (h:CallR X fv r) (h':CallR X fv r'):CallR X fv (fun xs H Q=>r xs H Q ∨ r' xs H Q):=fun pins s σ H xs us Q I v q=>q.elim (h pins s σ H xs us Q I v) (h' pins s σ H xs us Q I v)
theorem U8 {id:String} {r:List V→Hp→VK→Prop} (hc:CallR X (.builtin id) r) (h:X0t X.K r g) (hg:Gl X x) (hm:X.mg x=none) (ha:MA X Wx (e :: es) ms) (hv:bootBuiltins x=some (.builtin id):=by rfl) (hn:x ≠ "__name__" := by decide) (hdb:(x == ("__debug__" : Str))=false:=by decide)
    (he:starEach (e :: es) X.env=(false,eval e X.env) :: starEach es X.env:=by rfl) (hpl:(backTo pos (starEach es X.env)).any (·.1)=false:=by rfl):ME X Wx (.Call (.Name x p) (e :: es) [] pos) (Z9 g ms):=PE.of (pe_callB hc hg hm hv ha hn hdb he hpl) fun σ H Q ⟨Z,ρ,e,S,st,ev,q⟩ =>
  X9 st ev q fun ρ1 H1 v xs S1 s1 g1 ev1 a1 p1=>h Z ρ1 S1 H1 Wx σ xs v Q s1 a1 p1
theorem Z2v {T:String} {r:List V→Hp→VK→Prop} (hc:CallR X (.type T) r) (h:X0t X.K r g) (hg:Gl X x) (hm:X.mg x=none) (ha:MA X Wx (e :: es) ms) (hv:bootBuiltins x=some (.type T):=by rfl) (hn:x ≠ "__name__" := by decide) (hdb:(x == ("__debug__" : Str))=false:=by decide)
    (he:starEach (e :: es) X.env=(false,eval e X.env) :: starEach es X.env:=by rfl) (hpl:(backTo pos (starEach es X.env)).any (·.1)=false:=by rfl):ME X Wx (.Call (.Name x p) (e :: es) [] pos) (Z9 g ms):=PE.of (pe_callTy hc hg hm hv ha hn hdb he hpl) fun σ H Q ⟨Z,ρ,e,S,st,ev,q⟩ =>
  X9 st ev q fun ρ1 H1 v xs S1 s1 g1 ev1 a1 p1=>h Z ρ1 S1 H1 Wx σ xs v Q s1 a1 p1
end
def X4x (f:List Int→Option Int):List Bv.X→Sto→R Bv.X:=fun xs S=>match (ints? xs).bind f with
  | some i => .ok (.d (.int i)) S
  | none => .bad
theorem X4y {K:PySem.W.Frag} {Z:Wd} {ρ:List Addr} {S:Sto} {H:Hp} {Wx:WX} {σ:St} {Q:VK} {f:List Int→Option Int} {xs:List Bv.X} {vs:List V} (st:Sta K Z ρ S H) (a:AXs K (Wn Z ρ) ρ H xs vs) (h:W1 (AX K) K Z ρ H Wx σ Q (X4x f xs S)):∃ l i,vs=l.map V.int∧f l=some i∧Q (.int i) H:=by
  unfold X4x at h
  cases q:(ints? xs).bind f with
  | none=>rw [q] at h; exact h.elim
  | some i =>
    rw [q] at h
    obtain ⟨l,h1,h2⟩:=Option.bind_eq_some_iff.mp q
    exact ⟨l,i,Y7k a h1,h2,W1.ret0 h st (.d (.int i))⟩
def W2x:List Int→Option Int
  | [i]=>some (if i < 0 then -i else i)
  | _=>none
section
variable {K:PySem.W.Frag}
theorem W2y:X0t K (fun xs H Q=>∃ i,xs=[.int i]∧Q (.int (if i < 0 then -i else i)) H) (X4x W2x):=fun Z ρ S H Wx σ xs vs Q st a h=>by
  obtain ⟨l,i,e1,e2,q⟩:=X4y st a h
  match l,e2 with
  | [j],e2=>cases e2; exact ⟨j,e1,q⟩
def X38:List Bv.X→Sto→R Bv.X
  | [.d (.int i)],S => .ok (.d (.int i)) S
  | [.d (.bl b)],S => .ok (.d (.int (if b then 1 else 0))) S
  | _,_ => .bad
theorem Y9u {W:Wd} {ρ:List Addr} {H:Hp} {d:D} {vs:List V} (a:AXs K W ρ H [.d d] vs):∃ v,vs=[v]∧AV K W H d v:=by
  cases a with
  | cons h t =>
    cases t
    cases h with
    | d h=>exact ⟨_,rfl,h⟩
theorem X3g:X0t K (fun xs H Q=>(∃ i,xs=[.int i]∧Q (.int i) H) ∨ ∃ k,xs=[.bl k]∧Q (.int (if k then 1 else 0)) H) X38:=fun Z ρ S H Wx σ xs vs Q st a h=>by
  unfold X38 at h
  split at h
  · rename_i j
    obtain ⟨v,rfl,b⟩:=Y9u a
    have e:v = .int j:=by cases b; rfl
    exact .inl ⟨_,by rw [e],W1.ret0 h st (.d (.int _))⟩
  · rename_i j
    obtain ⟨v,rfl,b⟩:=Y9u a
    have e:v = .bl j:=by cases b; rfl
    exact .inr ⟨_,by rw [e],W1.ret0 h st (.d (.int _))⟩
  · exact h.elim
def W4f:D→Option Int
  | .str z=>if decide (z.length ≤ sizeLine) then some z.length else none
  | .scr ns=>some ns.length
  | _=>none
def W2t (S:Sto):Bv.X→Option Int
  | .d (.dic kvs)=>some kvs.length
  | .d d=>match items S (.d d) with
    | some ys=>some ys.length
    | none=>W4f d
  | .r n=>match S[n]? with
    | some (.lst xs)=>some xs.length
    | some (.dic kvs)=>some kvs.length
    | some (.fdc kvs)=>some kvs.length
    | _=>none
def Z9j:List Bv.X→Sto→R Bv.X
  | [x],S=>(match W2t S x with
    | some n => .ok (.d (.int n)) S
    | none => .bad)
  | _,_ => .bad
abbrev W18 (K:PySem.W.Frag):List V→Hp→VK→Prop:=fun xs H Q=>((∃ p ys,xs=[.ref p]∧(SqL K H p ys ∨ SqT K H p ys)∧Q (.int ys.length) H) ∨ (∃ z,xs=[.str z]∧z.length ≤ sizeLine∧Q (.int z.length) H)) ∨ ∃ a kvs,xs=[V.ref a]∧Rd H a (.dK kvs)∧Q (.int kvs.length) H
theorem X3i {X:Cx}:CallR X (.builtin "len") (fun xs H Q=>∃ a kvs,xs=[V.ref a]∧Rd H a (.dK kvs)∧Q (.int kvs.length) H):=fun pins s σ H xs us Q I r h=>by
  obtain ⟨a,kvs,rfl,hd,q⟩:=h
  cases r with
  | cons r t =>
    cases t
    cases (show _=Value.ref a from r)
    exact d_len I hd fun t s' I'=>⟨V.int kvs.length,H,I',⟨t,rfl⟩,q⟩
theorem Z35 {X:Cx}:CallR X (.builtin "len") (W18 X.K):=CallR.or (CallR.or call_len_seq call_len_str) X3i
theorem AVk.length {W:Wd} {H:Hp}:∀ {ds:List (D × D)} {vs:List (Key × V)},AVk K W H ds vs→ds.length=vs.length
  | _,_, .nil=>rfl
  | _,_, .cons _ _ t=>by simp [AVk.length t]
theorem Z36:X0t K (W18 K) Z9j:=fun Z ρ S H Wx σ xs vs Q st a h=>by
  unfold Z9j at h
  split at h
  · rename_i x
    cases a with
    | cons ha t =>
      cases t
      cases q:W2t S x with
      | none=>rw [q] at h; exact h.elim
      | some n =>
        rw [q] at h
        have hQ:Q (.int n) H:=W1.ret0 h st (.d (.int n))
        cases ha with
        | d ha =>
          cases ha with
          | dic w r hs=>cases q; exact .inr ⟨_,_,rfl, .inr ⟨_,r⟩,by rw [← hs.length]; exact hQ⟩
          | lst w r hs =>
            rw [show W2t S (.d (.lst _))=some ((List.map Bv.X.d _).length:Int) from rfl,List.length_map] at q
            cases q; exact .inl (.inl ⟨_,_,rfl, .inl (.inl (.inl r)),by rw [← hs.length]; exact hQ⟩)
          | tup r hs =>
            rw [show W2t S (.d (.tup _))=some ((List.map Bv.X.d _).length:Int) from rfl,List.length_map] at q
            cases q; exact .inl (.inl ⟨_,_,rfl, .inr r.sq,by rw [← hs.length]; exact hQ⟩)
          | scr r =>
            rename_i q' ns
            cases q
            exact .inl (.inl ⟨_,ns.map V.int,rfl, .inl r.sl,by rw [List.length_map]; exact hQ⟩)
          | str hz =>
            rename_i z
            have q:(if decide (z.length ≤ sizeLine) then some (z.length:Int) else none)=some n:=q
            obtain ⟨h1,h2⟩:=Z5k q
            cases h2
            exact .inl (.inr ⟨z,rfl,of_decide_eq_true h1,hQ⟩)
          | _=>cases q
        | r e =>
          rename_i m b
          have q:(match S[m]? with
            | some (.lst xs)=>some (xs.length:Int)
            | some (.dic kvs)=>some (kvs.length:Int)
            | some (.fdc kvs)=>some (kvs.length:Int)
            | _=>none)=some n:=q
          cases z:S[m]? with
          | none=>rw [z] at q; cases q
          | some o =>
            rw [z] at q
            have ob:=st.ob m o b z e
            cases o with
            | lst xs =>
              cases q
              obtain ⟨vs,h3,h4⟩:=ob
              exact .inl (.inl ⟨_,vs,rfl, .inl (.inl (.inl h3)),by rw [← Paired.length h4]; exact hQ⟩)
            | dic xs =>
              cases q
              obtain ⟨vs,h3,h4⟩:=ob
              exact .inr ⟨_,vs,rfl, .inl h3,by rw [← Paired.length h4]; exact hQ⟩
            | fdc xs =>
              cases q
              obtain ⟨o,vs,h3,h4⟩:=ob
              exact .inr ⟨_,vs,rfl, .inr ⟨o,h3⟩,by rw [← Paired.length h4]; exact hQ⟩
            | _=>cases q
  · exact h.elim
def X0n:List Bv.X→Sto→R Bv.X
  | [x],S=>(match (items S x).bind ds? with
    | some ds => .ok (.d (.tup ds)) S
    | none => .bad)
  | _,_ => .bad
abbrev W2b (K:PySem.W.Frag):List V→Hp→VK→Prop:=fun xs H Q=>∃ p ys,xs=[.ref p]∧((SqL K H p ys∧∀ l,H l=none→Q (.ref l) (upd H l (.tup ys))) ∨ (SqT K H p ys∧Q (.ref p) H))
theorem Y1z:X0t K (W2b K) X0n:=fun Z ρ S H Wx σ xs vs Q st a h=>by
  unfold X0n at h
  split at h
  · rename_i x
    cases a with
    | cons ha t =>
      cases t
      cases q:(items S x).bind ds? with
      | none=>rw [q] at h; exact h.elim
      | some ds =>
        rw [q] at h
        obtain ⟨ys,h1,h2⟩:=Option.bind_eq_some_iff.mp q
        have fin:∀ {b us},SqL K H b us→AXs K (Wn Z ρ) ρ H ys us→∀ l,H l=none→Q (.ref l) (upd H l (.tup us)):=fun hq hp l hl=>W1.ret h st (U3 hl) (.d (Y2c (fun z hz=>st.thereW hz) hl (AXs.ds hp h2)))
        cases ha with
        | r e =>
          obtain ⟨b,us,e1,hq,hp⟩:=(AX.r e).items st h1
          cases e1
          rename_i m _
          have h1':(match S[m]? with
            | some (.lst xs)=>some xs
            | _=>none)=some ys:=h1
          cases z:S[m]? with
          | none=>rw [z] at h1'; cases h1'
          | some o =>
            rw [z] at h1'
            cases o with
            | lst xs =>
              cases h1'
              obtain ⟨vs,h3,h4⟩:=st.ob m _ _ z e
              exact ⟨_,vs,rfl, .inl ⟨.inl (.inl h3),fin (.inl (.inl h3)) h4⟩⟩
            | _=>cases h1'
        | d ha =>
          cases ha with
          | lst w r hs=>cases h1; exact ⟨_,_,rfl, .inl ⟨.inl (.inl r),fin (.inl (.inl r)) hs.axs⟩⟩
          | tup r hs =>
            cases h1
            rename_i ds2
            have e3:∀ (l:List D),ds? (l.map Bv.X.d)=some l:=fun l=>by
              induction l with
              | nil=>rfl
              | cons d r ih=>simp [ds?,ih]
            rw [e3] at h2
            cases h2
            exact ⟨_,_,rfl, .inr ⟨r.sq,W1.ret0 h st (.d (.tup r hs))⟩⟩
          | _=>cases h1
  · exact h.elim
def bls?:List Bv.X→Option (List Bool)
  | []=>some []
  | .d (.bl b) :: r=>(bls? r).map (b :: ·)
  | _ :: _=>none
theorem X4f {W:Wd} {ρ:List Addr} {H:Hp}:∀ {xs:List Bv.X} {vs:List V} {l:List Bool},AXs K W ρ H xs vs→bls? xs=some l→vs=l.map V.bl
  | _,_,_, .nil,e=>by cases e; rfl
  | x :: r,_,l, .cons h t,e=>by
    cases x with
    | r n=>simp [bls?] at e
    | d d =>
      cases d with
      | bl b =>
        obtain ⟨l2,h1,h2⟩:=Option.map_eq_some_iff.mp (show (bls? r).map (b :: ·)=some l from e)
        subst h2
        cases h with
        | d h=>cases h; rw [X4f t h1]; rfl
      | _=>simp [bls?] at e
def Z2q (S:Sto):Bv.X→Bool
  | .d (.lst _)=>true
  | .r n=>match S[n]? with
    | some (.lst _)=>true
    | _=>false
  | _=>false
theorem AX.itemsL {Z:Wd} {ρ:List Addr} {S:Sto} {H:Hp} {x:Bv.X} {v:V} {ys:List Bv.X} (st:Sta K Z ρ S H) (h:AX K (Wn Z ρ) ρ H x v) (e:Bv.items S x=some ys) (hl:Z2q S x=true):∃ q xs,v = .ref q∧H q=some (.lst xs)∧AXs K (Wn Z ρ) ρ H ys xs:=by
  cases h with
  | d h =>
    cases h with
    | lst w r hs=>cases e; exact ⟨_,_,rfl,r,hs.axs⟩
    | _=>cases hl
  | r h =>
    rename_i n q
    have e1:(match S[n]? with
      | some (.lst xs)=>some xs
      | _=>none)=some ys:=e
    cases z:S[n]? with
    | none=>rw [z] at e1; cases e1
    | some o =>
      rw [z] at e1
      cases o with
      | lst xs =>
        cases e1
        obtain ⟨vs,h1,h2⟩:=st.ob n _ q z h
        exact ⟨q,vs,rfl,h1,h2⟩
      | _=>cases e1
def Y8l (f:List Bool→Bool):List Bv.X→Sto→R Bv.X
  | [x],S=>if Z2q S x then (match (items S x).bind bls? with
    | some l => .ok (.d (.bl (f l))) S
    | none => .bad) else .bad
  | _,_ => .bad
theorem X2b {f:List Bool→Bool} {Z:Wd} {ρ:List Addr} {S:Sto} {H:Hp} {Wx:WX} {σ:St} {Q:VK} {xs:List Bv.X} {vs:List V} (st:Sta K Z ρ S H) (a:AXs K (Wn Z ρ) ρ H xs vs) (h:W1 (AX K) K Z ρ H Wx σ Q (Y8l f xs S)):∃ a bs,vs=[V.ref a]∧SqL K H a (bs.map V.bl)∧Q (.bl (f bs)) H:=by
  unfold Y8l at h
  split at h
  · rename_i x
    split at h
    · rename_i hl
      cases a with
      | cons ha t =>
        cases t
        cases q:(items S x).bind bls? with
        | none=>rw [q] at h; exact h.elim
        | some l =>
          rw [q] at h
          obtain ⟨ys,h1,h2⟩:=Option.bind_eq_some_iff.mp q
          obtain ⟨b,us,rfl,hq,hp⟩:=ha.itemsL st h1 hl
          rw [X4f hp h2] at hq
          exact ⟨b,l,rfl, .inl (.inl hq),W1.ret0 h st (.d (.bl _))⟩
    · exact h.elim
  · exact h.elim
theorem Y5i:X0t K (rAll K) (Y8l fun l=>l.all id):=fun Z ρ S H Wx σ xs vs Q st a h=>X2b st a h
theorem X8w:X0t K (rAny K) (Y8l fun l=>l.any id):=fun Z ρ S H Wx σ xs vs Q st a h=>X2b st a h
end
end Bv
namespace Bv
open PySem PySem.Spec L2
open PyProof.Rows hiding St
variable [HasW]
abbrev W3k:Wd→List Addr→Hp→Option Int→Option Int→Prop:=fun _ _ _ b c=>b=c
abbrev MO (X:Cx) (Wx:WX) (e:Option Expr) (m:MG (Option Int)):Prop:=PO X e (RG W3k X.K Wx m)
def Y5n:MG (Option Int):=fun _ S => .ok none S
def Z34 (m:M):MG (Option Int):=fun e S=>(m e S).bind fun x S1=>Y3b ((X6r x).map some) S1
def Y3k {α:Type} (xs:List α) (lo hi:Option Int):List α:=(xs.drop (HT.sIx xs.length 0 lo)).take (HT.sIx xs.length xs.length hi - HT.sIx xs.length 0 lo)
def slX (S:Sto) (x:X) (lo hi:Option Int):Option X:=match x with
  | .d (.lst ds)=>some (.d (.lst (Y3k ds lo hi)))
  | .d (.tup ds)=>some (.d (.tup (Y3k ds lo hi)))
  | .d (.scr ns)=>some (.d (.lst ((Y3k ns lo hi).map .int)))
  | .d (.str z)=>if decide (z.length ≤ sizeLine) then some (.d (.str ⟨(Y3k z.cps.toList lo hi).toArray⟩)) else none
  | .r n=>(match S[n]? with
    | some (.lst xs)=>(ds? (Y3k xs lo hi)).map fun ds => .d (.lst ds)
    | _=>none)
  | _=>none
def Z17 (m:M) (ml mh:MG (Option Int)):M:=fun e S=>(m e S).bind fun x S1=>(ml e S1).bind fun l S2=>(mh e S2).bind fun h S3=>Y3b (slX S3 x l h) S3
section
variable {X:Cx} {Wx:WX} {pos p p2 apos:Pos} {a b c o i e:Expr} {lo hi:Option Expr} {ma mb mc m mo mi:M} {ml mh:MG (Option Int)} {ms:MG (List Bv.X)}
theorem PO.of {e:Option Expr} {t t':TO} (h:PO X e t) (w:∀ σ H Q,t' σ H Q→t σ H Q):PO X e t':=⟨fun pins s σ H Q I q=>h.run pins s σ H Q I (w σ H Q q)⟩
theorem Z3d:MO X Wx none Y5n:=PO.of po_none fun σ H Q ⟨Z,ρ,e,S,st,ev,p⟩=>W1.ret0 p st rfl
theorem Z3e (h:ME X Wx a m):MO X Wx (some a) (Z34 m):=PO.of (po_some h) fun σ H Q ⟨Z,ρ,e,S,st,ev,p⟩=>X9 st ev p fun ρ1 H1 v x S1 s1 g1 ev1 a1 p1=>by
  obtain ⟨o,ho,p2⟩:=p1.opt
  obtain ⟨j,h1,h2⟩:=Option.map_eq_some_iff.mp ho
  subst h2
  exact ⟨j,a1.int h1,W1.ret0 p2 s1 rfl⟩
theorem AVs.cutV {K:PySem.W.Frag} {W:Wd} {H:Hp} {ds:List D} {vs:List V} (h:AVs K W H ds vs) (lo hi:Option Int):AVs K W H (Y3k ds lo hi) (L2.cutV vs lo hi):=by
  unfold Y3k L2.cutV
  rw [h.length]
  exact (h.drop _).take _
theorem AXs.takeP {α β:Type} {F:α→β→Prop}:∀ {l:List α} {r:List β} (n:Nat),Paired F l r→Paired F (l.take n) (r.take n)
  | _,_,0,_ => .nil
  | _,_,_ + 1, .nil => .nil
  | _,_,n + 1, .cons x t => .cons x (AXs.takeP n t)
theorem AXs.dropP {α β:Type} {F:α→β→Prop}:∀ {l:List α} {r:List β} (n:Nat),Paired F l r→Paired F (l.drop n) (r.drop n)
  | _,_,0,t=>t
  | _,_,_ + 1, .nil => .nil
  | _,_,n + 1, .cons x t=>AXs.dropP n t
theorem X7c {F:Bv.X→V→Prop} {l:List Bv.X} {r:List V} (h:Paired F l r) (lo hi:Option Int):Paired F (Y3k l lo hi) (L2.cutV r lo hi):=by
  unfold Y3k L2.cutV
  rw [Paired.length h]
  exact AXs.takeP _ (AXs.dropP _ h)
theorem X80 {α β:Type} (f:α→β) (xs:List α) (lo hi:Option Int):Y3k (xs.map f) lo hi=(Y3k xs lo hi).map f:=by
  unfold Y3k
  rw [List.length_map,List.map_take,List.map_drop]
theorem X6i {α:Type} {xs:List α} {lo hi:Option Int} {a:α} (h:a ∈ Y3k xs lo hi):a ∈ xs:=List.mem_of_mem_drop (List.mem_of_mem_take h)
theorem Z16 (he:ME X Wx a m) (hl:MO X Wx lo ml) (hh:MO X Wx hi mh):ME X Wx (.Subscript a (.Slice lo hi none p2) pos) (Z17 m ml mh):=PE.of (pe_slice (SlR.or (SlR.or sl_list sl_tupA) sl_str) he hl hh) fun σ H Q ⟨Z,ρ,e,S,st,ev,p⟩=>by
  refine X9 st ev p fun ρ1 H1 v x S1 s1 g1 ev1 a1 p1=>?_
  refine X9 (rel:=W3k) s1 ev1 p1 fun ρ2 H2 l l' S2 s2 g2 ev2 e2 p2=>?_
  refine X9 (rel:=W3k) s2 ev2 p2 fun ρ3 H3 h h' S3 s3 g3 ev3 e3 p3=>?_
  cases (show l'=l from e2)
  cases (show h'=h from e3)
  have a3:=(a1.mv (g2.mv s1) g2.pre).mv (g3.mv s2) g3.pre
  obtain ⟨y,hy,p4⟩:=p3.opt
  clear p3 p2 p1 p a1
  have lst:∀ {q:Addr} {xs:List V} {ds:List D},SqL X.K H3 q xs→AVs X.K (Wn Z ρ3) H3 ds xs→y = .d (.lst (Y3k ds l h))→∃ a xs,V.ref q = .ref a∧SqL X.K H3 a xs∧∀ p,H3 p=none→Q (.ref p) (upd H3 p (.lst (L2.cutV xs l h))):=fun {q xs ds} hq hs ey=>by
    subst ey
    exact ⟨q,xs,rfl,hq,fun p hp=>W1.ret p4 s3 (U3 hp) (.d (Z69 (fun z hz=>s3.thereW hz) hp (hs.cutV l h)))⟩
  cases a3 with
  | d a =>
    cases a with
    | lst w r hs=>cases hy; exact .inl (.inl (lst (.inl (.inl r)) hs rfl))
    | scr r =>
      rename_i q ns
      cases hy
      exact .inl (.inl (lst r.sl (Y7e ns) (by rw [X80])))
    | tup t hs =>
      rename_i q xs ds
      cases hy
      refine .inl (.inr ⟨_,xs,rfl,t.sq,fun hw=>?_,fun _ p hp=>W1.ret p4 s3 (U3 hp) (.d (Y2c (fun z hz=>s3.thereW hz) hp (hs.cutV l h)))⟩)
      have e0:Y3k ds l h=ds:=by
        unfold Y3k
        rw [hs.length,hw.1,hw.2,List.drop_zero,Nat.sub_zero,← hs.length,List.take_length]
      rw [e0] at p4
      exact W1.ret0 p4 s3 (.d (.tup t hs))
    | str hz =>
      rename_i z
      have hy:(if decide (z.length ≤ sizeLine) then some (Bv.X.d (.str ⟨(Y3k z.cps.toList l h).toArray⟩)) else none)=some y:=hy
      obtain ⟨h1,h2⟩:=Z5k hy
      cases h2
      refine .inr ⟨z,rfl,of_decide_eq_true h1,?_⟩
      have e0:cutS z l h=⟨(Y3k z.cps.toList l h).toArray⟩:=by
        unfold cutS Y3k
        rw [show z.cps.toList.length=z.length from by simp [Str.length]]
      rw [e0]
      exact W1.ret0 p4 s3 (.d (.str (Y3o fun c m=>Y5d hz (X6i (by simpa using m)))))
    | _=>cases hy
  | r hr =>
    rename_i n q
    have hy:(match S3[n]? with
      | some (.lst xs)=>(ds? (Y3k xs l h)).map fun ds=>Bv.X.d (.lst ds)
      | _=>none)=some y:=hy
    cases z:S3[n]? with
    | none=>rw [z] at hy; cases hy
    | some ob =>
      rw [z] at hy
      cases ob with
      | lst xs =>
        obtain ⟨ds,h1,h2⟩:=Option.map_eq_some_iff.mp (show (ds? (Y3k xs l h)).map (fun ds=>Bv.X.d (.lst ds))=some y from hy)
        subst h2
        obtain ⟨vs,h3,h4⟩:=s3.ob n _ q z hr
        exact .inl (.inl ⟨q,vs,rfl, .inl (.inl h3),fun p hp=>W1.ret p4 s3 (U3 hp) (.d (Z69 (fun z hz=>s3.thereW hz) hp (AXs.ds (X7c h4 l h) h1)))⟩)
      | _=>cases hy
theorem Sta.putL {K:PySem.W.Frag} {Z:Wd} {ρ:List Addr} {S:Sto} {H:Hp} {n:Nat} {q:Addr} {xs:List Bv.X} {vs us:List V} (s:Sta K Z ρ S H) (hn:ρ[n]?=some q) (hq:H q=some (.lst us)) (a:AXs K (Wn Z ρ) ρ H xs vs):Sta K Z ρ (S.set n (.lst xs)) (upd H q (.lst vs))∧Go ρ H ρ (upd H q (.lst vs)) :=
  s.put hn (fun _ _ z=>by rw [hq] at z; cases z) ⟨vs,upd_same,AXs.mv (fun b o h z=>⟨h,by rw [upd_ne (fun y=>h (.inr (by rw [y]; exact List.mem_of_getElem? hn)))]; exact z⟩) (List.prefix_refl _) a⟩
def Z9l (ty:Sto→Bv.X→Bool) (g:Bv.X→List Bv.X→Sto→R Bv.X) (mo:M) (ms:MG (List Bv.X)):M:=fun e S=>(mo e S).bind fun x S1=>if ty S1 x then (ms e S1).bind fun xs S2=>g x xs S2 else .bad
def MtX (K:PySem.W.Frag) (r:V→List V→Hp→VK→Prop) (g:Bv.X→List Bv.X→Sto→R Bv.X):Prop:=∀ (Z:Wd) (ρ:List Addr) (S:Sto) (H:Hp) (Wx:WX) (σ:L2.St) (x:Bv.X) (v:V) (xs:List Bv.X) (vs:List V) (Q:VK),Sta K Z ρ S H→AX K (Wn Z ρ) ρ H x v→AXs K (Wn Z ρ) ρ H xs vs→W1 (AX K) K Z ρ H Wx σ Q (g x xs S)→r v vs H Q
theorem X2p {Z:Wd} {ρ:List Addr} {S:Sto} {H:Hp} {x:Bv.X} {v:V} (st:Sta X.K Z ρ S H) (a:AX X.K (Wn Z ρ) ρ H x v) (h:Z2q S x=true):tyV X.K "list" v H:=by
  cases a with
  | d a =>
    cases a with
    | lst w r hs=>exact .inl ⟨rfl,_, .inl (.inl r)⟩
    | _=>cases h
  | r e =>
    rename_i n q
    have h:(match S[n]? with
      | some (.lst _)=>true
      | _=>false)=true:=h
    cases z:S[n]? with
    | none=>rw [z] at h; cases h
    | some ob =>
      rw [z] at h
      cases ob with
      | lst xs =>
        obtain ⟨vs,h3,_⟩:=st.ob n _ q z e
        exact .inl ⟨rfl,vs, .inl (.inl h3)⟩
      | _=>cases h
variable {es:List Expr} {id:String} {name:Str} {r:V→List V→Hp→VK→Prop} {g:Bv.X→List Bv.X→Sto→R Bv.X} {cpos:Pos}
theorem Z45 (slot:Slot "list" name id) (hty:typeOf (.builtin id)=pure (.type "method_descriptor")) (hm:MtR X id r) (h:MtX X.K r g) (ho:ME X Wx o mo) (ha:MA X Wx (e :: es) ms) (hbase:attributeBase o name X.env (eval o X.env)=eval o X.env:=by rfl)
    (hfew:((backTo cpos (starEach (e :: es) X.env)).all (fun x => !x.1) && (backToKw cpos (keywordEach [] X.env)).all (fun x=>x.1.isSome)
      && decide ((e :: es).length + ([]:List Keyword).length + (if ([]:List Keyword).isEmpty then 0 else 1) < 30))=true:=by rfl)
    (hline:(apos.endLine == cpos.line)=true:=by rfl) (hs:starEach (e :: es) X.env=(false,eval e X.env) :: starEach es X.env:=by rfl) (hplain:(backTo cpos (starEach es X.env)).any (·.1)=false:=by rfl) :
    ME X Wx (.Call (.Attribute o name apos) (e :: es) [] cpos) (Z9l Z2q g mo ms):=PE.of (pe_bm PySem.F.plainAttrs_list slot hty hm ho ha hbase hfew hline hs hplain) fun σ H Q ⟨Z,ρ,e,S,st,ev,p⟩=>X9 st ev p fun ρ1 H1 v x S1 s1 g1 ev1 a1 p1=>by
  have p1:W1 (AX X.K) X.K Z ρ1 H1 Wx σ Q (if Z2q S1 x then (ms e S1).bind fun xs S2=>g x xs S2 else .bad):=p1
  split at p1
  · rename_i hl
    exact ⟨X2p s1 a1 hl,X9 s1 ev1 p1 fun ρ2 H2 vs xs S2 s2 g2 ev2 a2 p2=>h Z ρ2 S2 H2 Wx σ x v xs vs Q s2 (a1.mv (g2.mv s1) g2.pre) a2 p2⟩
  · exact p1.elim
theorem W1u (slot:Slot "list" name id) (hty:typeOf (.builtin id)=pure (.type "method_descriptor")) (hm:MtR X id r) (h:MtX X.K r g) (ho:ME X Wx o mo) (hbase:attributeBase o name X.env (eval o X.env)=eval o X.env:=by rfl) (hline:(apos.endLine == cpos.line)=true:=by rfl) :
    ME X Wx (.Call (.Attribute o name apos) [] [] cpos) (Z9l Z2q g mo Z7):=PE.of (pe_bm0 PySem.F.plainAttrs_list slot hty hm ho hbase hline) fun σ H Q ⟨Z,ρ,e,S,st,ev,p⟩=>X9 st ev p fun ρ1 H1 v x S1 s1 g1 ev1 a1 p1=>by
  have p1:W1 (AX X.K) X.K Z ρ1 H1 Wx σ Q (if Z2q S1 x then g x [] S1 else .bad):=p1
  split at p1
  · rename_i hl
    exact ⟨X2p s1 a1 hl,h Z ρ1 S1 H1 Wx σ x v [] [] Q s1 a1 .nil p1⟩
  · exact p1.elim
def X3m (S:Sto):Bv.X→Option (Nat × List Bv.X)
  | .r n=>(match S[n]? with
    | some (.lst xs)=>some (n,xs)
    | _=>none)
  | _=>none
theorem Y1j {K:PySem.W.Frag} {Z:Wd} {ρ:List Addr} {S:Sto} {H:Hp} {x:Bv.X} {v:V} {n:Nat} {xs:List Bv.X} (st:Sta K Z ρ S H) (a:AX K (Wn Z ρ) ρ H x v) (h:X3m S x=some (n,xs)):∃ q vs,v = .ref q∧ρ[n]?=some q∧H q=some (.lst vs)∧AXs K (Wn Z ρ) ρ H xs vs:=by
  cases a with
  | d a=>cases h
  | r e =>
    rename_i k q
    have h:(match S[k]? with
      | some (.lst xs)=>some (k,xs)
      | _=>none)=some (n,xs):=h
    cases z:S[k]? with
    | none=>rw [z] at h; cases h
    | some ob =>
      rw [z] at h
      cases ob with
      | lst ys =>
        cases h
        obtain ⟨vs,h3,h4⟩:=st.ob _ _ q z e
        exact ⟨q,vs,rfl,e,h3,h4⟩
      | _=>cases h
def Z0f:Bv.X→List Bv.X→Sto→R Bv.X:=fun x ys S=>match X3m S x,ys with
  | some (n,xs),[y]=>if decide (xs.length < sizeLine) then .ok (.d .non) (S.set n (.lst (xs++[y]))) else .bad
  | _,_ => .bad
theorem Z0p {K:PySem.W.Frag}:MtX K rAppend Z0f:=fun Z ρ S H Wx σ x v ys ws Q st a as p=>by
  unfold Z0f at p
  split at p
  · rename_i n xs y hl
    split at p
    · rename_i hz
      obtain ⟨q,vs,rfl,e,h3,h4⟩:=Y1j st a hl
      cases as with
      | cons h t =>
        cases t
        have hz:=of_decide_eq_true hz
        obtain ⟨s5,g5⟩:=st.putL e h3 (Paired.append h4 (.cons h .nil))
        exact ⟨q,vs,_,rfl,rfl,h3,by rw [← Paired.length h4]; exact hz,p ρ _ .non s5 g5 (.d .non)⟩
    · exact p.elim
  · exact p.elim
def X4t:Bv.X→List Bv.X→Sto→R Bv.X:=fun x ys S=>match X3m S x,ys with
  | some (n,xs),[]=>(match xs[xs.length - 1]? with
    | some y => .ok y (S.set n (.lst xs.dropLast))
    | none => .bad)
  | _,_ => .bad
theorem Paired.dropL {α β:Type} {F:α→β→Prop} {l:List α} {r:List β} (h:Paired F l r):Paired F l.dropLast r.dropLast:=by
  rw [List.dropLast_eq_take,List.dropLast_eq_take,Paired.length h]
  exact AXs.takeP _ h
theorem Paired.get {α β:Type} {F:α→β→Prop} {l:List α} {r:List β} (p:Paired F l r) {j:Nat} {a:α} (e:l[j]?=some a):∃ b,r[j]?=some b∧F a b:=by
  induction p generalizing j with
  | nil=>simp at e
  | cons x _ ih =>
    cases j with
    | zero=>simp at e; subst e; exact ⟨_,rfl,x⟩
    | succ n=>simp at e; obtain ⟨b,h1,h2⟩:=ih e; exact ⟨b,by simpa using h1,h2⟩
theorem W01 {K:PySem.W.Frag}:MtX K rPop X4t:=fun Z ρ S H Wx σ x v ys ws Q st a as p=>by
  unfold X4t at p
  split at p
  · rename_i n xs hl
    obtain ⟨q,vs,rfl,e,h3,h4⟩:=Y1j st a hl
    cases as
    cases hx:xs[xs.length - 1]? with
    | none=>rw [hx] at p; exact p.elim
    | some y =>
      rw [hx] at p
      obtain ⟨w,h5,h6⟩:=Paired.get h4 hx
      obtain ⟨s5,g5⟩:=st.putL e h3 (Paired.dropL h4)
      exact ⟨q,vs,w,rfl,rfl,h3,by rw [← Paired.length h4]; exact h5,p ρ _ w s5 g5 (h6.mv (g5.mv st) g5.pre)⟩
  · exact p.elim
def strs?:List Bv.X→Option (List Str)
  | []=>some []
  | .d (.str z) :: r=>(strs? r).map (z :: ·)
  | _ :: _=>none
theorem Y3p {K:PySem.W.Frag} {W:Wd} {ρ:List Addr} {H:Hp}:∀ {xs:List Bv.X} {vs:List V} {l:List Str},AXs K W ρ H xs vs→strs? xs=some l→vs=l.map V.str∧∀ z ∈ l,PyData.strOk z=true
  | _,_,_, .nil,e=>by cases e; exact ⟨rfl,fun z h=>by simp at h⟩
  | x :: r,_,l, .cons h t,e=>by
    cases x with
    | r n=>simp [strs?] at e
    | d d =>
      cases d with
      | str b =>
        obtain ⟨l2,h1,h2⟩:=Option.map_eq_some_iff.mp (show (strs? r).map (b :: ·)=some l from e)
        subst h2
        cases h with
        | d h =>
          cases h with
          | str hz =>
            obtain ⟨h3,h4⟩:=Y3p t h1
            exact ⟨by rw [h3]; rfl,fun z m=>(List.mem_cons.mp m).elim (fun q=>by rw [q]; exact hz) (h4 z)⟩
      | _=>simp [strs?] at e
theorem Y67 {a:Str} (ha:PyData.strOk a=true):∀ {ys:List Str},(∀ z ∈ ys,PyData.strOk z=true)→PyData.strOk (Str.join a ys)=true
  | [],_=>Y3o fun c m=>by simp [Str.join,Str.empty] at m
  | [x],h=>h x (by simp)
  | x :: y :: r,h=>by
    show PyData.strOk (x++a++Str.join a (y :: r))=true
    exact Z9f (Z9f (h x (by simp)) ha) (Y67 ha fun z m=>h z (List.mem_cons_of_mem _ m))
def X2l (a:Str) (y:Bv.X) (S:Sto):R Bv.X:=match (items S y).bind strs? with
  | some ys=>if decide ((ys.map (·.length)).sum + ys.length * a.length ≤ 16777216) then .ok (.d (.str (Str.join a ys))) S else .bad
  | none => .bad
def Y4o (g:Str→Bv.X→Sto→R Bv.X) (mo m:M):M:=fun e S=>(mo e S).bind fun x S1=>match x with
  | .d (.str a)=>(m e S1).bind fun y S2=>g a y S2
  | _ => .bad
theorem X9m (ho:ME X Wx o mo) (he:ME X Wx e m) (hs:starEach [e] X.env=[(false,eval e X.env)]:=by rfl) (hbase:attributeBase o "join" X.env (eval o X.env)=eval o X.env:=by rfl) (hline:(apos.endLine == pos.line)=true:=by rfl) :
    ME X Wx (.Call (.Attribute o "join" apos) [e] [] pos) (Y4o X2l mo m):=PE.of (pe_join ho he hs hbase hline) fun σ H Q ⟨Z,ρ,e,S,st,ev,p⟩=>X9 st ev p fun ρ1 H1 v x S1 s1 g1 ev1 a1 p1=>by
  cases a1 with
  | r _=>exact p1.elim
  | d a =>
    cases a with
    | str hz =>
      rename_i z
      refine ⟨⟨z,rfl⟩,X9 s1 ev1 (show W1 (AX X.K) X.K Z ρ1 H1 Wx σ Q ((m e S1).bind fun y S2=>X2l z y S2) from p1) fun ρ2 H2 u y S2 s2 g2 ev2 a2 p2=>?_⟩
      unfold X2l at p2
      cases q:(items S2 y).bind strs? with
      | none=>rw [q] at p2; exact p2.elim
      | some ys =>
        rw [q] at p2
        obtain ⟨zs,h1,h2⟩:=Option.bind_eq_some_iff.mp q
        obtain ⟨b,us,rfl,hq,hp⟩:=a2.items s2 h1
        obtain ⟨rfl,hk⟩:=Y3p hp h2
        have p2:W1 (AX X.K) X.K Z ρ2 H2 Wx σ Q (if decide ((ys.map (·.length)).sum + ys.length * z.length ≤ 16777216) then .ok (.d (.str (Str.join z ys))) S2 else .bad):=p2
        split at p2
        · rename_i hl
          refine ⟨z,b,ys,rfl,rfl,hq.symm,of_decide_eq_true hl,?_⟩
          rw [show Txt.join z ys=Str.join z ys from StrLaws.glued_eq_join ..]
          exact W1.ret0 p2 s2 (.d (.str (Y67 hz hk)))
        · exact p2.elim
    | _=>exact p1.elim
def Y1p (i j:Nat) (ms:MG (List Bv.X)):MS:=fun e S=>(ms e S).so e fun xs S1=>match xs with
  | [x,y] => .go (.nx ((e.set i (some x)).set j (some y))) S1
  | _ => .bad
theorem Z7f {i j:Nat} {x y:Str} {px py pt:Pos} {kt k2 pt2} (hc:X.calm=true) (hN:X.N.Nodup) (hi:X.N[i]?=some x) (hj:X.N[j]?=some y) (hij:i ≠ j) (hx:X.env.scope.names.lookup x=some .local) (hy:X.env.scope.names.lookup y=some .local) (ha:MA X Wx [a,b] ms)
    (hw:swappedStores [.Tuple [.Name x px, .Name y py] kt pt] (.Tuple [a,b] k2 pt2) X.env=pure (some [x,y]):=by rfl) (hs:swapsWithSole [.Tuple [.Name x px, .Name y py] kt pt] (.Tuple [a,b] k2 pt2) pos.line X.env=pure false:=by rfl) :
    MP X Wx (.Assign [.Tuple [.Name x px, .Name y py] kt pt] (.Tuple [a,b] k2 pt2) pos) (Y1p i j ms):=PS.of (ps_par hc hN hi hj hij hx hy ha hw hs) fun D σ H ⟨Z,ρ,e,S,st,ev,p⟩=>Z1r (rel:=AXs X.K) st ev p fun ρ1 H1 vs xs S1 s1 g1 ev1 a1 p1=>by
  match xs,vs,a1,p1 with
  | [x,y],_, .cons h1 (.cons h2 .nil),p1=>exact ⟨_,_,rfl,p1.next s1 ((ev1.set h1).set h2)⟩
  | [],_,_,p1=>exact p1.elim
  | [_],_,_,p1=>exact p1.elim
  | _ :: _ :: _ :: _,_,_,p1=>exact p1.elim
end
end Bv
namespace Bv
open PySem PySem.Spec L2
open PyProof.Rows hiding St
variable [HasW]
structure OwnIs (K:PySem.W.Frag) (C:Str):Prop where
  cl:Cls K (He.ga K C)
  ha:PySem.W.findIn K (.ref (He.ga K C)) "__class__" = some (some (.builtin "object.__class__"))
  hn:PySem.W.specialIn K (.builtin "object.__class__") "__get__" = some (some (.builtin "getset_descriptor.__get__"))
  htk:PySem.W.takesIn K (.builtin "object.__class__")=some true
  hm:PySem.W.mroIn K (He.ga K C) (.type "object")=some true
structure IsT (K:PySem.W.Frag) (u:Value) (tab:List (String × Bool)) (own:List (Str × Bool)):Prop where
  bt:∀ k b,tab.lookup k=some b→PySem.W.kitOne K (.type k) u=some b
  ow:∀ C b,own.lookup C=some b→OwnIs K C∧PySem.W.kitOne K (.ref (He.ga K C)) u=some b
def W26:D→Option String
  | .non=>some "NoneType"
  | .bl _=>some "bool"
  | .int _=>some "int"
  | .str _=>some "str"
  | .tup _=>some "tuple"
  | .lst _=>some "list"
  | .scr _=>some "list"
  | .dic _=>some "dict"
  | _=>none
def isX (tab:List (String × Bool)) (own:List (Str × Bool)) (S:Sto):X→Option Bool
  | .d (.obj C _)=>own.lookup C
  | .d d=>(W26 d).bind fun k=>tab.lookup k
  | .r n=>match S[n]? with
    | some (.lst _)=>tab.lookup "list"
    | some (.dic _)=>tab.lookup "dict"
    | some (.fdc _)=>tab.lookup "dict"
    | some (.ins C _)=>own.lookup C
    | _=>none
def Y5m (tab:List (String × Bool)) (own:List (Str × Bool)) (m:M):M:=fun e S=>(m e S).bind fun x S1=>Y3b ((isX tab own S1 x).map fun b => .d (.bl b)) S1
section
variable {X:Cx} {Wx:WX} {pos p p2 apos:Pos} {a b c o i e:Expr} {ma mb mc m mo mi:M} {ms:MG (List Bv.X)}
theorem Tp.tyX {K:PySem.W.Frag} {W:Wd} {H:Hp} {a:Addr} {xs:List V} (t:Tp K W H a xs):TyX K H (.ref a) (.type "tuple"):=by
  rcases t with ⟨_,h⟩ | ⟨o,its,n,h1,h2,_⟩
  · exact .base (.tup h)
  · exact .kTuple h1 h2
theorem W1j {K:PySem.W.Frag} {u:Value} {tab:List (String × Bool)} {own:List (Str × Bool)} (T:IsT K u tab own) {Z:Wd} {ρ:List Addr} {S:Sto} {H:Hp} {x:Bv.X} {v:V} {k:Bool} (st:Sta K Z ρ S H) (a:AX K (Wn Z ρ) ρ H x v) (h:isX tab own S x=some k) :
    ∃ t,TyX K H v t∧PySem.W.kitOne K t u=some k:=by
  cases a with
  | d a =>
    cases a with
    | obj w r hs =>
      obtain ⟨O,q⟩:=T.ow _ _ h
      exact ⟨_, .base (.ins r O.cl O.ha O.hn O.htk O.hm),q⟩
    | non=>exact ⟨_, .base .non,T.bt _ _ h⟩
    | bl k=>exact ⟨_, .base (.bl k),T.bt _ _ h⟩
    | int k=>exact ⟨_, .base (.int k),T.bt _ _ h⟩
    | str k=>exact ⟨_, .base (.str _),T.bt _ _ h⟩
    | tup t hs=>exact ⟨_,t.tyX,T.bt _ _ h⟩
    | lst w r hs=>exact ⟨_, .base (.lst r),T.bt _ _ h⟩
    | scr r =>
      rcases r with ⟨_,r | ⟨ob,r⟩⟩ | ⟨o,its,n,r1,r2,_⟩
      · exact ⟨_, .base (.lst r),T.bt _ _ h⟩
      · exact ⟨_, .base (.frz r),T.bt _ _ h⟩
      · exact ⟨_, .kList r1 r2,T.bt _ _ h⟩
    | dic w r hs=>exact ⟨_, .fDict r,T.bt _ _ h⟩
    | gl x=>cases h
  | r e =>
    rename_i n q
    have h:(match S[n]? with
      | some (.lst _)=>tab.lookup "list"
      | some (.dic _)=>tab.lookup "dict"
      | some (.fdc _)=>tab.lookup "dict"
      | some (.ins C _)=>own.lookup C
      | _=>none)=some k:=h
    cases z:S[n]? with
    | none=>rw [z] at h; cases h
    | some ob =>
      rw [z] at h
      have y:=st.ob n _ q z e
      cases ob with
      | lst xs=>obtain ⟨vs,h1,_⟩:=y; exact ⟨_, .base (.lst h1),T.bt _ _ h⟩
      | dic xs=>obtain ⟨vs,h1,_⟩:=y; exact ⟨_, .base (.dK h1),T.bt _ _ h⟩
      | fdc xs=>obtain ⟨o,vs,h1,_⟩:=y; exact ⟨_, .fDict h1,T.bt _ _ h⟩
      | tdc xs=>cases h
      | tfc xs=>cases h
      | ins C fs =>
        obtain ⟨dx,vs,h1,_⟩:=y
        obtain ⟨O,q⟩:=T.ow _ _ h
        exact ⟨_, .base (.ins h1 O.cl O.ha O.hn O.htk O.hm),q⟩
theorem Y4p {tab:List (String × Bool)} {own:List (Str × Bool)} {u:Value} {cv:V} (hg:Gl X "isinstance") (hm:X.mg "isinstance" = none) (he:ME X Wx a m) (hc:PE X c (tC cv)) (T:IsT X.K u tab own) (k:ClsV cv u)
    (hs:starEach [a,c] X.env=(false,eval a X.env) :: starEach [c] X.env:=by rfl) (hs2:starEach [c] X.env=(false,eval c X.env) :: starEach [] X.env:=by rfl) (hpl:(backTo pos (starEach [c] X.env)).any (·.1)=false:=by rfl) :
    ME X Wx (.Call (.Name "isinstance" p) [a,c] [] pos) (Y5m tab own m):=PE.of (pe_callB call_isi hg hm (by rfl) (pa_cons he (pa_cons hc pa_nil hs2) hs) (by decide) (by decide) hs hpl) fun σ H Q ⟨Z,ρ,e,S,st,ev,q⟩=>X9 st ev q fun ρ1 H1 v x S1 s1 g1 ev1 a1 p1=>by
  obtain ⟨w,hw,p2⟩:=p1.opt
  obtain ⟨b,h1,h2⟩:=Option.map_eq_some_iff.mp hw
  subst h2
  obtain ⟨t,ty,kt⟩:=W1j T s1 a1 h1
  exact ⟨v,cv,t,u,b,rfl,k,ty,kt,W1.ret0 p2 s1 (.d (.bl b))⟩
omit [HasW] in
theorem X47 {β:Type} {k:String} {b:β}:∀ {l:List (String × β)},l.lookup k=some b→(k,b) ∈ l
  | [],h=>by cases h
  | (k',b') :: r,h=>by
    rw [List.lookup_cons] at h
    cases q:k == k' with
    | true =>
      rw [q] at h
      cases h
      rw [beq_iff_eq.mp q]
      exact List.mem_cons_self
    | false=>rw [q] at h; exact List.mem_cons_of_mem _ (X47 h)
def Y6e (T:String):List (String × Bool):=["NoneType", "bool", "int", "str", "tuple", "list", "dict"].filterMap fun k=>(kitB k T).map fun b=>(k,b)
def isB (a b:D):Option D:=match a,b with
  | .bl x, .bl y=>some (.bl (decide (x=y)))
  | _,_=>none
theorem W3g {K:PySem.W.Frag}:Op2 K rIsB isB:=fun W H d1 d2 v1 v2 d Q hw a1 a2 e k=>by
  cases d1 <;> cases d2 <;> first | (cases e; exact ⟨_,_,a1.bl_inv,a2.bl_inv,k H _ (Same.refl H) (.bl _)⟩) | cases e
def Y4h:List Bv.X→Sto→R Bv.X
  | [.d (.int i)],S=>if decide (i.natAbs.log2 < 1920) && PyData.strOk (toString i:String) then .ok (.d (.str (toString i:String))) S else .bad
  | [.d (.str z)],S => .ok (.d (.str z)) S
  | _,_ => .bad
abbrev W2a:List V→Hp→VK→Prop:=fun xs H Q=>(∃ i,xs=[.int i]∧i.natAbs.log2 < 1920∧Q (.str (toString i)) H) ∨ ∃ a,xs=[.str a]∧Q (.str a) H
theorem Y8m:CallR X (.type "str") W2a:=CallR.or call_str_int SkE.call_str_str
theorem Y8k {K:PySem.W.Frag}:X0t K W2a Y4h:=fun Z ρ S H Wx σ xs vs Q st a h=>by
  unfold Y4h at h
  split at h
  · rename_i i
    obtain ⟨v,rfl,b⟩:=Y9u a
    have e:v = .int i:=by cases b; rfl
    split at h
    · rename_i hc
      obtain ⟨h1,h2⟩:=Bool.and_eq_true_iff.mp hc
      exact .inl ⟨i,by rw [e],of_decide_eq_true h1,W1.ret0 h st (.d (.str h2))⟩
    · exact h.elim
  · rename_i z
    obtain ⟨v,rfl,b⟩:=Y9u a
    have e:v = .str z:=by cases b; rfl
    have hz:PyData.strOk z=true:=by cases b with | str h=>exact h
    exact .inr ⟨z,by rw [e],W1.ret0 h st (.d (.str hz))⟩
  · exact h.elim
end
end Bv
namespace Bv
open PySem PySem.Spec L2
open PyProof.Rows hiding St
variable [HasW]
abbrev EN:XK:=fun _ _ _=>False
section
variable {X:Cx} {Wx:WX} {pos p p2 apos:Pos} {a b c o i e:Expr} {ma mb mc m mo mi:M} {ms:MG (List Bv.X)} {k n:Nat} {f:Addr} {fd:FuncData} {ps:List Str} {g:List D→PR} {C:Str}
theorem W2d {pins:List (Addr × Obj)} {σ:St} {H:Hp} {s:Shared} {Q:VK} {us:List Value} {vs:List V} {sp:Sp} {A:Around} {E:Value→Shared→Prop} (F:FnG X.prog X.w X.K X.mg X.base k f fd ps sp) (gu:A.guards=some []) (room:Room k A) (hb:Binds X.K fd ps []) (I:Inv X pins σ H s)
    (e0:Env0 X.prog X.w X.K X.mg X.base A X.stack s H) (r:Vals vs us) (h:sp vs H Q EN):wpAny (model X.prog X.w) A (call (.ref f) us) (EP X pins σ Q) E s:=by
  have many:us.length=ps.length:=r.length.symm.trans (F.len _ _ _ _ h)
  have bd:=hb s us I.kIn (by rw [List.append_nil]; exact many)
  rw [List.append_nil] at bd
  refine wpAny_call (codeAny_mono (F.run A X.stack s H ⟨us,[]⟩ us vs Q EN gu room e0 bd r h) fun y s' z=>?_)
  cases y with
  | error e =>
    obtain ⟨_,_,_,_,_,_,_,_,_,_,_,_,no⟩:=z
    exact no.elim
  | ok fl =>
    cases fl with
    | ret u=>exact I.after z
    | next=>exact z.elim
    | brk=>exact z.elim
    | cont=>exact z.elim
theorem W1i {pins:List (Addr × Obj)} {σ:St} {H:Hp} {s:Shared} {a Ca dx:Addr} {fs:List (Str × V)} (I:Inv X pins σ H s) (h:H a=some (.ins Ca dx fs)):∃ ox od,PySem.W.InstAt s.heap a ox Ca od:=by
  obtain ⟨mA,J,_⟩:=ins_get I.hok h
  obtain ⟨od,J2,_⟩:=J.look
  exact ⟨_,_,J2⟩
structure OwnStr (K:PySem.W.Frag) (C:Str) (f:Addr):Prop where
  at_:PySem.W.findIn K (.ref (He.ga K C)) "__str__" = some (some (.ref f))
  fn:PySem.W.isFn K (.ref f)=true
structure OwnEq (K:PySem.W.Frag) (C:Str) (f:Addr):Prop where
  at_:PySem.W.findIn K (.ref (He.ga K C)) "__eq__" = some (some (.ref f))
  fn:PySem.W.isFn K (.ref f)=true
  ne:PySem.W.findIn K (.ref (He.ga K C)) "__ne__" = some (some (.builtin "object.__ne__"))
  mo:PySem.W.mroIn K (He.ga K C) (.type "object")=some true
def eqO (C:Str) (g:List D→PR) (neg:Bool) (a b:D):Option D:=match a,b with
  | .obj C1 f1, .obj C2 f2=>if decide (C1=C) && decide (C2=C) then (match g [.obj C1 f1, .obj C2 f2] with
    | .ok (.bl r)=>some (.bl (r ^^ neg))
    | _=>none) else none
  | _,_=>none
structure IsTs (K:PySem.W.Frag) (us:List Value) (tab:List (String × Bool)) (own:List (Str × Bool)):Prop where
  bt:∀ k b,tab.lookup k=some b→PySem.W.kitAny K (.type k) us=some b
  ow:∀ C b,own.lookup C=some b→OwnIs K C∧PySem.W.kitAny K (.ref (He.ga K C)) us=some b
theorem X9d {K:PySem.W.Frag} {us:List Value} {tab:List (String × Bool)} {own:List (Str × Bool)} (T:IsTs K us tab own) {Z:Wd} {ρ:List Addr} {S:Sto} {H:Hp} {x:Bv.X} {v:V} {k:Bool} (st:Sta K Z ρ S H) (a:AX K (Wn Z ρ) ρ H x v) (h:isX tab own S x=some k) :
    ∃ t,TyX K H v t∧PySem.W.kitAny K t us=some k:=by
  cases a with
  | d a =>
    cases a with
    | obj w r hs =>
      obtain ⟨O,q⟩:=T.ow _ _ h
      exact ⟨_, .base (.ins r O.cl O.ha O.hn O.htk O.hm),q⟩
    | non=>exact ⟨_, .base .non,T.bt _ _ h⟩
    | bl k=>exact ⟨_, .base (.bl k),T.bt _ _ h⟩
    | int k=>exact ⟨_, .base (.int k),T.bt _ _ h⟩
    | str k=>exact ⟨_, .base (.str _),T.bt _ _ h⟩
    | tup t hs=>exact ⟨_,t.tyX,T.bt _ _ h⟩
    | lst w r hs=>exact ⟨_, .base (.lst r),T.bt _ _ h⟩
    | scr r =>
      rcases r with ⟨_,r | ⟨ob,r⟩⟩ | ⟨o,its,n,r1,r2,_⟩
      · exact ⟨_, .base (.lst r),T.bt _ _ h⟩
      · exact ⟨_, .base (.frz r),T.bt _ _ h⟩
      · exact ⟨_, .kList r1 r2,T.bt _ _ h⟩
    | dic w r hs=>exact ⟨_, .fDict r,T.bt _ _ h⟩
    | gl x=>cases h
  | r e =>
    rename_i n q
    have h:(match S[n]? with
      | some (.lst _)=>tab.lookup "list"
      | some (.dic _)=>tab.lookup "dict"
      | some (.fdc _)=>tab.lookup "dict"
      | some (.ins C _)=>own.lookup C
      | _=>none)=some k:=h
    cases z:S[n]? with
    | none=>rw [z] at h; cases h
    | some ob =>
      rw [z] at h
      have y:=st.ob n _ q z e
      cases ob with
      | lst xs=>obtain ⟨vs,h1,_⟩:=y; exact ⟨_, .base (.lst h1),T.bt _ _ h⟩
      | dic xs=>obtain ⟨vs,h1,_⟩:=y; exact ⟨_, .base (.dK h1),T.bt _ _ h⟩
      | fdc xs=>obtain ⟨o,vs,h1,_⟩:=y; exact ⟨_, .fDict h1,T.bt _ _ h⟩
      | tdc xs=>cases h
      | tfc xs=>cases h
      | ins C fs =>
        obtain ⟨dx,vs,h1,_⟩:=y
        obtain ⟨O,q⟩:=T.ow _ _ h
        exact ⟨_, .base (.ins h1 O.cl O.ha O.hn O.htk O.hm),q⟩
end
end Bv
namespace Bv
open PySem PySem.Spec L2
open PyProof.Rows hiding St
structure DefB where
  ad:PySem.W.Frag→Addr
  name:Str
  qual:Str
  params:Arguments
  body:List Stmt
  scope:Scope
  dfl:List He.Dv:=[]
def X6h (C m:Str) (K:PySem.W.Frag):Addr:=match PySem.W.recIn K (He.ma K (He.ga K C) m) "classmethod" with
  | some (.ref g :: _)=>g
  | _=>0
def seen (K:PySem.W.Frag) (a:Addr):He.FnW:=match K.lookup a with
  | some ⟨_,_, .func fd,_⟩=>some (fd.name,fd.qualname,fd.params,fd.body,fd.scope,fd.globals,fd.closure,fd.builtins)
  | _=>none
def DefB.val (d:DefB):He.FnW:=some (d.name,d.qual,d.params, .stmts d.body,d.scope,mainGlobals,[],builtinsNs)
def DefB.dvs (K:PySem.W.Frag) (d:DefB):List V:=d.dfl.map (He.Dv.v K)
def DefB.ok (K:PySem.W.Frag) (d:DefB):Bool:=PySem.W.keepIn K (.ref (d.ad K)) && (match K.lookup (d.ad K) with
  | some ⟨_,_, .func fd,_⟩=>PySem.W.codeIn K fd.code d.qual && He.dflB K fd.defaults (d.dvs K)
  | _=>false)
theorem DefB.fun {K:PySem.W.Frag} {d:DefB} (e:seen K (d.ad K)=d.val) (c:d.ok K=true):∃ fd,FunD K d.name d.qual d.params d.body d.scope (d.dvs K) [] (d.ad K) fd:=by
  obtain ⟨kp,c2⟩:=He.ba c
  unfold seen at e
  cases q:K.lookup (d.ad K) with
  | none=>rw [q] at c2; cases c2
  | some o =>
    obtain ⟨oc,od,dt,osl⟩:=o
    rw [q] at c2 e
    cases dt with
    | func fd =>
      obtain ⟨m1,m2,m3,m4,m5,m6,m7,m8,m9,m10,m11,m12,m13,m14,m15⟩:=fd
      have e2:(some (m1,m2,m3,m4,m5,m6,m7,m15):He.FnW)=some (d.name,d.qual,d.params, .stmts d.body,d.scope,mainGlobals,[],builtinsNs):=e
      simp only [Option.some.injEq,Prod.mk.injEq] at e2
      obtain ⟨rfl,rfl,rfl,rfl,rfl,rfl,rfl,rfl⟩:=e2
      obtain ⟨k1,k2⟩:=He.ba (show (PySem.W.codeIn K m13 d.qual && He.dflB K m8 (d.dvs K))=true from c2)
      exact ⟨_,⟨oc,od,m8,m9,m10,m11,m12,m13,m14,osl,rfl,q,k1,He.dflB_ok k2, .inl rfl⟩,kp⟩
    | _=>cases c2
abbrev AlB:Type:=Bool × List He.FnW
def W35 (ts:List (PySem.W.Frag→Bool)) (ds:List DefB) (K:PySem.W.Frag):AlB:=((ts.all fun t=>t K) && ds.all fun d=>d.ok K,ds.map fun d=>seen K (d.ad K))
def W4a (ds:List DefB):AlB:=(true,ds.map DefB.val)
def Y7d (ts:List (PySem.W.Frag→Bool)) (ds:List DefB) (K:PySem.W.Frag):Prop:=W35 ts ds K=W4a ds
section
variable {ts:List (PySem.W.Frag→Bool)} {ds:List DefB} {K:PySem.W.Frag}
theorem Y7d.both (c:Y7d ts ds K):(ts.all fun t=>t K)=true∧(ds.all fun d=>d.ok K)=true:=He.ba (show ((ts.all fun t=>t K) && ds.all fun d=>d.ok K)=true from congrArg (fun z:AlB=>z.1) c)
theorem Y7d.test (c:Y7d ts ds K) (i:Nat) {t:PySem.W.Frag→Bool} (h:ts[i]?=some t:=by rfl):t K=true:=List.all_eq_true.mp c.both.1 t (List.mem_of_getElem? h)
theorem Y7d.fun (c:Y7d ts ds K) (i:Nat) {d:DefB} (h:ds[i]?=some d:=by rfl):∃ fd,FunD K d.name d.qual d.params d.body d.scope (d.dvs K) [] (d.ad K) fd:=by
  have e:ds.map (fun d=>seen K (d.ad K))=ds.map DefB.val:=congrArg (fun z:AlB=>z.2) c
  have e2:=congrArg (fun l=>l[i]?) e
  simp only [List.getElem?_map,h,Option.map_some,Option.some.injEq] at e2
  exact DefB.fun e2 (List.all_eq_true.mp c.both.2 d (List.mem_of_getElem? h))
end
def Z0w (x:Str) (K:PySem.W.Frag):Bool:=(He.Fa.glo x).ok K
def Z6k (x:Str) (K:PySem.W.Frag):Bool:=(He.Fa.free x).ok K
def X56 (C:Str) (K:PySem.W.Frag):Bool:=(He.Fa.cls C).ok K
def W2l (C f:Str) (K:PySem.W.Frag):Bool:=(He.Fa.noat C f).ok K
def Z3i (C m:Str) (K:PySem.W.Frag):Bool:=(He.Fa.meth C m).ok K
def X1z (C:Str) (K:PySem.W.Frag):Bool:=(He.Fa.mkr C).ok K
def W0d (C:Str) (K:PySem.W.Frag):Bool:=(He.Fa.cls C).ok K && (He.eqO (PySem.W.findIn K (.ref (He.ga K C)) "__class__") (some (some (.builtin "object.__class__"))) && (He.eqO (PySem.W.specialIn K (.builtin "object.__class__") "__get__") (some (some (.builtin "getset_descriptor.__get__"))) &&
  (decide (PySem.W.takesIn K (.builtin "object.__class__")=some true) && decide (PySem.W.mroIn K (He.ga K C) (.type "object")=some true))))
theorem X8e {C:Str} {K:PySem.W.Frag} (h:W0d C K=true):OwnIs K C:=by
  obtain ⟨c1,h⟩:=He.ba h
  obtain ⟨c2,h⟩:=He.ba h
  obtain ⟨c3,h⟩:=He.ba h
  obtain ⟨c4,c5⟩:=He.ba h
  exact ⟨He.cls_ok c1,He.eqO_ok c2,He.eqO_ok c3,of_decide_eq_true c4,of_decide_eq_true c5⟩
def Y0n (x:Str) (vs:List Str) (K:PySem.W.Frag):Bool:=He.tupB K x (vs.map He.Dv.str)
theorem X14 {K:PySem.W.Frag} {W:Wd} {H:Hp}:∀ {vs:List Str},(vs.all fun z=>PyData.strOk z)=true→AVs K W H (vs.map D.str) ((vs.map He.Dv.str).map (He.Dv.v K))
  | [],_ => .nil
  | z :: r,h=>by
    rw [List.all_cons,Bool.and_eq_true] at h
    exact .cons (.str h.1) (X14 h.2)
theorem X9f {K:PySem.W.Frag} {x:Str} {vs:List He.Dv} (h:He.tupB K x vs=true):W31 K (He.ga K x) (vs.map (He.Dv.v K)):=by
  unfold He.tupB at h
  cases q:K.lookup (He.ga K x) with
  | none=>rw [q] at h; cases h
  | some o =>
    obtain ⟨oc,od,dt,osl⟩:=o
    rw [q] at h
    cases oc with
    | type c =>
      cases dt with
      | seq its n =>
        obtain ⟨h1,h2⟩:=He.ba (show (decide (c = "tuple") && (decide (its.size ≤ sizeLine) && He.relAll (vs.map (He.Dv.v K)) its.toList))=true from h)
        obtain ⟨h3,h4⟩:=He.ba h2
        exact ⟨_,its,n,q,congrArg Value.type (of_decide_eq_true h1),rfl,of_decide_eq_true h3,He.relAll_ok h4⟩
      | _=>cases h
    | _=>cases dt <;> cases h
theorem X7x {K:PySem.W.Frag} {x:Str} {vs:List Str} (h:Y0n x vs K=true) (hv:(vs.all fun z=>PyData.strOk z)=true:=by decide +kernel):∃ v,(∀ W H,AV K W H (.tup (vs.map D.str)) v)∧RelV v (.ref (He.ga K x)) :=
  ⟨.ref (He.ga K x),fun W H => .tup (.inr (X9f h)) (X14 hv),rfl⟩
def X0l (x z:Str) (K:PySem.W.Frag):Bool:=(He.Fa.str x z).ok K
def W0b (x:Str) (i:Int) (K:PySem.W.Frag):Bool:=(He.Fa.int x i).ok K
section
variable {K:PySem.W.Frag} {h:Heap} {mg:Str→Option Value}
def X8m (f:Str × Option Str) (i:Nat) (K:PySem.W.Frag):Bool:=match K.lookup (He.dflAt f i K) with
  | some ⟨.type c,_, .seq its _,_⟩=>decide (c = "tuple") && decide (its.size=0)
  | _=>false
end
structure Kept (P:Program) (w:World) (K:PySem.W.Frag) (mg:Str→Option Value) (base:Heap) (k:Nat) (f:Addr) (sp:Sp):Prop where
  ex:∃ fd ps,FnG P w K mg base k f fd ps sp∧Binds K fd ps []
  kp:PySem.W.keepIn K (.ref f)=true
structure KeptD (P:Program) (w:World) (K:PySem.W.Frag) (mg:Str→Option Value) (base:Heap) (k:Nat) (f:Addr) (sp:Sp) (dxs:List D):Prop where
  ex:∃ fd ps dvs ds,FnG P w K mg base k f fd ps sp∧Binds K fd ps ds∧Dft K dxs dvs ds
  kp:PySem.W.keepIn K (.ref f)=true
structure Here (X:Cx) (Wx:WX) (k:Nat):Prop where
  tk:Xq.Tk X Wx
  gu:X.A.guards=some []
  room:Room k X.A
section
variable [HasW] {X:Cx} {Wx:WX} {k j n:Nat} {f:Addr} {dxs:List D}
theorem AVs.len_d {K:PySem.W.Frag} {ds:List Value} {dvs:List V} (d:Dft K dxs dvs ds):dvs.length=dxs.length:=(d.av (fun _=>False) (fun _=>none)).length.symm
theorem Here.callE {g:List Bv.X→Sto→R Bv.X} (h:Here X Wx k) (c:Kept X.prog X.w X.K X.mg X.base j f (spE X.K n g)) (hj:j ≤ k:=by decide):X37 X Wx (.ref f) n (X5 [] g):=by
  obtain ⟨fd,ps,F,b⟩:=c.ex
  exact W04 h.tk h.gu F (h.room.mono hj) b X00
theorem Here.callP {g:List D→PR} (h:Here X Wx k) (c:Kept X.prog X.w X.K X.mg X.base j f (spP X.K n g)) (hj:j ≤ k:=by decide):X37 X Wx (.ref f) n (X5 [] (Bv.callP g)):=by
  obtain ⟨fd,ps,F,b⟩:=c.ex
  exact W2z h.tk h.gu F (h.room.mono hj) b X00
theorem Here.make {C:Str} {mk:Nat→R Bv.X→R Bv.X} {g:List Bv.X→Sto→R Bv.X} (hm:Mks mk) (h:Here X Wx k) (M:Mk X.K (He.ga X.K C) f) (c:Kept X.prog X.w X.K X.mg X.base j f (spE X.K (n + 1) g)) (hj:j + 1 ≤ k:=by decide):X37 X Wx (.ref (He.ga X.K C)) n (X5 [] (made C mk g)):=by
  obtain ⟨fd,ps,F,b⟩:=c.ex
  exact X6g hm h.tk h.gu M F (h.room.mono hj) b X00
end
end Bv
namespace Bv
open PySem PySem.Spec L2
open PyProof.Rows hiding St
variable [HasW]
theorem W0 {P:Program} {w:World} {K:PySem.W.Frag} {mg:Str→Option Value} {base:Heap} {N:List Str} {qual:Str} {sc:Scope} {f:Addr} {cdv:Value} {A:Around} {outer:List Env} {s:Shared} {H:Hp} {E:XK} {k:Nat}
    (gu:A.guards=some []) (room:Room k (A.deeper (envOfC qual sc s.heap.objs.size f cdv))):Here (cxB P w K mg base N qual sc f cdv A outer s H E) (wxE E) k :=
  ⟨Xq.tk_of (E:=E) rfl rfl rfl rfl,gu,room⟩
theorem Z3h {P:Program} {w:World} {K:PySem.W.Frag} {mg:Str→Option Value} {base:Heap} {N:List Str} {qual:Str} {sc:Scope} {f:Addr} {cdv:Value} {A:Around} {outer:List Env} {s:Shared} {H:Hp} {E:XK} :
    PassesOwn (model (cxB P w K mg base N qual sc f cdv A outer s H E).prog (cxB P w K mg base N qual sc f cdv A outer s H E).w) (cxB P w K mg base N qual sc f cdv A outer s H E).A (cxB P w K mg base N qual sc f cdv A outer s H E).env (cxB P w K mg base N qual sc f cdv A outer s H E).xe :=
  passes_of (X:=cxB P w K mg base N qual sc f cdv A outer s H E) rfl
theorem X25 {P:Program} {w:World} {K:PySem.W.Frag} {mg:Str→Option Value} {base:Heap} {N:List Str} {qual:Str} {sc:Scope} {f:Addr} {cdv:Value} {A:Around} {outer:List Env} {s:Shared} {H:Hp} {E:XK} (hd:Option Value) :
    PassesOwnAt (model (cxB P w K mg base N qual sc f cdv A outer s H E).prog (cxB P w K mg base N qual sc f cdv A outer s H E).w) ((cxB P w K mg base N qual sc f cdv A outer s H E).A.mark hd) (cxB P w K mg base N qual sc f cdv A outer s H E).A (cxB P w K mg base N qual sc f cdv A outer s H E).env (cxB P w K mg base N qual sc f cdv A outer s H E).xe :=
  L2H.passesAt_of (X:=cxB P w K mg base N qual sc f cdv A outer s H E) rfl hd
section
variable {X:Cx} {Wx:WX} {k:Nat} {pos:Pos} {a b c:Expr} {ma mb mc m:M}
theorem Here.blk (h:Here X Wx k) (s:Shared) (H:Hp) (sc:Scope) (ce:Env) (fp:List Addr):Here (X.blk s H sc ce fp) WX0 k:=⟨Xq.tk0,h.gu,h.room⟩
theorem Here.u1 (h:Here X Wx k):X.A.units + 1 < cLine:=by have:=h.room.un; omega
theorem Here.u64 (h:Here X Wx k):X.A.units + 64 < cLine:=by have:=h.room.un; omega
theorem Here.u65 (h:Here X Wx k):X.A.units + 65 < cLine:=by have:=h.room.un; omega
structure Opr (X:Cx) (s:Value→Value→Sem Value) (f:D→D→Option D):Prop where
  ex:∃ r:R2,OpR X s r∧Op2 X.K r f
theorem Here.eq (h:Here X Wx k):Opr X (compareOp .Eq) eqD:=⟨_,op_eqD h.u64,W4h⟩
theorem Here.ne (h:Here X Wx k):Opr X (compareOp .NotEq) neD:=⟨_,op_neD h.u64,W4k⟩
theorem Here.in_ (h:Here X Wx k):Opr X (compareOp .In) inD:=⟨_,W13 h.u65,W4i⟩
theorem Here.nin (h:Here X Wx k):Opr X (compareOp .NotIn) X8d:=⟨_,X9x h.u65,W3i⟩
theorem Here.lt (h:Here X Wx k):Opr X (compareOp .Lt) ltD:=⟨_,op_lt,X22⟩
theorem Here.le (h:Here X Wx k):Opr X (compareOp .LtE) leD:=⟨_,op_le,X22⟩
theorem Here.gt (h:Here X Wx k):Opr X (compareOp .Gt) gtD:=⟨_,op_gt,X22⟩
theorem Here.ge (h:Here X Wx k):Opr X (compareOp .GtE) geD:=⟨_,op_ge,X22⟩
theorem Here.is_ (h:Here X Wx k):Opr X (compareOp .Is) isD:=⟨_,op_isN,W4j⟩
theorem Here.isn (h:Here X Wx k):Opr X (compareOp .IsNot) X9e:=⟨_,op_notN,W3h⟩
theorem Here.isB (h:Here X Wx k):Opr X (compareOp .Is) Bv.isB:=⟨_,op_isBl,W3g⟩
theorem Here.add (h:Here X Wx k):Opr X (binaryOp .Add) Z7o:=⟨_,X5p,W10⟩
theorem Here.sub (h:Here X Wx k):Opr X (binaryOp .Sub) W2v:=⟨_,op_sub,W11⟩
theorem Here.mul (h:Here X Wx k):Opr X (binaryOp .Mult) W1z:=⟨_,op_mul,X5i⟩
theorem Here.fdiv (h:Here X Wx k):Opr X (binaryOp .FloorDiv) Y7h:=⟨_,op_fdiv,X5i⟩
theorem Here.mod (h:Here X Wx k):Opr X (binaryOp .Mod) X20:=⟨_,op_mod,X5i⟩
theorem Z8p {op:Operator} {f:D→D→Option D} (o:Opr X (binaryOp op) f) (ha:ME X Wx a ma) (hb:ME X Wx b mb):ME X Wx (.BinOp a op b pos) (Y3 f ma mb):=by
  obtain ⟨r,h1,h2⟩:=o.ex
  exact W3c h1 h2 ha hb
theorem Z2p {op:CmpOp} {f:D→D→Option D} (o:Opr X (compareOp op) f) (ha:ME X Wx a ma) (hb:ME X Wx b mb) (hm:behindInMarks op b=false:=by first | exact nomark _ | (with_unfolding_all rfl)):ME X Wx (.Compare a [op] [b] pos) (Y3 f ma mb):=by
  obtain ⟨r,h1,h2⟩:=o.ex
  exact W1s h1 h2 ha hb hm
theorem W4 {op:CmpOp} {f:D→D→Option D} (o:Opr X (compareOp op) f) (ha:ME X Wx a ma) (hb:ME X Wx b mb) (hm:behindInMarks op b=false:=by first | exact nomark _ | (with_unfolding_all rfl)):MT X Wx (.Compare a [op] [b] pos) (Q0 (Y3 f ma mb)):=by
  obtain ⟨r,h1,h2⟩:=o.ex
  exact W1w h1 h2 ha hb hm
theorem X84 {op op':CmpOp} {f g:D→D→Option D} (o:Opr X (compareOp op) f) (o':Opr X (compareOp op') g) (ha:ME X Wx a ma) (hb:ME X Wx b mb) (hc:ME X Wx c mc) (hm:lastMarks [op,op'] [b,c]=false:=by with_unfolding_all rfl) :
    ME X Wx (.Compare a [op,op'] [b,c] pos) (Z76 f g ma mb mc):=by
  obtain ⟨r,h1,h2⟩:=o.ex
  obtain ⟨r',h1',h2'⟩:=o'.ex
  exact X60 h1 h1' h2 h2' ha hb hc hm
theorem X1y {op op':CmpOp} {f g:D→D→Option D} (o:Opr X (compareOp op) f) (o':Opr X (compareOp op') g) (ha:ME X Wx a ma) (hb:ME X Wx b mb) (hc:ME X Wx c mc) (hm:lastMarks [op,op'] [b,c]=false:=by with_unfolding_all rfl) :
    MT X Wx (.Compare a [op,op'] [b,c] pos) (Q0 (Z76 f g ma mb mc)):=by
  obtain ⟨r,h1,h2⟩:=o.ex
  obtain ⟨r',h1',h2'⟩:=o'.ex
  exact X65 h1 h1' h2 h2' ha hb hc hm
theorem Z1f {x z:Str} (hg:Gl X x) (h:∃ t,X.mg x=some (.str z t)) (hz:PyData.strOk z=true:=by decide +kernel) (hd:(x == ("__debug__" : Str))=false:=by decide):ME X Wx (.Name x pos) (m_c (.str z)):=by
  obtain ⟨t,e⟩:=h
  exact Y7o hg e ⟨.str z,fun _ _ => .str hz,⟨t,rfl⟩⟩ hd
theorem Z6q {x:Str} {i:Int} (hg:Gl X x) (h:∃ t,X.mg x=some (.int i t)) (hd:(x == ("__debug__" : Str))=false:=by decide):ME X Wx (.Name x pos) (m_c (.int i)):=by
  obtain ⟨t,e⟩:=h
  exact Y7o hg e ⟨.int i,fun _ _ => .int i,⟨t,rfl⟩⟩ hd
theorem Y1h {x:Str} {vs:List Str} (hg:Gl X x) (h:X.mg x=some (.ref (He.ga X.K x))) (hv:Y0n x vs X.K=true) (hz:(vs.all fun z=>PyData.strOk z)=true:=by decide +kernel) (hd:(x == ("__debug__" : Str))=false:=by decide):ME X Wx (.Name x pos) (m_c (.tup (vs.map D.str))) :=
  Y7o hg h (X7x hv hz) hd
theorem X7z {x:Str} (hg:Gl X x) (h:X.mg x=some (.ref (He.ga X.K x))) (hd:(x == ("__debug__" : Str))=false:=by decide):ME X Wx (.Name x pos) (m_c (.gl x)) :=
  Y7o hg h ⟨.ref (He.ga X.K x),fun _ _ => .gl x,rfl⟩ hd
theorem X8f {x:Str} {T:String} (hg:Gl X x) (hm:X.mg x=none) (hv:bootBuiltins x=some (.type T):=by rfl) (hn:x ≠ "__name__" := by decide) (hd:(x == ("__debug__" : Str))=false:=by decide):PE X (.Name x pos) (tC (.ty T)):=pe_bltn hg hm hv rfl hn hd
theorem W3j {x:Str} (hg:Gl X x) (h:X.mg x=some (.ref (He.ga X.K x))) (hd:(x == ("__debug__" : Str))=false:=by decide):PE X (.Name x pos) (tC (.ref (He.ga X.K x))):=pe_glob hg h rfl hd
end
end Bv
namespace Bv
open PySem PySem.Spec L2
open PyProof.Rows hiding St
variable [HasW]
def X10:List (String × Bool):=[("NoneType",false),("bool",false),("int",false),("str",false),("tuple",false),("list",false),("dict",false)]
section
variable {X:Cx} {Wx:WX} {k j n:Nat} {pos p:Pos} {e:Expr} {es:List Expr} {ms:MG (List Bv.X)} {C:Str} {g:List D→PR}
end
end Bv
namespace Bv
open PySem PySem.Spec L2
open PyProof.Rows hiding St
def X7u (u:PySem.W.Frag→Value) (tab:List (String × Bool)) (own:List (Str × Bool)) (K:PySem.W.Frag):Bool:=(tab.all fun p=>decide (PySem.W.kitOne K (.type p.1) (u K)=some p.2)) && own.all fun p=>W0d p.1 K && decide (PySem.W.kitOne K (.ref (He.ga K p.1)) (u K)=some p.2)
def X8n (us:List Value) (tab:List (String × Bool)) (own:List (Str × Bool)) (K:PySem.W.Frag):Bool:=(tab.all fun p=>decide (PySem.W.kitAny K (.type p.1) us=some p.2)) && own.all fun p=>W0d p.1 K && decide (PySem.W.kitAny K (.ref (He.ga K p.1)) us=some p.2)
def X6a (Ts:List String):List (String × Bool):=["NoneType", "bool", "int", "str", "tuple", "list", "dict"].map fun k=>(k,Ts.any fun T=>kitB k T == some true)
section
variable {K:PySem.W.Frag} {h:Heap} {mg:Str→Option Value}
theorem X40 {u:PySem.W.Frag→Value} {tab:List (String × Bool)} {own:List (Str × Bool)} (c:X7u u tab own K=true):IsT K (u K) tab own:=by
  obtain ⟨c1,c2⟩:=He.ba c
  refine ⟨fun k b q=>of_decide_eq_true (List.all_eq_true.mp c1 (k,b) (X47 q)),fun C b q=>?_⟩
  obtain ⟨c3,c4⟩:=He.ba (List.all_eq_true.mp c2 (C,b) (PySem.mem_of_lookup q))
  exact ⟨X8e c3,of_decide_eq_true c4⟩
theorem X9c {us:List Value} {tab:List (String × Bool)} {own:List (Str × Bool)} (c:X8n us tab own K=true):IsTs K us tab own:=by
  obtain ⟨c1,c2⟩:=He.ba c
  refine ⟨fun k b q=>of_decide_eq_true (List.all_eq_true.mp c1 (k,b) (X47 q)),fun C b q=>?_⟩
  obtain ⟨c3,c4⟩:=He.ba (List.all_eq_true.mp c2 (C,b) (PySem.mem_of_lookup q))
  exact ⟨X8e c3,of_decide_eq_true c4⟩
def Z06 (Cs:List Str) (f:Str) (K:PySem.W.Frag):Bool:=Cs.all fun C=>X56 C K && W2l C f K
theorem Q4 {Cs:List Str} {f:Str} (c:Z06 Cs f K=true):Z0x K Cs f:=fun C m=>by
  obtain ⟨c1,c2⟩:=He.ba (List.all_eq_true.mp c C m)
  exact ⟨He.cls_ok c1,He.noat_ok c2⟩
theorem W5 (X:K.In h) (G:h.Ns mainGlobals mg) {x:Str} (c:Z0w x K=true):mg x=some (.ref (He.ga K x)):=He.glo_ok X G c
theorem Z3f (X:K.In h) (G:h.Ns mainGlobals mg) {x:Str} (c:Z6k x K=true):mg x=none:=He.free_ok X G c
theorem Y0o (X:K.In h) (G:h.Ns mainGlobals mg) {x z:Str} (c:X0l x z K=true):∃ t,mg x=some (.str z t):=He.str_ok X G c
theorem X4w (X:K.In h) (G:h.Ns mainGlobals mg) {x:Str} {i:Int} (c:W0b x i K=true):∃ t,mg x=some (.int i t):=He.int_ok X G c
theorem Y2a {C:Str} (c:X1z C K=true):Mk K (He.ga K C) (He.ma K (He.ga K C) "__init__"):=He.mkr_ok c
end
section
variable {P:Program} {w:World} {K:PySem.W.Frag} {mg:Str→Option Value} {base:Heap} {k:Nat} {f:Addr} {fd:FuncData} {ps:List Str} {sp:Sp} {x qual:Str} {pa:Arguments} {bd:List Stmt} {sc:Scope} {dl:List V}
theorem Q5 (F:FunD K x qual pa bd sc [] [] f fd) (ok:FnG P w K mg base k f fd ps sp)
    (h:∀ (kV doc pm:Value) (an:Option Addr) (cdv ct:Value) (us:List Value),us.length=ps.length→bindArgs (PySem.W.fnOf x qual pa bd sc .none kV doc pm an cdv ct) ⟨us,[]⟩=pure (ps.zip us)):Kept P w K mg base k f sp:=⟨⟨fd,ps,ok,F.bindsN h⟩,F.kp⟩
theorem X41 (F:FunD K x qual pa bd sc dl [] f fd) (ok:FnG P w K mg base k f fd ps sp) (hd:dl ≠ [])
    (h:∀ (T:Addr) (kV doc pm:Value) (an:Option Addr) (cdv ct:Value) (us its:List Value),us.length=ps.length→its.length=dl.length →
      ∃ k,bindArgs (PySem.W.fnOf x qual pa bd sc (.ref T) kV doc pm an cdv ct) ⟨us,[]⟩=seqItems? (.ref T) >>= k∧k (some its.toArray)=pure (ps.zip (us++its.drop dl.length))):Kept P w K mg base k f sp:=by
  obtain ⟨ds,r,b⟩:=F.binds1 ps.length dl.length hd (by omega) h
  rw [List.drop_length] at r
  cases r
  exact ⟨⟨fd,ps,ok,b⟩,F.kp⟩
theorem W1l {dxs:List D} (F:FunD K x qual pa bd sc dl [] f fd) (ok:FnG P w K mg base k f fd ps sp) (n j:Nat) (hd:dl ≠ []) (hn:n + (dl.length - j)=ps.length) (a:∀ W H,AVs K W H dxs (dl.drop j))
    (h:∀ (T:Addr) (kV doc pm:Value) (an:Option Addr) (cdv ct:Value) (us its:List Value),us.length=n→its.length=dl.length →
      ∃ k,bindArgs (PySem.W.fnOf x qual pa bd sc (.ref T) kV doc pm an cdv ct) ⟨us,[]⟩=seqItems? (.ref T) >>= k∧k (some its.toArray)=pure (ps.zip (us++its.drop j))):KeptD P w K mg base k f sp dxs:=by
  obtain ⟨ds,r,b⟩:=F.binds1 n j hd hn h
  exact ⟨⟨fd,ps,dl.drop j,ds,ok,b,⟨a,r⟩⟩,F.kp⟩
end
theorem law_sp {K:PySem.W.Frag} {g:List D→PR} (hg:∀ ns:List Int,ns.length ≤ 63→g [.scr ns] = .ok (.bl true)) (H:Hp) (a:Addr) (ns:List Int) (hl:ns.length ≤ 63) (only:Only H) (hS:SqL K H a (ns.map V.int)):spP K 1 g [.ref a] H (fun v _=>v = .bl true) fun _ _ _=>False:=by
  refine ⟨rfl,fun _=>False,[.scr ns],fun _ z=>z.elim, .cons (.scr ?_) .nil,?_⟩
  · rcases hS with h | h
    · exact .inl ⟨fun z=>z,h⟩
    · exact .inr h
  · rw [hg ns hl]
    intro H' v k a
    cases a
    rfl
end Bv
namespace Bv
open PySem PySem.Spec L2
open PyProof.Rows hiding St
variable [HasW]
def Z9d (acc:List Str) (x:Str):List Str:=if acc.contains x then acc else acc++[x]
def Y0k (xs:List Str):List Str:=xs.foldl Z9d []
theorem Y9y {xs:List Str} {i:Nat} (h:i < xs.length):Y0k (xs.take (i + 1))=Z9d (Y0k (xs.take i)) (xs.getD i Str.empty):=by
  unfold Y0k
  rw [List.take_add_one,List.getElem?_eq_getElem h,Option.toList_some,List.foldl_append]
  simp [List.getD_eq_getElem?_getD,h]
theorem Y9x (acc:List Str) (x k:Str):(Z9d acc x).contains k=(acc.contains k || decide (k=x)):=by
  unfold Z9d
  by_cases h:acc.contains x=true
  · rw [if_pos h]
    by_cases e:k=x
    · rw [e,h]; rfl
    · simp [e]
  · rw [if_neg h]
    simp [List.contains_append,Bool.or_comm,eq_comm]
theorem Y66 (acc:List Str) (x:Str):(Z9d acc x).length=if acc.contains x then acc.length else acc.length + 1:=by
  unfold Z9d
  split <;> simp
theorem X1o:∀ (xs acc:List Str),(xs.foldl Z9d acc).length ≤ acc.length + xs.length
  | [],acc=>by simp
  | x :: r,acc=>by
    have h:=X1o r (Z9d acc x)
    have h2:=Y66 acc x
    simp only [List.foldl_cons,List.length_cons]
    split at h2 <;> omega
section
variable {prog:Program} {w:World} {A:Around} {R:Result→Shared→Prop} {it:Addr} {fp wr:List Addr} {G:Array GenState→Array GenState→Prop} {n:Nat} {P:Nat→Value→Prop} {St:Nat→Shared→Prop}
theorem fill (W:WalksS prog w A.in1 it fp wr G n P St) (S:Addr) (apart:S ∉ fp) (xs:List Str) (many:xs.length=n) (few:xs.length + 1 < scanBound) (says:∀ i v,P i v→∃ t,v = .str (xs.getD i Str.empty) t) :
    ∀ (k i:Nat) (s:Shared),n - i=k→i ≤ n→St i s→s.heap.SetOf (PySem.strKind prog w) S (fun k=>(Y0k (xs.take i)).contains k) (Y0k (xs.take i)).length →
      (∀ s',Moved (S :: wr) G s s'→s'.heap.SetOf (PySem.strKind prog w) S (fun k=>(Y0k (xs.take n)).contains k) (Y0k (xs.take n)).length→R (.ok (.ret .none)) s') →
      codeAny (model prog w) A (.builtin "set.update.loop" ⟨[.ref S, .ref it],[]⟩) R s:=by
  have out:S ∉ wr:=fun z=>apart (W.sub _ z)
  have more:∀ b ∈ wr,b ∈ S :: wr:=fun b z=>List.mem_cons_of_mem _ z
  have stay:∀ {i:Nat} {s s':Shared},Moved wr G s s'→s.heap.SetOf (PySem.strKind prog w) S (fun k=>(Y0k (xs.take i)).contains k) (Y0k (xs.take i)).length→s'.heap.SetOf (PySem.strKind prog w) S (fun k=>(Y0k (xs.take i)).contains k) (Y0k (xs.take i)).length :=
    fun mv ⟨o,es,ep,t,q,rest⟩=>⟨o,es,ep,t,mv.heap S _ out q,rest⟩
  intro k
  induction k with
  | zero =>
    intro i s e1 e2 st set fin
    obtain rfl:i=n:=by omega
    refine (codeAny_builtin PyProof.Rows.F.entry_set_update_loop ?_)
    rw [(Around.under_plainId PyProof.Rows.F.plain_set_update_loop _)]
    show wpAny _ A.in1 (pyNext (.ref it) >>= _) _ _ s
    refine wpAny_bind (W.done s _ _ st fun s' mv=>?_)
    exact wpAny_pure (fin s' (mv.mono more) (stay mv set))
  | succ k ih =>
    intro i s e1 e2 st set fin
    have lt:i < n:=by omega
    refine (codeAny_builtin PyProof.Rows.F.entry_set_update_loop ?_)
    rw [(Around.under_plainId PyProof.Rows.F.plain_set_update_loop _)]
    show wpAny _ A.in1 (pyNext (.ref it) >>= _) _ _ s
    refine wpAny_bind (W.item i s _ _ lt st fun v s' p st' mv=>?_)
    obtain ⟨t,rfl⟩:=says i v p
    have set':=stay mv set
    have room:(Y0k (xs.take i)).length + 1 < scanBound:=by
      have h:=X1o (xs.take i) []
      have h2:=List.length_take_le i xs
      unfold Y0k at *
      simp only [List.length_nil,Nat.zero_add] at h
      omega
    show wpAny _ A.in1 (holding [Value.str (xs.getD i Str.empty) t] (setAdd S (.str (xs.getD i Str.empty) t)) >>= _) _ _ s'
    refine (wpAny_bind (wpAny_holding ?_))
    unfold setAdd
    refine (wpAny_holding (wpAny_bind ((PySem.strKind prog w).pyHash (k:=xs.getD i Str.empty) (strKind_is _ _ _ _) ?_)))
    refine wpAny_setAddHashed_of (knd:=PySem.strKind prog w) (s:={ s' with toks:=s'.toks + 1 }) (strKind_is _ _ _ _) rfl set' room fun h' but set2=>?_
    have set3:h'.SetOf (PySem.strKind prog w) S (fun k=>(Y0k (xs.take (i + 1))).contains k) (Y0k (xs.take (i + 1))).length:=SetOf_congr set2 (fun k=>by rw [Y9y (by omega),Y9x]) (by rw [Y9y (by omega),Y66])
    refine wpAny_pure ⟨plainId_quiet PyProof.Rows.F.plain_set_update_loop _,ih (i + 1) _ (by omega) lt (W.frame _ s' _ _ st' (Nat.le_succ _) fun b z o q=>?_) set3 fun s2 mv2 q2=>?_⟩
    · rw [but.2 b fun y=>apart (by rw [← y]; exact z)]; exact q
    · refine fin s2 (Moved.trans W.gtrans ((mv.mono more).then_heap (Nat.le_succ _) fun b o z q=>?_) mv2) q2
      rw [but.2 b fun y=>z (by rw [y]; exact List.mem_cons_self)]; exact q
end
section
variable {prog:Program} {w:World} {A:Around} {E:Value→Shared→Prop} {s:Shared}
set_option maxHeartbeats 3200000 in
theorem X7r {l:Addr} {items:Array Value} {xs:List Str} {Q:Value→Shared→Prop} (calm:A.handled=none) (at_:s.heap.IsList l items) (are:StrsAre items.toList xs) (few:xs.length + 1 < scanBound)
    (fin:∀ (h':Heap) (tk:Nat),h'.SetOf (PySem.strKind prog w) s.heap.objs.size (fun k=>(Y0k xs).contains k) (Y0k xs).length→(∀ b o,b < s.heap.objs.size→s.heap.get? b=some o→h'.get? b=some o)→Q (.ref s.heap.objs.size) { s with heap:=h',toks:=tk }) :
    wpAny (model prog w) A (call (.type "set") [.ref l]) Q E s:=by
  obtain ⟨c,tl,known⟩:=PySem.F.called_set.mro
  have mk:=PySem.F.called_set.made
  have below:=PySem.F.called_set.sub
  have no1:=PySem.F.called_set.notType
  have may:=PySem.F.called_set.canCreate
  have chk:=PySem.F.typeCall_set_1 (.ref l)
  have slen:xs.length=items.size:=by rw [← StrsAre.len_eq are,Array.length_toList]
  refine wpAny_call (codeAny_of_tree ?_)
  show wpAny _ _ (callAny (.type "set") _) _ E s
  refine (wpAny_pure ⟨Code.quiet_builtin _ (by decide +kernel),(codeAny_builtin PySem.F.entry_type_call ?_)⟩)
  rw [(Around.under_plain (weight_type_call_type "set" [.ref l] []) rfl)]
  (repeat (any_goals (first | assumption | wp_step)))
  let new (led:Bool):Heap:=s.heap.push { cls := .type "set",dict:=none,data := .set #[] 0 (.fresh 0 0 led) }
  refine codeAny_mono (code_set_new_1 (.ref l) (E:=E) (Q₁:=fun obj s1=>∃ led:Bool,obj = .ref s.heap.objs.size∧s1={ s with heap:=new led }) fun led=>⟨led,rfl,rfl⟩) fun y s1 z=>?_
  match y,z with
  | .error e,z=>exact z
  | .ok (.ret obj),z =>
    obtain ⟨led,rfl,rfl⟩:=z
    have there:(new led).get? s.heap.objs.size=some { cls := .type "set",dict:=none,data := .set #[] 0 (.fresh 0 0 led) }:=Heap.get?_push_size _ rfl
    have isSet:Shared.TypeIs { s with heap:=new led } (.ref s.heap.objs.size) "set" := ⟨_,there,rfl⟩
    have look:=PySem.F.called_set.init.lookup
    have bound:=PySem.F.called_set.init.bind (.ref s.heap.objs.size)
    (repeat (any_goals (first | assumption | wp_step)))
    refine codeAny_mono (codeAny_call_builtin (R:=wants (fun r s2=>r = .none∧∃ h' tk,s2={ s with heap:=h',toks:=tk }∧h'.SetOf (PySem.strKind prog w) s.heap.objs.size (fun k=>(Y0k xs).contains k) (Y0k xs).length∧(∀ b o,b < s.heap.objs.size→s.heap.get? b=some o→h'.get? b=some o)) E)
      PySem.F.called_set.init.plain PySem.F.entry_set_init (check_set_init_1 isSet ?_)) fun y2 s2 z2=>?_
    · obtain ⟨ob,hob,cl,n,dt⟩:=at_
      obtain ⟨obc,obd,obt,obs⟩:=ob
      simp only at cl dt
      subst cl dt
      have ob2:(new led).get? l=some { cls := .type "list",dict:=obd,data := .seq items n,slots:=obs }:=Heap.get?_push_of_some _ hob
      have no2:=PySem.F.sub_list_set
      have no3:=PySem.F.sub_list_frozenset
      have no4:(Value.type "list" == Value.type "dict")=false:=by decide
      have isL:(new led).IsList l items:=⟨_,ob2,rfl,n,rfl⟩
      unfold Builtin.«set.__init__» noKeywords Builtin.Frozenset.updateFrom
      generalize hp:pyIter=it
      wp_walk
      subst hp
      refine wpAny_pyIter_list isL ?_
      refine (wpAny_bind (wpAny_runValue ?_))
      have lt:l < s.heap.objs.size:=Heap.lt_size hob
      have sz:(new led).objs.size=s.heap.objs.size + 1:=Heap.size_push ..
      have off1:l ≠ (new led).objs.size:=by rw [sz]; exact Nat.ne_of_lt (Nat.lt_succ_of_lt lt)
      have off2:s.heap.objs.size ∉ [(new led).objs.size,l]:=by
        simp only [List.mem_cons,List.not_mem_nil,or_false,not_or]
        exact ⟨by rw [sz]; exact Nat.ne_of_lt (Nat.lt_succ_self _),Nat.ne_of_gt lt⟩
      refine fill ((Walks.list (show A.in1.in1.in1.handled=none by simp [calm]) _ l off1 items).toS) s.heap.objs.size off2 xs slen few (fun i v q=>SS.strs_at are i v (by rw [Array.getElem?_toList]; exact q)) (items.size - 0) 0 _ (by omega) (Nat.zero_le _) ⟨⟨_,Heap.get?_push_size _ rfl,rfl,rfl⟩,isL.push _⟩ ?_ ?_
      · have there2:((new led).push { cls := .type "list_iterator",data := .fields #[.ref l, .int 0 0] }).get? s.heap.objs.size=some { cls := .type "set",dict:=none,data := .set #[] 0 (.fresh 0 0 led) }:=Heap.get?_push_of_some _ there
        exact SetOf_congr ((setObjOf_fresh (knd:=PySem.strKind prog w) led).setOf there2 (by unfold scanBound; omega)) (fun _=>rfl) rfl
      · intro s3 mv set3
        obtain ⟨h3,g3,d3,t3,o3⟩:=s3
        obtain rfl:g3=s.gens:=mv.gens
        obtain rfl:d3=s.drawn:=mv.drawn
        obtain rfl:o3=s.os:=mv.os
        show (wpAny _ _ _ _ _ _)
        refine (wpAny_pure ?_)
        show (wpAny _ _ (ret Value.none) _ _ _)
        refine wpAny_pure ⟨rfl,h3,t3,rfl,by rw [← slen,List.take_length] at set3; exact set3,fun b o hb q=>?_⟩
        exact mv.heap b o (by simp only [List.mem_cons,List.not_mem_nil,or_false,not_or]; exact ⟨Nat.ne_of_lt hb,by rw [sz]; exact Nat.ne_of_lt (Nat.lt_succ_of_lt hb)⟩) (Heap.get?_push_of_some _ (Heap.get?_push_of_some _ q))
    · match y2,z2 with
      | .error e,z2=>exact z2
      | .ok (.ret r),z2 =>
        obtain ⟨rfl,h3,t3,rfl,set3,keep3⟩:=z2
        (repeat (any_goals (first | assumption | wp_step)))
        exact fin _ _ set3 keep3
      | .ok .next,z2=>exact z2.elim
      | .ok .brk,z2=>exact z2.elim
      | .ok .cont,z2=>exact z2.elim
  | .ok .next,z=>exact z.elim
  | .ok .brk,z=>exact z.elim
  | .ok .cont,z=>exact z.elim
end
end Bv
namespace Bv
open PySem PySem.Spec L2
open PyProof.Rows hiding St
variable [HasW]
section
variable {prog:Program} {w:World} {A:Around} {E:Value→Shared→Prop} {s:Shared}
set_option maxHeartbeats 3200000 in
theorem X54 {l:Addr} {items:Array Value} {xs:List Str} {Q:Value→Shared→Prop} (calm:A.handled=none) (at_:s.heap.IsTuple l items) (are:StrsAre items.toList xs) (few:xs.length + 1 < scanBound)
    (fin:∀ (h':Heap) (tk:Nat),h'.SetOf (PySem.strKind prog w) s.heap.objs.size (fun k=>(Y0k xs).contains k) (Y0k xs).length→(∀ b o,b < s.heap.objs.size→s.heap.get? b=some o→h'.get? b=some o)→Q (.ref s.heap.objs.size) { s with heap:=h',toks:=tk }) :
    wpAny (model prog w) A (call (.type "set") [.ref l]) Q E s:=by
  obtain ⟨c,tl,known⟩:=PySem.F.called_set.mro
  have mk:=PySem.F.called_set.made
  have below:=PySem.F.called_set.sub
  have no1:=PySem.F.called_set.notType
  have may:=PySem.F.called_set.canCreate
  have chk:=PySem.F.typeCall_set_1 (.ref l)
  have slen:xs.length=items.size:=by rw [← StrsAre.len_eq are,Array.length_toList]
  refine wpAny_call (codeAny_of_tree ?_)
  show wpAny _ _ (callAny (.type "set") _) _ E s
  refine (wpAny_pure ⟨Code.quiet_builtin _ (by decide +kernel),(codeAny_builtin PySem.F.entry_type_call ?_)⟩)
  rw [(Around.under_plain (weight_type_call_type "set" [.ref l] []) rfl)]
  (repeat (any_goals (first | assumption | wp_step)))
  let new (led:Bool):Heap:=s.heap.push { cls := .type "set",dict:=none,data := .set #[] 0 (.fresh 0 0 led) }
  refine codeAny_mono (code_set_new_1 (.ref l) (E:=E) (Q₁:=fun obj s1=>∃ led:Bool,obj = .ref s.heap.objs.size∧s1={ s with heap:=new led }) fun led=>⟨led,rfl,rfl⟩) fun y s1 z=>?_
  match y,z with
  | .error e,z=>exact z
  | .ok (.ret obj),z =>
    obtain ⟨led,rfl,rfl⟩:=z
    have there:(new led).get? s.heap.objs.size=some { cls := .type "set",dict:=none,data := .set #[] 0 (.fresh 0 0 led) }:=Heap.get?_push_size _ rfl
    have isSet:Shared.TypeIs { s with heap:=new led } (.ref s.heap.objs.size) "set" := ⟨_,there,rfl⟩
    have look:=PySem.F.called_set.init.lookup
    have bound:=PySem.F.called_set.init.bind (.ref s.heap.objs.size)
    (repeat (any_goals (first | assumption | wp_step)))
    refine codeAny_mono (codeAny_call_builtin (R:=wants (fun r s2=>r = .none∧∃ h' tk,s2={ s with heap:=h',toks:=tk }∧h'.SetOf (PySem.strKind prog w) s.heap.objs.size (fun k=>(Y0k xs).contains k) (Y0k xs).length∧(∀ b o,b < s.heap.objs.size→s.heap.get? b=some o→h'.get? b=some o)) E)
      PySem.F.called_set.init.plain PySem.F.entry_set_init (check_set_init_1 isSet ?_)) fun y2 s2 z2=>?_
    · obtain ⟨ob,hob,cl,n,dt⟩:=at_
      obtain ⟨obc,obd,obt,obs⟩:=ob
      simp only at cl dt
      subst cl dt
      have ob2:(new led).get? l=some { cls := .type "tuple",dict:=obd,data := .seq items n,slots:=obs }:=Heap.get?_push_of_some _ hob
      have no2:=PySem.F.sub_tuple_set
      have no3:=PySem.F.sub_tuple_frozenset
      have no4:(Value.type "tuple" == Value.type "dict")=false:=by decide
      have isL:(new led).IsTuple l items:=⟨_,ob2,rfl,n,rfl⟩
      unfold Builtin.«set.__init__» noKeywords Builtin.Frozenset.updateFrom
      generalize hp:pyIter=it
      wp_walk
      subst hp
      refine wpAny_pyIter_tuple isL ?_
      refine (wpAny_bind (wpAny_runValue ?_))
      have lt:l < s.heap.objs.size:=Heap.lt_size hob
      have sz:(new led).objs.size=s.heap.objs.size + 1:=Heap.size_push ..
      have off1:l ≠ (new led).objs.size:=by rw [sz]; exact Nat.ne_of_lt (Nat.lt_succ_of_lt lt)
      have off2:s.heap.objs.size ∉ [(new led).objs.size,l]:=by
        simp only [List.mem_cons,List.not_mem_nil,or_false,not_or]
        exact ⟨by rw [sz]; exact Nat.ne_of_lt (Nat.lt_succ_self _),Nat.ne_of_gt lt⟩
      refine fill ((Walks.tuple (show A.in1.in1.in1.handled=none by simp [calm]) _ l off1 items).toS) s.heap.objs.size off2 xs slen few (fun i v q=>SS.strs_at are i v (by rw [Array.getElem?_toList]; exact q)) (items.size - 0) 0 _ (by omega) (Nat.zero_le _) ⟨⟨_,Heap.get?_push_size _ rfl,rfl,rfl⟩,isL.push _⟩ ?_ ?_
      · have there2:((new led).push { cls := .type "tuple_iterator",data := .fields #[.ref l, .int 0 0] }).get? s.heap.objs.size=some { cls := .type "set",dict:=none,data := .set #[] 0 (.fresh 0 0 led) }:=Heap.get?_push_of_some _ there
        exact SetOf_congr ((setObjOf_fresh (knd:=PySem.strKind prog w) led).setOf there2 (by unfold scanBound; omega)) (fun _=>rfl) rfl
      · intro s3 mv set3
        obtain ⟨h3,g3,d3,t3,o3⟩:=s3
        obtain rfl:g3=s.gens:=mv.gens
        obtain rfl:d3=s.drawn:=mv.drawn
        obtain rfl:o3=s.os:=mv.os
        show (wpAny _ _ _ _ _ _)
        refine (wpAny_pure ?_)
        show (wpAny _ _ (ret Value.none) _ _ _)
        refine wpAny_pure ⟨rfl,h3,t3,rfl,by rw [← slen,List.take_length] at set3; exact set3,fun b o hb q=>?_⟩
        exact mv.heap b o (by simp only [List.mem_cons,List.not_mem_nil,or_false,not_or]; exact ⟨Nat.ne_of_lt hb,by rw [sz]; exact Nat.ne_of_lt (Nat.lt_succ_of_lt hb)⟩) (Heap.get?_push_of_some _ (Heap.get?_push_of_some _ q))
    · match y2,z2 with
      | .error e,z2=>exact z2
      | .ok (.ret r),z2 =>
        obtain ⟨rfl,h3,t3,rfl,set3,keep3⟩:=z2
        (repeat (any_goals (first | assumption | wp_step)))
        exact fin _ _ set3 keep3
      | .ok .next,z2=>exact z2.elim
      | .ok .brk,z2=>exact z2.elim
      | .ok .cont,z2=>exact z2.elim
  | .ok .next,z=>exact z.elim
  | .ok .brk,z=>exact z.elim
  | .ok .cont,z=>exact z.elim
end
def X6q:List Bv.X→Sto→R Bv.X
  | [x],S=>(match (items S x).bind strs? with
    | some xs=>if decide (xs.length + 1 < scanBound) then .ok (.d (.int (Y0k xs).length)) S else .bad
    | none => .bad)
  | _,_ => .bad
def Y7n (m:M):M:=fun e S=>(m e S).bind fun x S1=>X6q [x] S1
section
variable {X:Cx} {Wx:WX} {p p2 q pos:Pos} {a:Expr} {m:M}
theorem Y83 (hc:X.calm=true) (hg:Gl X "len") (hm:X.mg "len" = none) (hg2:Gl X "set") (hm2:X.mg "set" = none) (ha:ME X Wx a m) (na:starEach [a] X.env=(false,eval a X.env) :: starEach [] X.env:=by rfl) :
    ME X Wx (.Call (.Name "len" p) [.Call (.Name "set" p2) [a] [] q] [] pos) (Y7n m):=⟨fun pins s σ H Q I ⟨Z,ρ,e,S,st,ev,w⟩=>by
  refine Call_ (ld_blt I hg hm boot_len (callWith_builtin1 (args_cons (Call_ (ld_blt I hg2 hm2 boot_set (callWith_type1 (args_cons (thn (ha.run pins s σ H _ I (X9 (R':=fun v H1=>∃ (b:Addr) (xs:List Str),v = .ref b∧(SqT X.K H1 b (xs.map V.str) ∨ SqL X.K H1 b (xs.map V.str))∧xs.length + 1 < scanBound∧Q (.int (Y0k xs).length) H1) st ev w
    fun ρ1 H1 v x S1 s1 g1 ev1 a1 p1=>?_)) fun v s1 ⟨x,H1,I1,r1,b,xs,ex,hq,few,q1⟩=>args_nil ?_) na) na rfl))) rfl) rfl rfl))
  · have p1:W1 (AX X.K) X.K Z ρ1 H1 Wx σ Q (match (items S1 x).bind strs? with
      | some xs=>if decide (xs.length + 1 < scanBound) then .ok (.d (.int (Y0k xs).length)) S1 else .bad
      | none => .bad):=p1
    cases y:(items S1 x).bind strs? with
    | none=>rw [y] at p1; exact p1.elim
    | some xs =>
      rw [y] at p1
      have p1:W1 (AX X.K) X.K Z ρ1 H1 Wx σ Q (if decide (xs.length + 1 < scanBound) then .ok (.d (.int (Y0k xs).length)) S1 else .bad):=p1
      split at p1
      · rename_i few
        obtain ⟨ys,h1,h2⟩:=Option.bind_eq_some_iff.mp y
        obtain ⟨b,us,rfl,hq,hp⟩:=a1.items s1 h1
        obtain ⟨rfl,_⟩:=Y3p hp h2
        exact ⟨b,xs,rfl,hq,of_decide_eq_true few,W1.ret0 p1 s1 (.d (.int _))⟩
      · exact p1.elim
  · subst ex
    cases r1
    have fin:∀ (h':Heap) (tk:Nat),h'.SetOf (PySem.strKind X.prog X.w) s1.heap.objs.size (fun k=>(Y0k xs).contains k) (Y0k xs).length→(∀ b o,b < s1.heap.objs.size→s1.heap.get? b=some o→h'.get? b=some o) →
        wpAny (model X.prog X.w) X.A (spliced (backTo pos (starEach [] X.env))) (fun vs s2=>wpAny (model X.prog X.w) X.A (call (.builtin "len") (Value.ref s1.heap.objs.size :: vs)) (EP X pins σ Q) X.xe s2) X.xe { s1 with heap:=h',toks:=tk }:=fun h' tk set keep=>by
      refine args_nil ?_
      obtain ⟨o,es,ep,t,ho,hex,hd,_,_,_,hf,hn⟩:=set
      have I2:Inv X pins σ H1 { s1 with heap:=h',toks:=tk }:=I1.kept fun b o e=>keep b o (Heap.lt_size e) e
      have le:=X1o xs []
      refine call_len_set ho hex hd hf (by rw [hn]; unfold Y0k scanBound at *; simp only [List.length_nil,Nat.zero_add] at le; omega) ⟨.int (Y0k xs).length,H1,I2.tok _,⟨_,by rw [hn]⟩,q1⟩
    rcases hq with hq | hq
    · obtain ⟨its,r,pl,_⟩:=I1.tuple hq
      exact X54 (I1.ok.hd hc) pl (by simpa using strsAre_of r) few fun h' tk set keep=>fin h' tk set keep
    · obtain ⟨its,r,pl,_⟩:=I1.list hq
      exact X7r (I1.ok.hd hc) pl.isList (by simpa using strsAre_of r) few fun h' tk set keep=>fin h' tk set keep⟩
end
end Bv
namespace Bv
open PySem PySem.Spec L2
open PyProof.Rows hiding St
structure ClsM (K:PySem.W.Frag) (C m:Str):Prop where
  rd:ClX.CRead K (He.ga K C) (.type "type")
  me:ClX.CMet K (He.ga K C) (.type "type") m (He.ma K (He.ga K C) m) (X6h C m K)
def W3v (C m:Str) (K:PySem.W.Frag):Bool:=PySem.W.readsIn K (He.ga K C) (.type "type") && (He.eqO (PySem.W.specialIn K (.ref (He.ga K C)) "__getattribute__") (some (some (.builtin "type.__getattribute__"))) &&
  ((match PySem.W.findCls K (.ref (He.ga K C)) (.type "type") m with
    | some (.get (.builtin id) (.ref p) .none (.ref c))=>decide (id = "classmethod.__get__") && (decide (p=He.ma K (He.ga K C) m) && decide (c=He.ga K C))
    | _=>false) && ((match PySem.W.recIn K (He.ma K (He.ga K C) m) "classmethod" with
    | some (.ref _ :: _)=>true
    | _=>false) && PySem.W.fnIn K (X6h C m K))))
theorem W05 {C m:Str} {K:PySem.W.Frag} (h:W3v C m K=true):ClsM K C m:=by
  obtain ⟨c1,h⟩:=He.ba h
  obtain ⟨c2,h⟩:=He.ba h
  obtain ⟨c3,h⟩:=He.ba h
  obtain ⟨c4,c5⟩:=He.ba h
  refine ⟨⟨c1,He.eqO_ok c2⟩,⟨?_,?_,c5⟩⟩
  · split at c3
    · rename_i id p c q
      obtain ⟨e1,e2⟩:=He.ba c3
      obtain ⟨e2,e3⟩:=He.ba e2
      obtain rfl:=of_decide_eq_true e1
      obtain rfl:=of_decide_eq_true e2
      obtain rfl:=of_decide_eq_true e3
      exact q
    · cases c3
  · split at c4
    · rename_i g rest q
      refine ⟨rest,?_⟩
      have e:X6h C m K=g:=by unfold X6h; rw [q]
      rw [e]; exact q
    · cases c4
def Y7m (C:Str) (g:List Bv.X→Sto→R Bv.X) (mo:M) (ms:MG (List Bv.X)):M:=fun e S=>(mo e S).bind fun x S1=>match x with
  | .d (.gl D)=>if decide (D=C) then (ms e S1).bind fun xs S2=>g (x :: xs) S2 else .bad
  | _ => .bad
section
variable [HasW] {X:Cx} {Wx:WX} {n:Nat} {x:Str} {p pos apos:Pos} {e o:Expr} {es:List Expr} {ms:MG (List Bv.X)} {mo m:M} {g:List Bv.X→Sto→R Bv.X} {C mth:Str} {pl:Sem Bool}
theorem W1r (cc:X37 X Wx (.ref (X6h C mth X.K)) n g) (k:ClsM X.K C mth) (ho:ME X Wx o mo) (ha:MA X Wx (e :: es) ms) (hst:starEach (e :: es) X.env=(false,eval e X.env) :: starEach es X.env:=by rfl) (hpl:(backTo pos (starEach es X.env)).any (·.1)=false:=by rfl)
    (ht:eval (.Call (.Attribute o mth apos) (e :: es) [] pos) X.env=(do
      let ov ← eval o X.env
      standAt apos.atName
      let (f,first) ← holding [ov] (getMethod ov mth pl)
      callWith pos f first (backTo pos (starEach (e :: es) X.env)) (backToKw pos (keywordEach [] X.env))):=by rfl):ME X Wx (.Call (.Attribute o mth apos) (e :: es) [] pos) (Y7m C (Y7 n g) mo ms):=⟨fun pins s σ H Q I ⟨Z,ρ,e,S,st,ev,q⟩=>by
  refine PySem.W.methodCall_KW (pl:=pl) (thn (ho.run pins s σ H _ I (X9 (R':=fun v H1=>v = .ref (He.ga X.K C)∧∃ (ρ1:List Addr) (S1:Sto),Sta X.K Z ρ1 S1 H1∧EvOk X.K (Wn Z ρ1) ρ1 H1 e σ∧W1 (AX X.K) X.K Z ρ1 H1 Wx σ Q ((ms e S1).bind fun xs S2=>Y7 n g (.d (.gl C) :: xs) S2)) st ev q
    fun ρ1 H1 v y S1 s1 g1 ev1 a1 p1=>by
      cases a1 with
      | r _=>exact p1.elim
      | d a =>
        cases a with
        | gl D =>
          have p2:W1 (AX X.K) X.K Z ρ1 H1 Wx σ Q (if decide (D=C) then (ms e S1).bind fun xs S2=>Y7 n g (.d (.gl D) :: xs) S2 else .bad):=p1
          clear p1
          by_cases hd:D=C
          · rw [if_pos (decide_eq_true hd)] at p2
            subst hd
            exact ⟨rfl,ρ1,S1,s1,ev1,p2⟩
          · rw [if_neg (by simpa using hd)] at p2; exact p2.elim
        | _=>exact p1.elim)) fun u s1 ⟨x,H1,I1,rx,ex,ρ1,S1,st1,ev1,p1⟩=>?_) ht
  subst ex
  obtain rfl:u=Value.ref (He.ga X.K C):=rx
  refine ClX.getmethcm_ok I1 k.rd k.me fun s2 I2=>?_
  refine ClX.callwith_cm I2 (ClX.base_none I1 (Nat.le_refl _)) k.me.fi (thn (ha.run pos _ s2 σ H1 _ I2 (X9 (R':=fun vs H2=>∃ (ρ2:List Addr) (xs:List Bv.X) (S2:Sto),Sta X.K Z ρ2 S2 H2∧AXs X.K (Wn Z ρ2) ρ2 H2 xs vs∧W1 (AX X.K) X.K Z ρ2 H2 Wx σ Q (Y7 n g (.d (.gl C) :: xs) S2)) st1 ev1 p1
    fun ρ2 H2 v xs S2 s2 g2 ev2 a2 p2=>⟨ρ2,xs,S2,s2,a2,p2⟩)) fun us s3 ⟨vs,H2,I3,rv,ρ2,xs,S2,st2,a2,p2⟩=>⟨⟨ClX.pin_at I3,I3.kIn⟩,?_⟩) hst hpl
  obtain ⟨hl,p3⟩:=ari (rel:=W1 (AX X.K) X.K Z ρ2 H2 Wx σ Q) (fun z=>z) p2
  have aa:AXs X.K (Wn Z ρ2) ρ2 H2 (.d (.gl C) :: xs) (V.ref (He.ga X.K C) :: vs) := .cons (.d (.gl C)) a2
  have z:=wpAny_call (PySem.W.method_call (ClX.pin_at I3) (cc _ s3 σ H2 Q (.ref (He.ga X.K C) :: us) (.ref (He.ga X.K C) :: vs) Z ρ2 _ S2 I3 (.cons rfl rv) st2 aa (by rw [← Paired.length aa]; exact hl) p3))
  exact thn z fun _ _ y=>ClX.unpinE y⟩
def X06 (i:Nat) (C:Str) (g:List Bv.X→Sto→R Bv.X) (ms:MG (List Bv.X)):M:=fun e S=>(Z4 i e S).bind fun x S1=>match x with
  | .d (.gl D)=>if decide (D=C) then (ms e S1).bind g else .bad
  | _ => .bad
theorem X2v (i:Nat) (c:X37 X Wx (.ref (He.ga X.K C)) n g) (hk:PySem.W.keepIn X.K (.ref (He.ga X.K C))=true) (ha:MA X Wx (e :: es) ms) (hN:X.N[i]?=some x:=by rfl) (hv:Vis X.env.scope x:=by first | exact Or.inl rfl | exact Or.inr (Or.inl rfl) | exact Or.inr (Or.inr rfl))
    (hdb:(x == ("__debug__" : Str))=false:=by decide) (hcd:(x == ("__classdict__" : Str))=false:=by decide) (he:starEach (e :: es) X.env=(false,eval e X.env) :: starEach es X.env:=by rfl) (hpl:(backTo pos (starEach es X.env)).any (·.1)=false:=by rfl) :
    ME X Wx (.Call (.Name x p) (e :: es) [] pos) (X06 i C (Y7 n g) ms):=⟨fun pins s σ H Q I ⟨Z,ρ,e,S,st,ev,q⟩=>by
  refine wpAny_Call_Name_kw (thn ((Z0 (Wx:=Wx) (pos:=p) i hN hv hdb hcd).run pins s σ H _ I (X9 (R':=fun v H1=>v = .ref (He.ga X.K C)∧∃ (ρ1:List Addr) (S1:Sto),Sta X.K Z ρ1 S1 H1∧EvOk X.K (Wn Z ρ1) ρ1 H1 e σ∧W1 (AX X.K) X.K Z ρ1 H1 Wx σ Q ((ms e S1).bind (Y7 n g))) st ev q
    fun ρ1 H1 v y S1 s1 g1 ev1 a1 p1=>by
      cases a1 with
      | r _=>exact p1.elim
      | d a =>
        cases a with
        | gl D =>
          have p2:W1 (AX X.K) X.K Z ρ1 H1 Wx σ Q (if decide (D=C) then (ms e S1).bind (Y7 n g) else .bad):=p1
          clear p1
          by_cases hd:D=C
          · rw [if_pos (decide_eq_true hd)] at p2
            subst hd
            exact ⟨rfl,ρ1,S1,s1,ev1,p2⟩
          · rw [if_neg (by simpa using hd)] at p2; exact p2.elim
        | _=>exact p1.elim)) fun u s1 ⟨x,H1,I1,rx,ex,ρ1,S1,st1,ev1,p1⟩=>?_)
  subst ex
  obtain rfl:u=Value.ref (He.ga X.K C):=rx
  refine PySem.W.callWith_K (h₀:=X.base) I1.ok.mod.kin hk (thn (ha.run pos pins s1 σ H1 _ I1 (X9 (R':=fun vs H2=>∃ (ρ2:List Addr) (xs:List Bv.X) (S2:Sto),Sta X.K Z ρ2 S2 H2∧AXs X.K (Wn Z ρ2) ρ2 H2 xs vs∧W1 (AX X.K) X.K Z ρ2 H2 Wx σ Q (Y7 n g xs S2)) st1 ev1 p1
    fun ρ2 H2 v xs S2 s2 g2 ev2 a2 p2=>⟨ρ2,xs,S2,s2,a2,p2⟩)) fun us s2 ⟨vs,H2,I2,r,ρ2,xs,S2,st2,a2,p2⟩=>⟨I2.kIn,?_⟩) he hpl
  obtain ⟨hl,p3⟩:=ari (rel:=W1 (AX X.K) X.K Z ρ2 H2 Wx σ Q) (fun z=>z) p2
  exact wpAny_call (c pins s2 σ H2 Q us vs Z ρ2 xs S2 I2 r st2 a2 (by rw [← Paired.length a2]; exact hl) p3)⟩
def X7m (i:Nat) (f:D→D→Option D) (m:M):MS:=fun e S=>(Z4 i e S).so e fun x S1=>(m e S1).so e fun y S2=>(op2 f S2 x y).so e fun z S3 => .go (.nx (e.set i (some z))) S3
def W0m:D→D→Option D:=ii fun i j=>some (.int (i + j))
theorem Y9f {K:PySem.W.Frag}:Op2 K (ipI fun i j=>i + j) W0m:=fun W H d1 d2 v1 v2 d Q hw a1 a2 e k=>by
  obtain ⟨i,j,rfl,rfl,e⟩:=X2n e
  cases e
  exact ⟨i,j,a1.int_inv,a2.int_inv,k H _ (Same.refl H) (.int _)⟩
theorem X8a {i:Nat} {f:D→D→Option D} {op:Operator} {ti:TIp} {pos':Pos} (hN:X.N.Nodup) (hi:X.N[i]?=some x) (hx:Loc X.env.scope x) (he:ME X Wx e m) (ho:PIp X op ti) (hf:Op2 X.K ti f)
    (hc:X.fn x=true ∨ X.env.scope.names.lookup x=some .local:=by first | exact .inl rfl | exact .inr rfl | assumption):MP X Wx (.AugAssign (.Name x pos') op e pos) (X7m i f m):=PS.of (ps_aug hN hi hx he ho hc) fun D σ H ⟨Z,ρ,e,S,st,ev,q⟩=>by
  unfold X7m Z4 at q
  cases z:e[i]? with
  | none=>rw [z] at q; exact q.elim
  | some o =>
    cases o with
    | none=>rw [z] at q; exact q.elim
    | some y =>
      rw [z] at q
      obtain ⟨v,h1,h2⟩:=ev.at_ i y z
      refine ⟨v,h1,Z1r st ev (show Z28 X.K Z ρ H Wx D ((m e S).so e fun w S2=>(op2 f S2 y w).so e fun z S3 => .go (.nx (e.set i (some z))) S3) from q) fun ρ1 H1 u w S1 s1 g1 ev1 a1 p1=>?_⟩
      have b1:=h2.mv (g1.mv st) g1.pre
      unfold op2 at p1
      cases e1:y.get S1 with
      | none=>rw [e1] at p1; exact p1.elim
      | some d1 =>
        cases e2:w.get S1 with
        | none=>rw [e1,e2] at p1; exact p1.elim
        | some d2 =>
          rw [e1,e2] at p1
          cases e3:f d1 d2 with
          | none=>simp only [e3] at p1; exact p1.elim
          | some d =>
            simp only [e3] at p1
            exact hf (Wn Z ρ1) H1 d1 d2 v u d _ (fun _ h=>s1.thereW h) (b1.get s1 e1) (a1.get s1 e2) e3 fun H' v' k a =>
              p1 ρ1 H' _ (s1.grow k) (Go.grow k) ((ev1.mv ((Go.grow k).mv s1) (List.prefix_refl _)).set (.d a))
end
end Bv
namespace Bv
open PySem PySem.Spec L2
open PyProof.Rows hiding St
variable [HasW]
theorem X9l {X:Cx} {Wx:WX} {pos p tpos:Pos} {kt:Nat} {a b c:Expr} {m:M} {tab:List (String × Bool)} {own:List (Str × Bool)} {u1 u2:Value} {c1 c2:V} (hg:Gl X "isinstance") (hm:X.mg "isinstance" = none) (he:ME X Wx a m) (hc1:PE X b (tC c1)) (hc2:PE X c (tC c2)) (T:IsTs X.K [u1,u2] tab own) (k1:ClsV c1 u1) (k2:ClsV c2 u2)
    (ht1:starEach [b,c] X.env=(false,eval b X.env) :: starEach [c] X.env:=by rfl) (ht2:starEach [c] X.env=(false,eval c X.env) :: starEach [] X.env:=by rfl)
    (hs:starEach [a, .Tuple [b,c] kt tpos] X.env=(false,eval a X.env) :: starEach [.Tuple [b,c] kt tpos] X.env:=by rfl) (hs2:starEach [.Tuple [b,c] kt tpos] X.env=(false,eval (.Tuple [b,c] kt tpos) X.env) :: starEach [] X.env:=by rfl)
    (hpl:(backTo pos (starEach [.Tuple [b,c] kt tpos] X.env)).any (·.1)=false:=by rfl):ME X Wx (.Call (.Name "isinstance" p) [a, .Tuple [b,c] kt tpos] [] pos) (Y5m tab own m):=PE.of (pe_callB call_isiT hg hm (by rfl) (pa_cons he (pa_cons (pe_tup (pa_cons hc1 (pa_cons hc2 pa_nil ht2) ht1)) pa_nil hs2) hs) (by decide) (by decide) hs hpl) fun σ H Q ⟨Z,ρ,e,S,st,ev,q⟩=>X9 st ev q fun ρ1 H1 v x S1 s1 g1 ev1 a1 p1=>by
  obtain ⟨w,hw,p2⟩:=p1.opt
  obtain ⟨b,h1,h2⟩:=Option.map_eq_some_iff.mp hw
  subst h2
  refine ⟨Nat.le_trans (show [c1,c2].length ≤ 2 from Nat.le_refl _) (by decide),fun r hr=>?_⟩
  have k:=U3 (o:=HO.tup [c1,c2]) hr
  have s2:=s1.grow k
  obtain ⟨t,ty,kt⟩:=X9d T s2 (a1.mv ((Go.grow k).mv s1) (List.prefix_refl _)) h1
  exact ⟨v,r,[c1,c2],t,[u1,u2],b,rfl,upd_same, .cons k1 (.cons k2 .nil),ty,kt,W1.ret p2 s1 k (.d (.bl b))⟩
end Bv
namespace Bv
open PySem PySem.Spec L2
open PyProof.Rows hiding St
variable [HasW]
def Y9i (l:List Str):Bool:=l.all fun z=>PyData.strOk z
def Z84 (a:Str) (y:Bv.X) (S:Sto):R Bv.X:=match y with
  | .d (.str b)=>if !(b.length == 0) && decide (a.length + 2 ≤ sizeLine) && Y9i (Txt.split a b) then .ok (.d (.lst ((Txt.split a b).map .str))) S else .bad
  | _ => .bad
theorem Y3s {K:PySem.W.Frag} {W:Wd} {H:Hp}:∀ {l:List Str},Y9i l=true→AVs K W H (l.map D.str) (l.map V.str)
  | [],_ => .nil
  | z :: r,h=>by
    have h2:(PyData.strOk z && Y9i r)=true:=h
    rw [Bool.and_eq_true] at h2
    exact .cons (.str h2.1) (Y3s h2.2)
section
variable {X:Cx} {Wx:WX} {pos apos:Pos} {o e:Expr} {mo m:M}
theorem X67 {Z:Wd} {ρ:List Addr} {S:Sto} {H:Hp} {σ:L2.St} {Q:VK} {l:List Str} (st:Sta X.K Z ρ S H) (h:Y9i l=true) (p:W1 (AX X.K) X.K Z ρ H Wx σ Q (.ok (.d (.lst (l.map .str))) S)):∀ q,H q=none→Q (.ref q) (upd H q (.lst (l.map V.str))) :=
  fun q hq=>W1.ret p st (U3 hq) (.d (Z69 (fun z hz=>st.thereW hz) hq (Y3s h)))
theorem Y1l (ho:ME X Wx o mo) (he:ME X Wx e m) (hs:starEach [e] X.env=[(false,eval e X.env)]:=by rfl) (hbase:attributeBase o "split" X.env (eval o X.env)=eval o X.env:=by rfl) (hline:(apos.endLine == pos.line)=true:=by rfl) :
    ME X Wx (.Call (.Attribute o "split" apos) [e] [] pos) (Y4o Z84 mo m):=PE.of (pe_split ho he hs hbase hline) fun σ H Q ⟨Z,ρ,e,S,st,ev,p⟩=>X9 st ev p fun ρ1 H1 v x S1 s1 g1 ev1 a1 p1=>by
  cases a1 with
  | r _=>exact p1.elim
  | d a =>
    cases a with
    | str hz =>
      rename_i z
      refine ⟨⟨z,rfl⟩,X9 s1 ev1 (show W1 (AX X.K) X.K Z ρ1 H1 Wx σ Q ((m e S1).bind fun y S2=>Z84 z y S2) from p1) fun ρ2 H2 u y S2 s2 g2 ev2 a2 p2=>?_⟩
      unfold Z84 at p2
      split at p2
      · rename_i b
        split at p2
        · rename_i hc
          rw [Bool.and_eq_true,Bool.and_eq_true] at hc
          obtain ⟨⟨c1,c2⟩,c3⟩:=hc
          cases a2 with
          | d a2 =>
            cases a2 with
            | str hb=>exact ⟨z,b,rfl,rfl,by simpa using c1,of_decide_eq_true c2,X67 s2 c3 p2⟩
        · exact p2.elim
      · exact p2.elim
    | _=>exact p1.elim
end
end Bv
namespace Bv
open PySem PySem.Spec L2
open PyProof.Rows hiding St
variable [HasW]
def ItE (K:PySem.W.Frag) (a:Addr):It :=
  ⟨fun i H=>∃ xs x,SqT K H a xs∧xs[i]?=some x,fun i H v H'=>∃ T x,v = .ref T∧H T=none∧H'=upd H T (.tup [.int (i:Nat),x])∧∀ xs,SqT K H a xs→xs[i]?=some x,fun i H=>∃ xs:List V,SqT K H a xs∧xs.length ≤ i⟩
theorem X4l {prog:Program} {w:World} {A:Around} {it a:Addr} {i:Nat} {items:Array Value} (hh:A.handled=none) (no:items[i]?=none):Draws prog w A it [it,a] i (fun _ _=>True) (fun j h=>j=i∧h.IsTupleIter it a i∧h.IsTuple a items) where
  live:=fun _ _ st=>let ⟨o,ho,_⟩:=st.2.1; ⟨o,ho⟩
  frame:=fun _ _ _ st hk=>⟨st.1,st.2.1.at fun o e=>hk it (by simp) o e,st.2.2.at fun o e=>hk a (by simp) o e⟩
  item:=fun j s Q E hj st _=>absurd st.1 (Nat.ne_of_lt hj)
  done:=fun s Q E st hE=>wpAny_nextOf_tuple_end hh st.2.1 st.2.2 no hE
theorem X32 {P:Program} {w:World} {K:PySem.W.Frag} {elts:List Expr} {kk:Nat} {tpos:Pos} (a e it:Addr) :
    Turn P w K (.Tuple elts kk tpos) (ItE K a) [e,it] e (fun i h=>(∃ old,IsEnum h e it ((i:Nat):Int) old)∧h.IsTupleIter it a i∧e ≠ it∧a ≠ it∧e ≠ a) where
  mem:=by simp
  obj:=fun i h st b hb=>by
    obtain ⟨⟨old,he⟩,⟨o,ho,hc,hd⟩,_⟩:=st
    rcases (show b=e ∨ b=it by simpa using hb) with z | z
    · rw [z]; exact ⟨_,he,fun v q=>nomatch q⟩
    · rw [z]; exact ⟨o,ho,fun v q=>by rw [hd] at q; cases q⟩
  keep:=fun i h h' st k=>let ⟨⟨old,he⟩,hi,hne⟩:=st; ⟨⟨old,k e (by simp) _ he⟩,hi.at fun o q=>k it (by simp) o q,hne⟩
  item:=by
    intro X hP hw hK hc i pins s σ H E I hf st hg
    subst hP hw hK
    obtain ⟨⟨old,he⟩,hit,hne,hai,hea⟩:=st
    obtain ⟨xs,x,hq,hx⟩:=hg
    obtain ⟨its,rv,p,hz⟩:=I.tuple hq
    obtain ⟨u,hu,ru⟩:=rv.get hx
    have el:e < s.heap.objs.size:=Heap.lt_size he
    have il:it < s.heap.objs.size:=by obtain ⟨_,q,_⟩:=hit; exact Heap.lt_size q
    have lt:i < its.toArray.size:=by
      have:=(List.getElem?_eq_some_iff.mp hu).1
      simpa using this
    refine wpAny_pyNext_enum_itemD (Draws.tuple (A:=X.A.in1) (show X.A.in1.handled=none from I.ok.hd hc) it a hai its.toArray) he ⟨hit,p⟩ lt hne (by simp; exact ⟨hne,hea⟩) fun y h' tk hy ho hit' hT hsz hk=>?_
    have ey:y=u:=by
      have hy:its.toArray[i]?=some y:=hy
      have hu':its.toArray[i]?=some u:=by simpa using hu
      rw [hy] at hu'
      exact Option.some.inj hu'
    subst ey
    refine ⟨_,rfl,wpAny_letOwnedTupleGo_enum (s:={ s with heap:=h',toks:=tk + 1 }) ho fun h'' he' sb=>?_⟩
    have hT2:h''.get? s.heap.objs.size=some { cls := .type "tuple",data := .seq #[.int i tk,y] }:=(sb.2 _ (Nat.ne_of_gt el)).trans hT
    have new:ObjOk X.prog X.w (upd H s.heap.objs.size (.tup [.int (i:Nat),x])) h'' s.heap.objs.size (.tup [.int (i:Nat),x]):=⟨(by decide:2 ≤ sizeLine),[.int i tk,y], .cons ⟨_,rfl⟩ (.cons ru .nil),⟨_,hT2,rfl,_,rfl⟩⟩
    have I1:Inv X pins σ (upd H s.heap.objs.size (.tup [.int (i:Nat),x])) { s with heap:=h'',toks:=tk + 1 } :=
      I.turnedNew (ch:=[e,it]) (fun b ob hb q=>(sb.2 b (fun z=>hb (by simp [z]))).trans (hk b ob (fun z=>hb (by simp [z])) (fun z=>hb (by simp [z])) q)) hf (Nat.le_refl _) new
    refine ⟨.ref s.heap.objs.size,_,I1,rfl,⟨_,x,rfl,I.hok.fresh (Nat.le_refl _),rfl,fun ys hy=>by rw [I.tuple_inj hy hq]; exact hx⟩,⟨⟨y,?_⟩,hit'.1.at fun o q=>(sb.2 it (Ne.symm hne)).trans q,hne,hai,hea⟩,fun b hb=>?_⟩
    · rw [show ((i + 1:Nat):Int)=(i:Int) + 1 by omega]; exact he'
    · have hb':b < s.heap.objs.size:=by
        rcases (show b=e ∨ b=it by simpa using hb) with z | z
        · rw [z]; exact el
        · rw [z]; exact il
      rw [upd_ne (Nat.ne_of_lt hb')]
      exact (hf b hb).1
  done:=by
    intro X hP hw hK hc i pins s σ H E I hf st hg
    subst hP hw hK
    obtain ⟨⟨old,he⟩,hit,hne,hai,hea⟩:=st
    obtain ⟨xs,hq,hx⟩:=hg
    obtain ⟨its,rv,p,hz⟩:=I.tuple hq
    obtain ⟨f0,f1,f2,f3,f4,f5⟩:=hf it (by simp)
    have no:its.toArray[i]?=none:=by
      have:=rv.length
      simp; omega
    exact wpAny_pyNext_enum_endD (X4l (A:=X.A.in1) (show X.A.in1.handled=none from I.ok.hd hc) no) he ⟨rfl,hit,p⟩ fun h' eb=>⟨rfl,I.turned (t':=s.toks) (fun b o hb q=>eb b o hb q) f0 f1 f3 f4 f5⟩
  self:=fun A i s Q E st h=>let ⟨⟨_,he⟩,_⟩:=st; wpAny_pyIter_enum he h
end Bv
namespace PySem
open Sem (wp)
open AutoSeq1 (wpAny_loadPart')
theorem enumT_new (t:Addr) (items:Array Value) (n:Nat) (dct:Option Addr) (sl:Array (Option Value)) :
    Meets (Builtin.«enumerate.__new__» ⟨[.type "enumerate", .ref t],[]⟩) (fun _ R s=>s.heap.get? t=some { cls := .type "tuple",dict:=dct,data := .seq items n,slots:=sl } ∧
      R (.ok (.ret (.ref (s.heap.push { cls := .type "tuple_iterator",data := .fields #[.ref t, .int 0 0] }).objs.size))) { s with heap:=(s.heap.push { cls := .type "tuple_iterator",data := .fields #[.ref t, .int 0 0] }).push { cls := .type "enumerate",data := .fields #[.none, .bool false, .ref s.heap.objs.size,rawInt 0, .none, .none] } }) :=
  .of_wp fun prog w A R s q=>by
    obtain ⟨hp,g,d,tk,os⟩:=s
    obtain ⟨ht,fin⟩:=q
    have below:=sub_enumerate
    have isT:Heap.IsTuple (Shared.heap ⟨hp,g,d,tk,os⟩) t items:=⟨_,ht,rfl,n,rfl⟩
    wp_walk using wpAny_loadPart' ht
    refine (wpAny_stack_any fun st=>wpAny_pure ?_)
    split
    · rename_i c _ _ _ _ _
      cases (c == Value.type "enumerate") <;> (wp_walk using wpAny_loadPart' ht,wpAny_pyIter_tuple isT; exact ⟨_,rfl,fin⟩)
    · wp_walk using wpAny_loadPart' ht,wpAny_pyIter_tuple isT
      exact ⟨_,rfl,fin⟩
theorem call_enumT {prog:Program} {w:World} {A:Around} {E:Value→Shared→Prop} {s:Shared} {t:Addr} {items:Array Value} {Q:Value→Shared→Prop} (hT:s.heap.IsTuple t items)
    (fin:∀ h',IsEnum h' (s.heap.objs.size + 1) s.heap.objs.size 0 .none→h'.IsTupleIter s.heap.objs.size t 0→h'.objs.size=s.heap.objs.size + 2→(∀ b o,s.heap.get? b=some o→h'.get? b=some o)→Q (.ref (s.heap.objs.size + 1)) { s with heap:=h' }) :
    wpAny (model prog w) A (call (.type "enumerate") [.ref t]) Q E s:=by
  obtain ⟨⟨c,dct,dt,sl⟩,ht,hc,n,hd⟩:=hT
  obtain rfl:c = .type "tuple" := hc
  obtain rfl:dt = .seq items n:=hd
  refine callType_new F.called_enumerate (by decide) (F.typeCall_enumerate_1 _) (F.newCall_enumerate_1 _) (fun obj=>F.args_object_init_2 obj _) F.entry_enumerate_new (enumT_new t items n dct sl) ⟨ht,?_⟩
  have z:(s.heap.push { cls := .type "tuple_iterator",data := .fields #[.ref t, .int 0 0] }).objs.size=s.heap.objs.size + 1:=Heap.size_push ..
  show _∧_
  rw [z]
  have en:IsEnum ((s.heap.push { cls := .type "tuple_iterator",data := .fields #[.ref t, .int 0 0] }).push { cls := .type "enumerate",data := .fields #[.none, .bool false, .ref s.heap.objs.size,rawInt 0, .none, .none] }) (s.heap.objs.size + 1) s.heap.objs.size 0 .none:=by
    have y:=Heap.get?_push_size (s.heap.push { cls := .type "tuple_iterator",data := .fields #[.ref t, .int 0 0] }) (o:={ cls := .type "enumerate",data := .fields #[.none, .bool false, .ref s.heap.objs.size,rawInt 0, .none, .none] }) rfl
    rw [z] at y
    exact y
  exact ⟨⟨_,en,rfl⟩,fin _ en ⟨_,Heap.get?_push_of_some _ (Heap.get?_push_size _ rfl),rfl,rfl⟩ (by rw [Heap.size_push,z]) fun b o x=>Heap.get?_push_of_some _ (Heap.get?_push_of_some _ x)⟩
end PySem
namespace Bv
open PySem PySem.Spec L2
open PyProof.Rows hiding St
variable [HasW]
def W1f (K:PySem.W.Frag) (ta:TA):TI:=fun σ H R=>ta σ H fun vs H1=>∃ a xs,vs=[.ref a]∧((SqL K H1 a xs∧R (Ite K a) H1) ∨ (SqT K H1 a xs∧R (ItE K a) H1))
theorem X7f {X:Cx} {e:Expr} {ta:TA} {p pos tpos:Pos} {elts:List Expr} {kk:Nat} (hg:Gl X "enumerate") (hm:X.mg "enumerate" = none) (ha:PA X [e] ta) (hs:starEach [e] X.env=[(false,eval e X.env)]:=by rfl) :
    PI X (.Tuple elts kk tpos) (.Call (.Name "enumerate" p) [e] [] pos) (W1f X.K ta):=⟨fun pins s σ H R I h=>by
  refine Call_ (ld_blt I hg hm boot_enumerate (callWith_type1 (thn (ha.run pos pins s σ H _ I h) fun us s1 ⟨vs,H1,I1,r1,a,xs,ex,q1⟩=>?_) hs rfl))
  subst ex
  cases r1 with
  | cons r rr =>
    cases rr
    cases r
    have two:∀ b ∈ [s1.heap.objs.size + 1,s1.heap.objs.size],FpOk X pins H1 b:=fun b hb=>by
      have le:s1.heap.objs.size ≤ b:=by
        rcases (show b=s1.heap.objs.size + 1 ∨ b=s1.heap.objs.size by simpa using hb) with z | z
        · rw [z]; exact Nat.le_add_right _ _
        · rw [z]; exact Nat.le_refl _
      exact I1.fpOk le (I1.hok.fresh le)
    rcases q1 with ⟨hq,q⟩ | ⟨hq,q⟩
    · obtain ⟨its,rv,pl,_⟩:=I1.list hq
      exact call_enumerate_list pl.isList fun h' he hit hsz hk=>wpAny_pyIter_enum he ⟨s1.heap.objs.size + 1,[s1.heap.objs.size + 1,s1.heap.objs.size],_,_,H1,rfl,I1.kept (t':=s1.toks) hk,turn_enum a (s1.heap.objs.size + 1) s1.heap.objs.size,⟨⟨.none,he⟩,hit,Nat.succ_ne_self _⟩,two,q⟩
    · obtain ⟨its,rv,pl,_⟩:=I1.tuple hq
      have lt:a < s1.heap.objs.size:=by obtain ⟨o,ho,_⟩:=id pl; exact Heap.lt_size ho
      exact call_enumT (show s1.heap.IsTuple a its.toArray from pl) fun h' he hit hsz hk=>wpAny_pyIter_enum he ⟨s1.heap.objs.size + 1,[s1.heap.objs.size + 1,s1.heap.objs.size],_,_,H1,rfl,I1.kept (t':=s1.toks) hk,X32 a (s1.heap.objs.size + 1) s1.heap.objs.size,⟨⟨.none,he⟩,hit,Nat.succ_ne_self _,Nat.ne_of_lt lt,Nat.ne_of_gt (Nat.lt_succ_of_lt lt)⟩,two,q⟩⟩
theorem X35 {K:PySem.W.Frag} {a:Addr} {xs:List V}:Walk (ItE K a) xs.length (fun H=>SqT K H a xs) (YPair (fun i=>some (.int (i:Nat))) (fun i=>xs[i]?)) :=
  ⟨fun i _ hi q=>⟨xs,xs[i],q,by simp [hi]⟩,fun _ q=>⟨xs,q,Nat.le_refl _⟩,fun i H v H' _ q ⟨T,x,h1,h2,h3,h4⟩=>⟨T, .int (i:Nat),x,h1,h2,h3,rfl,h4 xs q⟩⟩
def numbered (ds:List D):List Bv.X:=(List.range ds.length).zipWith (fun (i:Nat) d=>Bv.X.d (.tup [.int (i:Nat),d])) ds
def W1b:List Bv.X→Option (List Bv.X × Lk)
  | [.d (.lst ds)]=>some (numbered ds, .free)
  | [.d (.tup ds)]=>some (numbered ds, .free)
  | _=>none
def X70 (S:Sto):List Bv.X→Option (List Bv.X × Lk)
  | [.r n]=>(match S[n]? with
    | some (.lst xs)=>(match ds? xs with
      | some ds=>some (numbered ds, .lst n xs)
      | none=>none)
    | _=>none)
  | xs=>W1b xs
def Y8x (ms:MG (List Bv.X)):MIt:=fun e S=>(ms e S).bind fun xs S1=>Y3b (X70 S1 xs) S1
theorem Y4u {ds:List D} {i:Nat} {d:D} (h:ds[i]?=some d):(numbered ds)[i]?=some (.d (.tup [.int (i:Nat),d])):=by
  have lt:=(List.getElem?_eq_some_iff.mp h).1
  unfold numbered
  rw [List.getElem?_zipWith,h]
  simp [lt]
theorem Y2z (ds:List D):(numbered ds).length=ds.length:=by simp [numbered]
theorem X0h {K:PySem.W.Frag} {W:Wd} {ρ:List Addr} {H:Hp} {J:It} {G:Hp→Prop} {xs:List V} {ds:List D} (hs:AVs K W H ds xs) (w:Walk J xs.length G (YPair (fun i=>some (.int (i:Nat))) (fun i=>xs[i]?)))
    (hg:∀ (Z2:Wd) (ρ2:List Addr) (H2:Hp),Mv W H (Wn Z2 ρ2) H2→G H2):Srv K W ρ H (numbered ds, .free) J :=
  ⟨G,_,by rw [show (numbered ds,Lk.free).1.length=xs.length by rw [show (numbered ds,Lk.free).1=numbered ds from rfl,Y2z,hs.length]]; exact w,fun Z2 ρ2 S2 H2 st m p fz k=>⟨hg Z2 ρ2 H2 m,fun i x H3 y=>by
    obtain ⟨T,u,v,rfl,hT,rfl,h1,h2⟩:=y
    cases h1
    obtain ⟨d,h3,h4⟩:=(hs.mv m).at_ h2
    have kp:=U3 (o:=HO.tup [.int (i:Nat),v]) hT
    exact ⟨kp,_,Y4u h3, .d (.tup (.inl ⟨st.fresh hT,upd_same⟩) (.cons (.int _) (.cons (h4.mv (Z5h kp)) .nil)))⟩⟩⟩
theorem X34 {K:PySem.W.Frag} {a:Addr} (n:Nat):Walk (Ite K a) n (fun H=>∃ xs,xs.length=n∧SqL K H a xs) (fun i H v H'=>∃ T x,v = .ref T∧H T=none∧H'=upd H T (.tup [.int (i:Nat),x])∧∀ xs,SqL K H a xs→xs[i]?=some x) :=
  ⟨fun i _ hi ⟨xs,e,q⟩=>⟨xs,xs[i]'(by omega),q,by simp [show i < xs.length by omega]⟩,fun _ ⟨xs,e,q⟩=>⟨xs,q,by omega⟩,fun _ _ _ _ _ _ y=>y⟩
theorem X31 {K:PySem.W.Frag} {W:Wd} {ρ:List Addr} {H:Hp} {a:Addr} {n:Nat} {ds:List D} (h:ρ[n]?=some a):Srv K W ρ H (numbered ds, .lst n (ds.map Bv.X.d)) (Ite K a) :=
  ⟨_,_,by rw [show (numbered ds,Lk.lst n (ds.map Bv.X.d)).1.length=ds.length from Y2z ds]; exact X34 ds.length,fun Z2 ρ2 S2 H2 st m p fz k=>by
    have k:(match S2[n]? with
      | some (.lst zs)=>decide (zs=ds.map Bv.X.d)
      | _=>false)=true:=k
    cases q2:S2[n]? with
    | none=>rw [q2] at k; cases k
    | some o2 =>
      rw [q2] at k
      cases o2 with
      | lst zs =>
        have k:zs=ds.map Bv.X.d:=of_decide_eq_true k
        subst k
        have h':ρ2[n]?=some a:=by
          obtain ⟨t,rfl⟩:=p
          rw [List.getElem?_append_left (List.getElem?_eq_some_iff.mp h).1]; exact h
        obtain ⟨us,h3,h4⟩:=st.ob n _ _ q2 h'
        have hl:us.length=ds.length:=by
          have:=Paired.length h4
          rw [List.length_map] at this
          exact this.symm
        refine ⟨⟨us,hl, .inl (.inl h3)⟩,fun i x H3 y=>?_⟩
        obtain ⟨T,u,rfl,hT,rfl,y⟩:=y
        obtain ⟨b,h5,h6⟩:=Y43 h4 (y us (.inl (.inl h3)))
        rw [List.getElem?_map] at h5
        cases hd:ds[i]? with
        | none=>rw [hd] at h5; cases h5
        | some d =>
          rw [hd] at h5
          cases h5
          cases h6 with
          | d h6 =>
            have kp:=U3 (o:=HO.tup [.int (i:Nat),u]) hT
            exact ⟨kp,_,Y4u hd, .d (.tup (.inl ⟨st.fresh hT,upd_same⟩) (.cons (.int _) (.cons (h6.mv (Z5h kp)) .nil)))⟩
      | _=>cases k⟩
theorem W21 {xs:List Bv.X}:∀ {ds:List D},ds? xs=some ds→xs=ds.map Bv.X.d:=by
  induction xs with
  | nil=>intro ds h; cases h; rfl
  | cons x r ih =>
    intro ds h
    cases x with
    | r n=>cases h
    | d v =>
      have h:(match Bv.X.d v,ds? r with
        | .d v,some l=>some (v :: l)
        | _,_=>none)=some ds:=h
      cases q:ds? r with
      | none=>rw [q] at h; cases h
      | some l=>rw [q] at h; cases h; rw [ih q]; rfl
theorem Y7p {X:Cx} {Wx:WX} {e:Expr} {ms:MG (List Bv.X)} {p pos tpos:Pos} {elts:List Expr} {kk:Nat} (hg:Gl X "enumerate") (hm:X.mg "enumerate" = none) (ha:MA X Wx [e] ms) (hs:starEach [e] X.env=[(false,eval e X.env)]:=by rfl) :
    MI X Wx (.Tuple elts kk tpos) (.Call (.Name "enumerate" p) [e] [] pos) (Y8x ms):=PI.of (X7f hg hm ha hs) fun σ H R ⟨Z,ρ,e,S,st,ev,p⟩=>X9 st ev p fun ρ1 H1 v xs S1 st1 g1 ev1 a1 p1=>by
  obtain ⟨w,hw,p2⟩:=p1.opt
  unfold X70 at hw
  split at hw
  · rename_i n
    cases a1 with
    | cons ha t =>
      cases t
      cases ha with
      | r h =>
        rename_i a
        cases q:S1[n]? with
        | none=>rw [q] at hw; cases hw
        | some o =>
          rw [q] at hw
          cases o with
          | lst xs =>
            have hw:(match ds? xs with
              | some ds=>some (numbered ds,Lk.lst n xs)
              | none=>none)=some w:=hw
            cases q3:ds? xs with
            | none=>rw [q3] at hw; cases hw
            | some ds =>
              rw [q3] at hw
              cases hw
              have exs:=W21 q3
              subst exs
              obtain ⟨vs,h1,h2⟩:=st1.ob n _ _ q h
              exact ⟨_,_,rfl, .inl ⟨.inl (.inl h1),W1.ret0 p2 st1 (X31 h)⟩⟩
          | _=>cases hw
  · unfold W1b at hw
    split at hw
    · cases hw
      obtain ⟨v,rfl,a⟩:=Y9u a1
      cases a with
      | lst w r hs=>exact ⟨_,_,rfl, .inl ⟨.inl (.inl r),W1.ret0 p2 st1 (X0h hs walk_enum fun Z2 ρ2 H2 m => .inl (.inl (m _ _ w r).2))⟩⟩
    · cases hw
      obtain ⟨v,rfl,a⟩:=Y9u a1
      cases a with
      | tup t hs=>exact ⟨_,_,rfl, .inr ⟨t.sq,W1.ret0 p2 st1 (X0h hs X35 fun Z2 ρ2 H2 m=>(m.tp t).sq)⟩⟩
    · cases hw
end Bv
namespace Bv
open PySem PySem.Spec L2
open PyProof.Rows hiding St
variable [HasW]
end Bv
namespace Bv
open PySem PySem.Spec L2
open PyProof.Rows hiding St
variable [HasW]
end Bv
namespace PySem
open Sem (wp)
open AutoSeq1 (wpAny_loadPart')
open MeetsSeq MeetsSeq2 MeetsSeq3 SeqRoads2
namespace BvIn
section
variable {prog:Program} {w:World} {A:Around} {E:Value→Shared→Prop} {s:Shared}
end
end BvIn
end PySem
namespace Bv
open PySem PySem.Spec L2
open PyProof.Rows hiding St
structure OwnSub (K:PySem.W.Frag) (C:Str):Prop where
  st:PySem.W.subIn K (.ref (He.ga K C)) (.type "str")=some false
  no:PySem.W.subIn K (.ref (He.ga K C)) (.type "NoneType")=some false
  tu:PySem.W.subIn K (.ref (He.ga K C)) (.type "tuple")=some false
variable [HasW]
section
variable {X:Cx} {k:Nat} {f:Addr} {fd:FuncData} {ps:List Str} {g:List D→PR} {C:Str}
end
section
variable {X:Cx} {Wx:WX} {k j:Nat} {C:Str} {g:List D→PR}
end
end Bv
namespace PySem
open Sem (wp)
open AutoSeq1 (wpAny_loadPart')
open MeetsSeq MeetsSeq2 MeetsSeq3 SeqRoads2
namespace BvTu
section
variable {prog:Program} {w:World} {A:Around} {R:Result→Shared→Prop}
variable {E:Value→Shared→Prop} {s:Shared}
end
end BvTu
end PySem
namespace Bv
open PySem PySem.Spec L2
open PyProof.Rows hiding St
variable [HasW]
section
variable {X:Cx} {k:Nat} {f:Addr} {fd:FuncData} {ps:List Str} {g:List D→PR} {C:Str}
end
def X6z (m:M):M:=fun e S=>(m e S).bind fun x S1=>Y3b ((X6r x).map fun i => .d (.int (-i))) S1
section
variable {X:Cx} {Wx:WX} {k j:Nat} {C:Str} {g:List D→PR} {pos:Pos} {a:Expr} {m:M}
theorem X5a (h:ME X Wx a m):ME X Wx (.UnaryOp .USub a pos) (X6z m):=PE.of (pe_un un_neg h) fun σ H Q ⟨Z,ρ,e,S,st,ev,p⟩=>X9 st ev p fun ρ1 H1 v x S1 s1 g1 ev1 a1 p1=>by
  obtain ⟨w,hw,p2⟩:=p1.opt
  obtain ⟨i,h1,h2⟩:=Option.map_eq_some_iff.mp hw
  subst h2
  exact ⟨i,a1.int h1,W1.ret0 p2 s1 (.d (.int _))⟩
end
end Bv
namespace Bv
open PySem PySem.Spec L2
open PyProof.Rows hiding St
variable [HasW]
section
variable {X:Cx} {Wx:WX} {pos apos:Pos} {o e:Expr} {mo m:M}
end
end Bv
namespace Bv
open PySem PySem.Spec L2
open PyProof.Rows hiding St
variable [HasW]
def W29 (S:Sto):X→Option (List X)
  | .d (.lst ds)=>some (ds.map .d)
  | .d _=>none
  | .r n=>match S[n]? with
    | some (.lst xs)=>some xs
    | _=>none
theorem X6y {K:PySem.W.Frag} {Z:Wd} {ρ:List Addr} {S:Sto} {H:Hp} {x:Bv.X} {v:V} {xs:List Bv.X} (st:Sta K Z ρ S H) (a:AX K (Wn Z ρ) ρ H x v) (h:W29 S x=some xs):∃ q vs,v = .ref q∧H q=some (.lst vs)∧AXs K (Wn Z ρ) ρ H xs vs:=by
  cases x with
  | d d =>
    cases a with
    | d a =>
      cases a with
      | lst h1 h2 h3 =>
        cases h
        exact ⟨_,_,rfl,h2,h3.axs⟩
      | _=>cases h
  | r n =>
    have h2:X3m S (.r n)=some (n,xs):=by
      unfold W29 at h
      unfold X3m
      cases z:S[n]? with
      | none=>simp only [z] at h; cases h
      | some o =>
        cases o with
        | lst ys =>
          simp only [z] at h ⊢
          cases h
          rfl
        | _=>simp only [z] at h; cases h
    obtain ⟨q,vs,e,_,h3,h4⟩:=Y1j st a h2
    exact ⟨q,vs,e,h3,h4⟩
def Y1i:Bv.X→List Bv.X→Sto→R Bv.X:=fun x ys S=>match X3m S x,ys with
  | some (n,xs),[y]=>(match W29 S y with
    | some zs=>if decide (xs.length + zs.length ≤ sizeLine) then .ok (.d .non) (S.set n (.lst (xs++zs))) else .bad
    | none => .bad)
  | _,_ => .bad
theorem Y7f {K:PySem.W.Frag}:MtX K rExtend Y1i:=fun Z ρ S H Wx σ x v ys ws Q st a as p=>by
  unfold Y1i at p
  split at p
  · rename_i n xs y hl
    cases as with
    | cons h t =>
      cases t
      split at p
      · rename_i zs hy
        split at p
        · rename_i hz
          obtain ⟨q,vs,rfl,e,h3,h4⟩:=Y1j st a hl
          obtain ⟨b,us,rfl,h5,h6⟩:=X6y st h hy
          have hz:=of_decide_eq_true hz
          obtain ⟨s5,g5⟩:=st.putL e h3 (Paired.append h4 h6)
          exact ⟨q,b,vs,us,rfl,rfl,h3,h5,by rw [← Paired.length h4,← Paired.length h6]; exact hz,p ρ _ .non s5 g5 (.d .non)⟩
        · exact p.elim
      · exact p.elim
  · exact p.elim
end Bv
namespace Xe
open PySem PySem.W PySem.Calls PyProof.Rows PySem.HandSPX
structure TailF (newId:String) (bm:List Value):Prop where
  new:∃ (Bn inN:String) (bmN:List Value),ExcBaseFacts Bn newId inN bmN∧bm.contains (.type Bn)=true
  noA:bm.contains (.type "AttributeError")=false
  noN:bm.contains (.type "NameError")=false
structure InitF (B initId:String):Prop where
  init:Slot B "__init__" initId
  entry:entryFor table initId=some Builtin.«BaseException.__init__»
  kind:builtinKind initId=some .slot
  row:Manifest.signature? initId=some ⟨.positional, "*",B, .self,[⟨"args", .varPos,false⟩]⟩
  star:(B != "*")=true
theorem TailF.of {B newId initId:String} {bm:List Value} (F:ExcBaseFacts B newId initId bm):TailF newId bm:=⟨⟨B,initId,bm,F,F.hasB⟩,F.noAttr,F.noName⟩
theorem InitF.of {B newId initId:String} {bm:List Value} (F:ExcBaseFacts B newId initId bm):InitF B initId:=⟨F.init,F.initEntry,F.initKind,F.initRow,F.noStar⟩
theorem TailF.same {newId:String} {bm bmB:List Value} (T:TailF newId bmB) (h:∀ X:String,bm.contains (.type X)=bmB.contains (.type X)):TailF newId bm:=by
  obtain ⟨⟨Bn,inN,bmN,F,hb⟩,a,n⟩:=T
  exact ⟨⟨Bn,inN,bmN,F,(h _).trans hb⟩,(h _).trans a,(h _).trans n⟩
section
variable {prog:Program} {w:World} {M:Model} {A:Around} {E:Value→Shared→Prop} {R:Result→Shared→Prop} {h:Heap} {g:Array GenState} {d:Drawn} {t:Nat} {os:OsState}
variable {nm q:Str} {C N:Addr} {bs bm:List Value} {hdct:Bool} {sn:List Str} {sub:List Value} {ab:Bool} {col:Option Bool} {dd:Option Addr} {k0 k1 k2 k3 k5:Option Value} {B newId initId:String}
theorem new_check {Bn inN:String} {bmN:List Value} (F:ExcBaseFacts Bn newId inN bmN) (hB:bm.contains (.type Bn)=true) {rest:List Value} {Q:Unit→Shared→Prop}
    (hC:h.get? C=some (excClassObj nm q C N bs bm hdct sn sub ab col dd k0 k1 k2 k3 k5 newId)) (hq:Q () ⟨h,g,d,t,os⟩):wpAny M A (checkBuiltinCall newId ⟨.ref C :: rest,[]⟩) Q E ⟨h,g,d,t,os⟩:=by
  have within:(Value.ref C :: bm).contains (.type Bn)=true:=by rw [List.contains_cons,hB,Bool.or_true]
  have star:=F.noStar
  simp only [checkBuiltinCall,F.newKind,F.newSplit,F.newRow]
  repeat (first | refine wpAny_loadPart_at hC ?_ | (refine wpAny_isSubtype_exc hC ?_; rw [within]) | refine wpAny_staticBase_exc hC ?_ | refine wpAny_madeBy_exc hC ?_ | simp only [bne_self_eq_false,Bool.false_eq_true,if_false] | wp_step)
  exact hq
theorem new_made {Bn inN:String} {bmN:List Value} (F:ExcBaseFacts Bn newId inN bmN) (hB:bm.contains (.type Bn)=true) (hA:bm.contains (.type "AttributeError")=false) (hN:bm.contains (.type "NameError")=false) {rest:List Value}
    (hC:h.get? C=some (excClassObj nm q C N bs bm hdct sn sub ab col dd k0 k1 k2 k3 k5 newId))
    (hq:R (.ok (.ret (.ref (h.objs.size + 1)))) ⟨(h.push (kdv_tup rest)).push (excO C h.objs.size),g,d,t,os⟩) (hrest:rest.length ≤ sizeLine) :
    codeAny (model prog w) A (.builtin newId ⟨.ref C :: rest,[]⟩) R ⟨h,g,d,t,os⟩:=by
  have ends:=F.ends
  have c1:(Value.ref C :: bm).contains (.type Bn)=true:=by rw [List.contains_cons,hB,Bool.or_true]
  have c2:(Value.ref C :: bm).contains (.type "AttributeError")=false:=by rw [List.contains_cons,hA]; rfl
  have c3:(Value.ref C :: bm).contains (.type "NameError")=false:=by rw [List.contains_cons,hN]; rfl
  refine codeAny_builtinAt F.entry ?_
  unfold Builtin.«BaseException.__new__»
  refine PySem.wpAt_bind ?_
  show PySem.wpAt _ _ _ (stack >>= _) _ _ _
  refine PySem.wpAt_bind (PySem.wpAt_stack fun p below=>PySem.wpAt_of_wpAny ?_)
  wp_walk
  refine PySem.wpAt_of_wpAny ?_
  rw [F.owner]
  repeat (first | with_reducible refine wpAny_madeHere_exc F.canon hC ?_ | with_reducible refine wpAny_loadPart_at hC ?_ | (with_reducible refine wpAny_isSubtype_exc hC ?_; first | rw [c1] | rw [c2] | rw [c3]) | wp_step)
  show R _ _
  rw [Heap.size_push]
  exact hq
theorem class_call (T:TailF newId bm) {rest:List Value} {fI:Addr} {Q:Fin→Shared→Prop}
    (hC:h.get? C=some (excClassObj nm q C N bs bm hdct sn sub ab col dd k0 k1 k2 k3 k5 newId))
    (hi:W.Looks (model prog w) h (typeLookup (.ref C) "__init__") (some (.ref fI))) (hb:∀ self,W.Looks (model prog w) h (bindSpecial (.ref fI) self) (.ref fI,[self])) (hrest:rest.length ≤ sizeLine)
    (hq:codeAny (model prog w) A (.call (.ref fI) ⟨.ref (h.objs.size + 1) :: rest,[]⟩)
      (fun r s'=>match r with | .ok (.ret v)=>v = .none∧Q (.done (.ret (.ref (h.objs.size + 1)))) s' | .ok _=>False | .error e=>E e s')
      ⟨(h.push (W.kdv_tup rest)).push (excO C h.objs.size),g,d,t,os⟩) :
    wpAny (model prog w) A (Builtin.«type.__call__» ⟨.ref C :: rest,[]⟩) Q E ⟨h,g,d,t,os⟩:=by
  obtain ⟨⟨Bn,inN,bmN,F,hB⟩,hA,hN⟩:=T
  repeat (first | with_reducible refine wpAny_loadPart_at hC ?_ | with_reducible refine wpAny_madeBy_exc hC ?_ | wp_step)
  refine codeAny_call_builtin_code (Code.quiet_builtin _ F.quiet) (new_check F hB hC ?_)
  refine new_made F hB hA hN hC ?_ hrest
  show wpAny _ _ _ _ _ _
  have k:∀ b o,h.get? b=some o→((h.push (W.kdv_tup rest)).push (excO C h.objs.size)).get? b=some o:=fun b o e=>Heap.get?_push_of_some _ (Heap.get?_push_of_some _ e)
  have cls1:=k _ _ hC
  have obj1:((h.push (W.kdv_tup rest)).push (excO C h.objs.size)).get? (h.objs.size + 1)=some (excO C h.objs.size):=by heap_get
  have self1:(Value.ref C :: bm).contains (.ref C)=true:=by simp
  have i1:=hi.keeps k
  have b1:=(hb (.ref (h.objs.size + 1))).keeps k
  unfold isInstance
  repeat (first | with_reducible refine wpAny_loadPart_at obj1 ?_ | (with_reducible refine wpAny_isSubtype_exc cls1 ?_; rw [self1]) | wp_step)
  show wpAny _ _ (typeLookup (.ref C) _) _ _ _
  refine i1.at ?_
  refine wpAny_holding (wpAny_bind (b1.at ?_))
  refine wpAny_bind (wpAny_call (codeAny_mono hq fun r s' z=>?_))
  rcases r with e | (v | _ | _ | _) <;> first | exact z | exact z.elim | skip
  obtain ⟨rfl,z⟩:=z
  first
    | exact wpAny_pure (wpAny_pure z)
    | (wp_walk; exact z)
theorem call_class (T:TailF newId bm) {rest:List Value} {fI:Addr}
    (hC:h.get? C=some (excClassObj nm q C N bs bm hdct sn sub ab col dd k0 k1 k2 k3 k5 newId))
    (hi:W.Looks (model prog w) h (typeLookup (.ref C) "__init__") (some (.ref fI))) (hb:∀ self,W.Looks (model prog w) h (bindSpecial (.ref fI) self) (.ref fI,[self])) (hrest:rest.length ≤ sizeLine)
    (hq:codeAny (model prog w) (A.under (.builtin "type.__call__" ⟨.ref C :: rest,[]⟩)) (.call (.ref fI) ⟨.ref (h.objs.size + 1) :: rest,[]⟩) (W.InitBack (h.objs.size + 1) R)
      ⟨(h.push (W.kdv_tup rest)).push (excO C h.objs.size),g,d,t,os⟩) :
    codeAny (model prog w) A (.call (.ref C) ⟨rest,[]⟩) R ⟨h,g,d,t,os⟩:=by
  have f1:=tc_lookup
  have f2:=tc_bind (.ref C)
  have ty:(⟨h,g,d,t,os⟩:Shared).TypeIs (.ref C) "type" := ⟨_,hC,rfl⟩
  refine codeAny_of_tree ?_
  show wpAny _ _ (callAny (.ref C) _) _ _ _
  repeat (any_goals (first | assumption | with_reducible refine wpAny_loadPart_at hC ?_ | wp_step))
  refine ⟨rfl,?_⟩
  refine codeAny_call_builtin_at (Code.quiet_builtin _ (by decide +kernel)) entry_typeCall (wpAny_check_type_call_sub hC (class_call T hC hi hb hrest ?_))
  refine codeAny_mono hq fun r s' z=>?_
  rcases r with e | (v | _ | _ | _) <;> exact z
theorem bound_check (F:InitF B initId) {e:Addr} {oe:Obj} {rest:List Value} {Q:Unit→Shared→Prop}
    (hC:h.get? C=some (excClassObj nm q C N bs bm hdct sn sub ab col dd k0 k1 k2 k3 k5 newId)) (he:h.get? e=some oe) (hcls:oe.cls = .ref C) (hq:Q () ⟨h,g,d,t,os⟩):wpAny M A (checkBoundCall initId ⟨.ref e :: rest,[]⟩) Q E ⟨h,g,d,t,os⟩:=by
  have star:=F.star
  simp only [checkBoundCall,F.kind,F.row]
  repeat (first | (with_reducible refine wpAny_loadPart_at he ?_; rw [hcls]) | with_reducible refine wpAny_loadPart_at hC ?_ | wp_step)
  refine wpAny_onRaise ?_
  rw [show ∀ (a b:String) (n:Nat),Bind.check ⟨.positional, "*",B, .self,[⟨"args", .varPos,false⟩]⟩ a b n (List.map (fun x=>x.fst) ({ pos:=Value.ref e :: rest }:Args).kw)=pure () from
    fun a b n=>check_star_args _ _ _ _ _ _]
  exact wpAny_pure hq
end
theorem store_KE:StoreFacts "KeyError" [.type "KeyError", .type "LookupError", .type "Exception", .type "BaseException", .type "object"] "object.__setattr__" "object" where
  mro:=by kernel_rfl
  slot := .of (owner := "object") (n := "__setattr__") (by rw [typeLookup_type,builtinLookup_eq_fast]; kernel_rfl) (by decide +kernel) (by decide +kernel) (by decide +kernel)
    (by first | exact .inl (by decide +kernel) | exact .inr (by decide +kernel)) (by rw [isSubtype_type]; kernel_rfl)
  entry:=F.entry_object_sa
  kind:=by decide +kernel
  split:=by decide +kernel
  hasOwner:=by decide +kernel
  args:=fun a b c=>by unfold argsOk; kernel_rfl
  passes:=fun self=>by kernel_rfl
theorem init_KE:InitF "KeyError" "KeyError.__init__" where
  init := .of (owner := "KeyError") (n := "__init__") (by rw [typeLookup_type,builtinLookup_eq_fast]; kernel_rfl) (by decide +kernel) (by decide +kernel) (by decide +kernel)
    (by first | exact .inl (by decide +kernel) | exact .inr (by decide +kernel)) (by rw [isSubtype_type]; kernel_rfl)
  entry:=entryFor_alias (id' := "BaseException.__init__") (by rw [fastTable_eq_tree]; kernel_rfl) (by first | rfl | decide +kernel) (by decide +kernel) (by rw [fastTable_eq_tree]; kernel_rfl)
  kind:=by kernel_rfl
  row:=by kernel_rfl
  star:=by decide +kernel
theorem tail_KE:TailF "LookupError.__new__" [.type "KeyError", .type "LookupError", .type "Exception", .type "BaseException", .type "object"]:=⟨⟨_,_,_,F.excBase_LookupError,by decide +kernel⟩,by decide +kernel,by decide +kernel⟩
theorem kxs_KE:KxsFacts "KeyError" "KeyError.__init__" := ⟨by show builtinType _=_; rw [builtinType_eq_fast]; kernel_rfl,by first | kernel_rfl | rfl⟩
end Xe
namespace Xe
open PySem PySem.W PySem.Calls PyProof.Rows PySem.HandSPX
def eArgs (p:Str) (a1 a2:Pos):Arguments:={ posonlyargs:=[],args:=[{ arg := "self",annotation:=none,pos:=a1 },{ arg:=p,annotation:=none,pos:=a2 }],vararg:=none,kwonlyargs:=[],kw_defaults:=[],kwarg:=none,defaults:=[] }
def eBody (p:Str) (p0 p1 p2 p3 p4 p5 q1 q2 q3 q4:Pos):List Stmt :=
  [.Expr (.Call (.Attribute (.Call (.Name "super" p0) [] [] p1) "__init__" p2) [.Name p p3] [] p4) p5, .Assign [.Attribute (.Name "self" q1) p q2] (.Name p q3) q4]
def eSc (p:Str):Scope:={ kind := .function,names:=[("self", .local),(p, .local),("__class__", .free),("super", .globalImplicit)],isGenerator:=false,isCoroutine:=false,more:=[] }
theorem eSc_cells {p:Str}:∀ x ∈ (eSc p).names,x.2 ≠ .cell:=fun x hx=>by
  simp only [eSc,List.mem_cons,List.not_mem_nil,or_false] at hx
  rcases hx with rfl | rfl | rfl | rfl <;> simp
def EHe (p:Str) (p0 p1 p2 p3 p4:Pos):Prop:=∀ env:Env,∃ pl:Sem Bool,eval (.Call (.Attribute (.Call (.Name "super" p0) [] [] p1) "__init__" p2) [.Name p p3] [] p4) env=(do
  let ov ← attributeBase (.Call (.Name "super" p0) [] [] p1) "__init__" env (eval (.Call (.Name "super" p0) [] [] p1) env)
  standAt p2.atName
  let (f,first) ← holding [ov] (getMethod ov "__init__" pl)
  callWith p4 f first (backTo p4 (starEach [.Name p p3] env)) [])
def ParN (p:Str):Prop:=p = "word" ∨ p = "at" ∨ p = "name"
structure EBase (B newId initId:String) (bmB:List Value):Prop where
  T:TailF newId bmB
  I:InitF B initId
  K:KxsFacts B initId
  S:StoreFacts B bmB "object.__setattr__" "object"
theorem base_VE:EBase "ValueError" "ValueError.__new__" "ValueError.__init__" [.type "ValueError", .type "Exception", .type "BaseException", .type "object"]:=⟨.of F.excBase_ValueError, .of F.excBase_ValueError,kxs_ValueError,F.store_ValueError⟩
theorem base_IE:EBase "IndexError" "IndexError.__new__" "IndexError.__init__" [.type "IndexError", .type "LookupError", .type "Exception", .type "BaseException", .type "object"]:=⟨.of F.excBase_IndexError, .of F.excBase_IndexError,kxs_IndexError,F.store_IndexError⟩
theorem base_KE:EBase "KeyError" "LookupError.__new__" "KeyError.__init__" [.type "KeyError", .type "LookupError", .type "Exception", .type "BaseException", .type "object"]:=⟨tail_KE,init_KE,kxs_KE,store_KE⟩
structure ErrT (prog:Program) (K:Frag) (C fI:Addr) (p:Str) (B newId initId:String) (bmB:List Value):Prop where
  ini:excInitIn K C bmB newId=true
  over:excOver K C bmB=true
  hdC:hasDictIn K C=true
  sa:findIn K (.ref C) "__setattr__" = some (some (.builtin "object.__setattr__"))
  noP:findIn K (.ref C) p=some none
  iC:findIn K (.ref C) "__init__" = some (some (.ref fI))
  tC:typeIn K (.ref fI)=some (.type "function")
  kC:keepIn K (.ref C)=true
  exC:subIn K (.ref C) (.type "BaseException")=some true
  exB:subIn K (.ref C) (.type B)=some true
  tyC:typeIn K (.ref C)=some (.type "type")
  opq:nsIn K cStatics "thirdparty.any" = some none
  sup:ks_superIn K C C "__init__" = some (some (.builtin initId))
  mro:mroIn K C (.ref C)=some true
  sg:nsIn K mainGlobals "super" = some none
  fn:∃ (oc:Value) (od:Option Addr) (doc pm:Value) (an:Option Addr) (cda cc:Addr) (ct:Value) (osl:Array (Option Value)) (qual:Str) (a1 a2 p0 p1 p2 p3 p4 p5 q1 q2 q3 q4:Pos),
    K.lookup fI=some ⟨oc,od, .func (ksFn "__init__" qual (eArgs p a1 a2) (eBody p p0 p1 p2 p3 p4 p5 q1 q2 q3 q4) (eSc p) .none .none doc pm an (.ref cda) ct cc),osl⟩∧codeIn K (.ref cda) qual=true∧EHe p p0 p1 p2 p3 p4 ∧
    (∃ ccl cdd vs ccs file tf,K.lookup cda=some ⟨ccl,cdd, .fields vs,ccs⟩∧vs[2]?=some (.str file tf)∧((prog.main.file:Str) == file)=true) ∧
    (∃ cl cld csl,K.lookup cc=some ⟨cl,cld, .cell (some (.ref C)),csl⟩)
structure EMod (K:Frag) (base:Heap) (prog:Program):Prop where
  kin:K.In base
  ns:∃ mg,base.Ns mainGlobals mg
  blt:∃ mb,base.Ns builtinsNs mb∧∀ x:Str,x ≠ "__name__" → mb x=bootBuiltins x
  top:(prog.main.scope.names.lookup ("super" : Str)).isSome=false
theorem one_size' (v:Value):[v].length ≤ sizeLine:=by
  rw [sizeLine_eq]
  exact (by decide:1 ≤ 16777216)
structure EEnd (h h':Heap) (x C dx t1:Addr) (p:Str) (v:Value):Prop where
  keep:∀ b o,b ≠ x→h.get? b=some o→h'.get? b=some o
  obj:h'.get? x=some { cls := .ref C,dict:=some dx,data := .fields #[.ref t1, .none, .none, .none, .bool false, .none] }
  dbig:h.objs.size ≤ dx
  dne:dx ≠ x
  ns:h'.Ns1 dx (fun y=>if y=p then some v else none)
structure EMade (h h':Heap) (e C d:Addr) (p:Str) (v:Value):Prop where
  keep:∀ b o,h.get? b=some o→h'.get? b=some o
  new:h.objs.size ≤ e
  obj:∃ t1:Addr,h'.get? e=some ({ cls := .ref C,dict:=some d,data := .fields #[.ref t1, .none, .none, .none, .bool false, .none] }:Obj)
  dbig:h.objs.size ≤ d
  dne:d ≠ e
  ns:h'.Ns1 d (fun y=>if y=p then some v else none)
section
variable {prog:Program} {w:World} {A:Around} {E:Value→Shared→Prop} {R:Result→Shared→Prop} {K:Frag} {C fI:Addr} {p:Str} {B newId initId:String} {bmB:List Value} {base:Heap}
theorem store_new {x:Addr} {fv:Array Value} {v:Value} {tk:Tok} {h:Heap} {g:Array GenState} {d:Drawn} {t:Nat} {os:OsState} (SF:StoreFacts B bmB "object.__setattr__" "object") (X:K.In h) (hx:h.get? x=some { cls := .ref C,data := .fields fv }) (ov:excOver K C bmB=true) (hdc:hasDictIn K C=true) (np:findIn K (.ref C) p=some none)
    (hq:∀ h' tk' dx,(∀ b o,b ≠ x→h.get? b=some o→h'.get? b=some o)→h.objs.size ≤ dx→dx ≠ x→h'.get? x=some { cls := .ref C,dict:=some dx,data := .fields fv }→h'.Ns1 dx (fun y=>if y=p then some v else none)→R (.ok (.ret .none)) ⟨h',g,d,tk',os⟩) :
    codeAny (model prog w) A (.call (.builtin "object.__setattr__") ⟨[.ref x, .str p tk,v],[]⟩) R ⟨h,g,d,t,os⟩:=by
  have I:InstAt h x { cls := .ref C,data := .fields fv } C none:=⟨hx,rfl,rfl,trivial⟩
  have nx:x ≠ h.objs.size:=Nat.ne_of_lt (Heap.lt_size hx)
  obtain ⟨cd,hcd,hdt⟩:∃ cd,clsIn K C=some cd∧cd.hasDict=true:=by
    unfold hasDictIn at hdc
    cases z:clsIn K C with
    | none=>rw [z] at hdc; cases hdc
    | some cd=>rw [z] at hdc; exact ⟨cd,rfl,hdc⟩
  have LC:Looks (model prog w) h (classData C) cd:=looks_clsIn X hcd
  refine osa_openX SF (s:=⟨h,g,d,t,os⟩) X I ov (show takerIn K C p=some none by unfold takerIn; rw [np]; rfl) fun bb=>?_
  show wpAny _ _ (Builtin.ObjectAttr.storeInOwnDict (.ref x) (.ref C) (.str p tk) p v bb) _ _ _
  obtain ⟨c1,c2,c3,c4,c5,c6,c7,c8,c9,c10,c11⟩:=cd
  dsimp only at hdt
  subst hdt
  unfold Builtin.ObjectAttr.storeInOwnDict Builtin.ObjectAttr.ownDictForStores
  repeat (first
    | with_reducible refine HandSPX.store_in_new ?_ ?_
    | with_reducible refine wpAny_loadPart_at hx ?_
    | with_reducible refine LC.at ?_
    | wp_step)
  · have at_:=(Heap.get?_update_ne (h.push { cls := .type "dict",data := .dict #[] }) h.objs.size x (fun o=>{ o with dict:=some h.objs.size }) nx.symm).trans (Heap.get?_push_at rfl rfl)
    exact ⟨_,#[],_,at_,rfl,fun e he=>absurd he (by simp),fun _=>rfl⟩
  · intro h1 tk1 N1 S1
    have hx1:=Heap.get?_push_of_some { cls:=Value.type "dict",data:=Data.dict #[] } hx
    refine hq h1 tk1 h.objs.size (fun b o hb ho=>?_) (Nat.le_refl _) nx.symm ?_ N1
    · have up:=(Heap.get?_update_ne _ _ _ (fun o:Obj=>{ o with dict:=some h.objs.size }) hb).trans (Heap.get?_push_of_some { cls:=Value.type "dict",data:=Data.dict #[] } ho)
      exact (S1.2 b (Nat.ne_of_lt (Heap.lt_size ho))).trans up
    · exact (S1.2 x nx).trans (Heap.get?_update_self _ hx1 rfl)
theorem ne_key {K:Frag} {h:Heap} (X:K.In h) {a:Addr} (ha:h.objs.size ≤ a):K.lookup a=none:=by
  cases e:K.lookup a with
  | none=>rfl
  | some o=>exact absurd (Heap.lt_size (X _ _ e)) (Nat.not_lt.mpr ha)
theorem callWith_one {M:Model} {pos:Pos} {i:String} {x u:Addr} {env:Env} {e:PySem.Expr} {s:Shared} {Q:Value→Shared→Prop} (h:wpAny M A (eval e env) (fun v s1=>KxsAt i u x s1.heap∧wpAny M A (call (.ref u) [v]) Q E s1) E s)
    (he:starEach [e] env=[(false,eval e env)]):wpAny M A (callWith pos (.ref u) [] (backTo pos (starEach [e] env)) []) Q E s:=by
  have key:wpAny M A (spliced (backTo pos (starEach [e] env))) (fun vs s1=>KxsAt i u x s1.heap∧wpAny M A (call (.ref u) vs) Q E s1) E s :=
    PyProof.Rows.spliced_more (wpAny_mono h (fun v s1 h1=>PyProof.Rows.spliced_none h1) fun _ _ z=>z) he
  rw [he] at key ⊢
  exact kxs_callWith (i:=i) (x:=x) rfl (evalArgs_plain key)
theorem call_mw (Bs:EBase B newId initId bmB) {nm qn:Str} {N:Addr} {bs bm:List Value} {hdct:Bool} {sn:List Str} {sub:List Value} {ab:Bool} {col:Option Bool} {dd:Option Addr} {j0 j1 j2 j3 j5:Option Value} {h:Heap} {g:Array GenState} {d:Drawn} {t:Nat} {os:OsState} {u x t0:Addr} {v:Value} {Q:Value→Shared→Prop}
    (hC:h.get? C=some (excClassObj nm qn C N bs bm hdct sn sub ab col dd j0 j1 j2 j3 j5 newId)) (hx:h.get? x=some (excO C t0)) (hu:h.get? u=some (kxs_mw initId x))
    (hq:∀ h',(∀ b o,b ≠ x→h.get? b=some o→h'.get? b=some o)→h'.get? x=some (excO C h.objs.size)→Q .none ⟨h',g,d,t,os⟩):wpAny (model prog w) A (call (.ref u) [v]) Q E ⟨h,g,d,t,os⟩:=by
  refine wpAny_call (codeAny_of_tree ?_)
  show wpAny _ A.in1 (callAny (.ref u) ⟨[v],[]⟩) _ _ _
  simp only [callAny]
  refine wpAny_bind (wpAny_load hu ?_)
  have mw:(Value.type "method-wrapper" == Value.type "method" || Value.type "method-wrapper" == Value.type "builtin_function_or_method" || Value.type "method-wrapper" == Value.type "method-wrapper")=true:=by decide
  simp only [kxs_mw,mw,if_true]
  refine KFB.if_so (by decide) (wpAny_bind (bound_check Bs.I hC hx rfl (wpAny_bind (wpAny_pure (wpAny_pure ?_)))))
  refine ⟨plainId_quiet Bs.I.init.plain _,codeAny_builtin Bs.I.entry ?_⟩
  rw [Around.under_plainId Bs.I.init.plain _]
  exact exc_init_tree (cls := .ref C) (t0:=t0) (dv:=none) (c2 := .none) (c3 := .none) (b4 := .bool false) hx (one_size' v) fun h' k e _=>hq h' k e
theorem sup_init (hp:ParN p) (T:ErrT prog K C fI p B newId initId bmB) (Bs:EBase B newId initId bmB) (G:EMod K base prog) {s:Shared} (kb:∀ b o,base.get? b=some o→s.heap.get? b=some o) {x t0:Addr} {v:Value} (lim:s.heap.NoLimit) (hx:s.heap.get? x=some (excO C t0)) (hnx:K.lookup x=none) (room:A.depth < recursionLimit)
    (hq:∀ h' tk dx t1,EEnd s.heap h' x C dx t1 p v→R (.ok (.ret .none)) { s with heap:=h',toks:=tk }):codeAny (model prog w) A (.call (.ref fI) ⟨[.ref x,v],[]⟩) R s:=by
  obtain ⟨oc,od,doc,pm,an,cda,cc,ct,osl,qual,a1,a2,p0,p1,p2,p3,p4,p5,q1,q2,q3,q4,ho,hcode,hHe,⟨ccl,cdd,vs,ccs,file,tf,hcda,hv2,hfile⟩,⟨cl,cld,csl,hcc⟩⟩:=T.fn
  have X:K.In s.heap:=G.kin.keeps kb
  rcases hp with e | e | e <;> subst e
  all_goals
    refine ks_codeAny_call_defAt (fd:=ksFn "__init__" qual (eArgs _ a1 a2) (eBody _ p0 p1 p2 p3 p4 p5 q1 q2 q3 q4) (eSc _) .none .none doc pm an (.ref cda) ct cc) (body:=eBody _ p0 p1 p2 p3 p4 p5 q1 q2 q3 q4) (binds:=[("self", .ref x),(_,v)])
      room (X _ _ ho) rfl lim (codeRec_of X hcode) rfl (BindsTo.of_eq (by first | rfl | with_unfolding_all rfl)) eSc_cells (by simp only [List.mem_cons,List.not_mem_nil,or_false,forall_eq_or_imp,forall_eq]; exact ⟨by decide +kernel,by decide +kernel⟩) (fun h1 ns1 k1=>?_) rfl rfl rfl
    have X1:K.In h1:=X.keeps k1
    have hx1:=k1 _ _ hx
    have kb1:∀ b o,base.get? b=some o→h1.get? b=some o:=fun b o e=>k1 b o (kb b o e)
    obtain ⟨mg,hmg⟩:=G.ns
    have mgs:mg "super" = none:=mg_none_of G.kin hmg T.sg
    obtain ⟨mb,hmb,hbb⟩:=G.blt
    obtain ⟨nm,N,qn,bs,bm,hdct,sn,sub,ab,col,dd,j0,j1,j2,j3,j5,hC,hT⟩:=excInit_of X1 T.ini
    have nxC:x ≠ C:=fun z=>by
      have:K.lookup C=none:=z ▸ hnx
      have c:=T.ini
      unfold excInitIn at c
      rw [this] at c
      cases c
    obtain ⟨pl,he⟩:=hHe (callEnv (ksFn "__init__" qual (eArgs _ a1 a2) (eBody _ p0 p1 p2 p3 p4 p5 q1 q2 q3 q4) (eSc _) .none .none doc pm an (.ref cda) ct cc) s.heap.objs.size fI)
    refine ks_wpAt_execs_cons (ks_wpAt_Expr_any (ks_wpAt_MethodCall (pl:=pl) (he:=he) (ks_wpAt_super_base (ar:={ arg := "self",annotation:=none,pos:=a1 }) rfl rfl (by decide +kernel) rfl (X1 _ _ ho) rfl rfl rfl (X1 _ _ hcda) rfl hv2 hfile G.top ?_)))
    refine ks_loadName_global rfl rfl (loadGlobal_builtin (hmg.keeps kb1) mgs (hmb.keeps kb1) ((hbb "super" (by decide)).trans (by decide +kernel)) ⟨rfl,?_⟩)
    refine wpAny_loadName_free rfl rfl rfl ⟨_,X1 _ _ hcc,rfl⟩ ?_
    refine wpAny_loadName_local (v := .ref x) rfl rfl ns1 (by first | rfl | with_unfolding_all rfl | kernel_rfl) ?_
    refine ks_wpAny_isType_cls hC rfl ⟨rfl,?_⟩
    refine ks_wpAny_call_super hC rfl hx1 rfl (fun c e=>by cases e) (looks_mroIn X1 T.mro) (fun h2 e2 k2=>?_)
    have X2:K.In h2:=X1.keeps k2
    have hx2:=k2 _ _ hx1
    have hC2:=k2 _ _ hC
    have I2:InstAt h2 x (excO C t0) C none:=⟨hx2,rfl,rfl,trivial⟩
    have hI:Looks (model prog w) h2 (isInstance (.ref x) (.type B)) true:=I2.type.andThen (looks_subIn X2 T.exB)
    obtain ⟨cd,hcd⟩:∃ cd,clsIn K C=some cd:=by
      have c:=T.sup
      unfold ks_superIn at c
      cases z:clsIn K C with
      | none=>rw [z] at c; cases c
      | some cd=>exact ⟨cd,rfl⟩
    have hm:alongIn K "__init__" ((cd.mro.dropWhile (· != .ref C)).drop 1)=some (some (.builtin initId)):=by
      have c:=T.sup
      unfold ks_superIn at c
      rw [hcd] at c
      exact c
    refine kxs_getMethod Bs.K e2 (looks_opaque X2 T.opq) (l₀:=cd.mro) (fun A Q E s k q=>wpAny_bind ((looks_clsIn X2 hcd) A _ E s k (wpAny_pure q))) rfl X2 hm hI nxC (by decide +kernel) ?_
    refine callWith_one (i:=initId) (x:=x) (wpAny_Name (wpAny_loadName_local (v:=v) rfl rfl (ns1.at fun o e=>Heap.get?_push_of_some _ (k2 _ _ e)) (by first | rfl | with_unfolding_all rfl | kernel_rfl) ?_)) (by rfl)
    have hu:(h2.push (kxs_mw initId x)).get? h2.objs.size=some (kxs_mw initId x):=Heap.get?_push_at rfl rfl
    refine ⟨hu,call_mw Bs (Heap.get?_push_of_some _ hC2) (Heap.get?_push_of_some _ hx2) hu fun h3 k3 hx3=>?_⟩
    have nL:s.heap.objs.size ≠ x:=Nat.ne_of_gt (Heap.lt_size hx)
    have k23:∀ b o,b ≠ x→h1.get? b=some o→h3.get? b=some o:=fun b o hb e=>k3 b o hb (Heap.get?_push_of_some _ (k2 _ _ e))
    have ns3:h3.Ns s.heap.objs.size _:=ns1.at fun o e=>k23 _ o nL e
    have X3:K.In h3:=fun a o e=>k23 a o (fun z=>by rw [z,hnx] at e; cases e) (X1 a o e)
    refine wpAt_of_wpAny (wpAny_execs_cons (plainObj_wpAny_Assign_Attribute ?_))
    refine wpAny_Name (wpAny_loadName_local (v:=v) rfl rfl ns3 (by first | rfl | with_unfolding_all rfl | kernel_rfl) ?_)
    refine wpAny_Name (wpAny_loadName_local (v := .ref x) rfl rfl ns3 (by first | rfl | with_unfolding_all rfl | kernel_rfl) ?_)
    refine set_plain X3 (ox:=excO C _) (od:=none) ⟨hx3,rfl,rfl,trivial⟩ T.sa ?_
    refine store_new Bs.S X3 hx3 T.over T.hdC T.noP fun h4 tk4 dx k4 dn dne hx4 hn4=>?_
    have bg:s.heap.objs.size < h3.objs.size:=ns3.lt
    exact wpAny_execs_nil (hq h4 _ dx _ ⟨fun b o hb e=>k4 b o hb (k23 b o hb (k1 b o e)),hx4,Nat.le_trans (Nat.le_of_lt bg) dn,dne,hn4⟩)
theorem made_ok (hp:ParN p) (T:ErrT prog K C fI p B newId initId bmB) (Bs:EBase B newId initId bmB) (G:EMod K base prog) {h:Heap} {g:Array GenState} {d:Drawn} {t:Nat} {os:OsState} (kb:∀ b o,base.get? b=some o→h.get? b=some o) {v:Value} (lim:h.NoLimit) (room:A.depth + 1 < recursionLimit)
    (hq:∀ h' tk e d',EMade h h' e C d' p v→R (.ok (.ret (.ref e))) ⟨h',g,d,tk,os⟩):codeAny (model prog w) A (.call (.ref C) ⟨[v],[]⟩) R ⟨h,g,d,t,os⟩:=by
  have X:K.In h:=G.kin.keeps kb
  obtain ⟨nm,N,qn,bs,bm,hdct,sn,sub,ab,col,dd,j0,j1,j2,j3,j5,hC,hT⟩:=excInit_of X T.ini
  have k:∀ b o,h.get? b=some o→((h.push (kdv_tup [v])).push (excO C h.objs.size)).get? b=some o:=fun b o e=>Heap.get?_push_of_some _ (Heap.get?_push_of_some _ e)
  have at_:((h.push (kdv_tup [v])).push (excO C h.objs.size)).get? (h.objs.size + 1)=some (excO C h.objs.size):=by heap_get
  refine call_class (Bs.T.same hT) hC (looks_findIn X T.iC) (fun self=>bind_fn X self T.tC) (one_size' v) ?_
  refine sup_init (s:=⟨(h.push (kdv_tup [v])).push (excO C h.objs.size),g,d,t,os⟩) hp T Bs G (fun b o e=>k b o (kb b o e)) (lim.keeps k) at_ (ne_key X (Nat.le_succ _)) room fun h' tk' dx t1 ⟨k',hx,dn,dne,hns⟩=>?_
  have old:∀ b o,h.get? b=some o→h'.get? b=some o:=fun b o e=>k' b o (Nat.ne_of_lt (Nat.lt_succ_of_lt (Heap.lt_size e))) (k b o e)
  have z:h.objs.size ≤ dx:=by
    have q:((h.push (kdv_tup [v])).push (excO C h.objs.size)).objs.size ≤ dx:=dn
    rw [Heap.size_push,Heap.size_push] at q
    omega
  exact ⟨rfl,hq h' tk' (h.objs.size + 1) dx ⟨old,Nat.le_succ _,⟨_,hx⟩,z,dne,hns⟩⟩
end
end Xe
namespace Xe
open PySem PySem.Spec PyProof.Rows L2
structure ErrOk (P:Program) (K:PySem.W.Frag) (C fI:Addr) (p:Str):Prop where
  ex:∃ B newId initId bmB,ErrT P K C fI p B newId initId bmB∧EBase B newId initId bmB
  par:ParN p
  top:(P.main.scope.names.lookup ("super" : Str)).isSome=false
def tMkS (C:Addr) (p:Str) (ta:TA):L2.St→Hp→XK→Prop:=fun σ H Q=>ta σ H fun vs H1=>∃ v,vs=[v]∧∀ d,H1 d=none→Q (.ref C) (some d) (upd H1 d (.xd [(p,v)]))
section
variable {X:Cx} {C fI:Addr} {p:Str}
theorem pmk_sup {x:Str} {a:Expr} {ta:TA} {np pos:Pos} (T:ErrOk X.prog X.K C fI p) (gC:X.mg x=some (.ref C)) (hr:X.A.depth + 1 < recursionLimit) (ha:PA X [a] ta) (hg:Gl X x) (hdb:(x == ("__debug__" : Str))=false:=by decide)
    (he:starEach (a :: []) X.env=(false,eval a X.env) :: starEach [] X.env:=by rfl) (hpl:(backTo pos (starEach [] X.env)).any (·.1)=false:=by rfl) :
    L2H.PMk5 X (.Call (.Name x np) [a] [] pos) (tMkS C p ta):=by
  intro pins s σ H Q I h
  obtain ⟨⟨B,newId,initId,bmB,T0,Bs⟩,par,top⟩:=T
  refine wpAny_Call_Name_kw (ld_glob I hg gC ?_ hdb)
  refine PySem.W.callWith_K (h₀:=X.base) I.ok.mod.kin T0.kC (thn (ha.run pos pins s σ H _ I h) fun us s1 ⟨vs,H1,I1,r1,v,ev,q1⟩=>⟨I1.kIn,?_⟩) he hpl
  subst ev
  cases r1 with
  | @cons _ v' _ us' rv rn =>
    cases rn
    show wpAny _ _ (call (.ref C) [v']) _ _ _
    have lim:=I1.nolimit
    have bk:=I1.bk
    have md:=I1.ok.mod
    obtain ⟨hp,g,dr,tk,os⟩:=s1
    refine wpAny_call (made_ok par T0 Bs ⟨md.kin,⟨_,md.glob⟩,md.blt,top⟩ bk lim (hr) fun h' tk' e d M=>?_)
    obtain ⟨t1,hoe⟩:=M.obj
    have hns:=M.ns
    obtain ⟨G,g1,g2⟩:=restrict h' fun b=>decide (b ≠ e)
    have gk:∀ b,b ≠ e→G.get? b=h'.get? b:=fun b hb=>g1 b (decide_eq_true hb)
    have ge:G.get? e=none:=g2 e (by simp)
    have old:∀ b o,hp.get? b=some o→G.get? b=some o:=fun b o q=>(gk b (Nat.ne_of_lt (Nat.lt_of_lt_of_le (Heap.lt_size q) M.new))).trans (M.keep b o q)
    have rel:∀ f,RelO (List.lookup f [(p,v)]) (if f=p then some v' else none):=relO_put (fs:=[]) rv fun _=>True.intro
    have ob:ObjOk X.prog X.w (upd H1 d (.xd [(p,v)])) G d (.xd [(p,v)]):=⟨_,hns.at (fun o q=>(gk d M.dne).trans q),rel⟩
    have J:Inv X pins σ (upd H1 d (.xd [(p,v)])) ⟨G,g,dr,tk',os⟩:=I1.laid (t':=tk') old M.dbig ob
    have ctx:L2N.Zn (.ref C) (some d) ({ cls := .ref C,dict:=some d,data := .fields #[.ref t1, .none, .none, .none, .bool false, .none] }:Obj):=⟨rfl,rfl,fun vs e=>by cases e; rfl⟩
    refine ⟨⟨e,_,_,⟨G,g,dr,tk',os⟩,_, .ref C,some d,rfl,J,fun b o q=>?_,ge,hoe,ctx,rfl,rfl,?_,rfl,I1.bare,raises_own T0.exC T0.tyC,q1 d (I1.hok.fresh M.dbig)⟩,fun a oe ws ea hg hd=>?_⟩
    · by_cases hb:b=e
      · have q':G.get? b=some o:=q
        rw [hb,ge] at q'; cases q'
      · exact (gk b hb).symm.trans q
    · rw [upd_ne (Ne.symm M.dne)]
      exact I1.hok.fresh M.new
    · cases ea
      have hg':h'.get? e=some oe:=hg
      rw [hoe] at hg'
      cases hg'
      cases hd
      simp
end
end Xe
namespace Xe
open PySem PySem.Spec PyProof.Rows L2
end Xe
namespace Bv
open PySem PySem.Spec L2
open PyProof.Rows hiding St
variable [HasW]
def Z3q (C p:Str) (ms:MG (List Bv.X)):MS:=fun e S=>(ms e S).so e fun xs S1=>match xs with
  | [.d v] => .err C [(p,v)] e S1
  | _ => .bad
def Y72 (C:Str):MS:=fun e S => .err C [] e S
section
variable {X:Cx} {Wx:WX} {k:Nat} {pos pos2 np:Pos} {a:Expr} {ms:MG (List Bv.X)} {C p x:Str} {fI:Addr}
theorem Z2s (hc:X.calm=true) (h:Here X Wx k) (T:Xe.ErrOk X.prog X.K (He.ga X.K C) fI p) (gC:X.mg x=some (.ref (He.ga X.K C))) (hg:Gl X x) (ha:MA X Wx [a] ms) (hk:1 ≤ k:=by decide) (hdb:(x == ("__debug__" : Str))=false:=by decide)
    (he:starEach (a :: []) X.env=(false,eval a X.env) :: starEach [] X.env:=by rfl) (hpl:(backTo pos (starEach [] X.env)).any (·.1)=false:=by rfl):MP X Wx (.Raise (some (.Call (.Name x np) [a] [] pos)) none pos2) (Z3q C p ms) :=
  PS.of (Xq.ps_raiseQ hc h.tk (Xe.pmk_sup T gC (by have:=h.room.dp; omega) ha hg hdb he hpl).pmk) fun D σ H ⟨Z,ρ,e,S,st,ev,q⟩ =>
    Z1r (rel:=AXs X.K) st ev q fun ρ1 H1 vs xs S1 s1 g1 ev1 a1 p1=>by
      match xs,vs,a1,p1 with
      | [.d v],[u], .cons (.d a) .nil,p1 =>
        refine ⟨u,rfl,fun d hd=>?_⟩
        have kp:=U3 (o := .xd [(p,u)]) hd
        have mv:=(Go.grow (ρ:=ρ1) kp).mv s1
        exact p1 ρ1 _ σ (some d) (s1.grow kp) (Go.grow kp) (ev1.mv mv (List.prefix_refl _)) (.inr ⟨d,_,rfl,hd,s1.fresh hd,upd_same, .cons (a.mv mv) .nil⟩)
      | [],_,_,p1=>exact p1.elim
      | [.r _],_,_,p1=>exact p1.elim
      | .d _ :: _ :: _,_,_,p1=>exact p1.elim
      | .r _ :: _ :: _,_,_,p1=>exact p1.elim
theorem X7i {C:Addr} {bmB:List Value} {B newId initId:String} (F:ExcBaseFacts B newId initId bmB) (q:PySem.W.excIn X.K C bmB newId=true) (gC:X.mg x=some (.ref C)) (kC:PySem.W.keepIn X.K (.ref C)=true) (r:Raises X (.ref C)) (hg:Gl X x)
    (hdb:(x == ("__debug__" : Str))=false:=by decide):L2H.PMk5 X (.Call (.Name x np) [] [] pos) (fun _ H Q=>Q (.ref C) none H):=by
  intro pins s σ H Q I h
  refine wpAny_Call_Name_kw (ld_glob I hg gC ?_ hdb)
  refine PySem.W.callWith_K0 I.kIn kC ?_
  obtain ⟨bm,N,nm,qn,bs,hdct,sn,sub,ab,col,dd,k0,k1,k2,k3,k5,mN,hC,hN,hni,T⟩:=exc_obj I.kIn q
  exact wpAny_call_exc_subT F T hC hN hni (fun h' e hm=>L2H.mk_of5 I hm r h (I.hok.gone hm.new)) (Nat.zero_le _)
end
structure Err0 (K:PySem.W.Frag) (C:Addr):Prop where
  ini:PySem.W.excIn K C [.type "ValueError", .type "Exception", .type "BaseException", .type "object"] "ValueError.__new__" = true
  kC:PySem.W.keepIn K (.ref C)=true
  exC:PySem.W.subIn K (.ref C) (.type "BaseException")=some true
  tyC:PySem.W.typeIn K (.ref C)=some (.type "type")
section
variable {X:Cx} {Wx:WX} {k:Nat} {pos pos2 np:Pos} {C x:Str}
theorem Y85 (hc:X.calm=true) (h:Here X Wx k) (T:Err0 X.K (He.ga X.K C)) (gC:X.mg x=some (.ref (He.ga X.K C))) (hg:Gl X x) (hdb:(x == ("__debug__" : Str))=false:=by decide):MP X Wx (.Raise (some (.Call (.Name x np) [] [] pos)) none pos2) (Y72 C) :=
  PS.of (Xq.ps_raiseQ hc h.tk (L2H.PMk5.pmk <| X7i F.excBase_ValueError T.ini gC T.kC (raises_own T.exC T.tyC) hg hdb)) fun D σ H ⟨Z,ρ,e,S,st,ev,q⟩=>q ρ H σ none st (Go.refl _ _) ev (.inl ⟨rfl,rfl⟩)
end
end Bv
namespace Bv
open PySem PySem.Spec L2
open PyProof.Rows hiding St
variable [HasW]
theorem X95 {H H1 H2:Hp} (a:Same H H1) (b:Same H1 H2):Same H H2:=fun c o q=>b c o (a c o q)
abbrev SX:=Str→List (Str × D)→Option D
abbrev SXs:=Str→List (Str × D)→Option (List D)
abbrev SXb:=Str→List (Str × D)→Option Bool
def X4a (K:PySem.W.Frag) (W:Wd) (H:Hp) (fs:List (Str × D)) (d:Option Addr):Prop:=(d=none∧fs=[]) ∨ ∃ (dd:Addr) (vs:List (Str × V)),d=some dd∧H dd=some (.xd vs)∧AVf K W H fs vs
theorem X4a.same {K:PySem.W.Frag} {W:Wd} {H H':Hp} {fs:List (Str × D)} {d:Option Addr} (h:X4a K W H fs d) (k:Same H H'):X4a K W H' fs d:=by
  rcases h with h | ⟨dd,vs,h1,h2,h3⟩
  · exact .inl h
  · exact .inr ⟨dd,vs,h1,k _ _ h2,h3.mv (Z5h k)⟩
structure SAt (lv:Ev) (K:PySem.W.Frag) (W:Wd) (i:Nat) (a:Addr) (fs:List (Str × D)) (d:Option Addr) (σ:L2.St) (H:Hp):Prop where
  there:∀ b,W b→∃ o,H b=some o
  slot:σ[i]?=some (some (.ref a))
  err:X4a K W H fs d
  loc:∀ (j:Nat) (v:D),lv[j]?=some (some (.d v))→∃ u,σ[j]?=some (some u)∧AV K W H v u
theorem SAt.same {lv:Ev} {K:PySem.W.Frag} {W:Wd} {i:Nat} {a:Addr} {fs:List (Str × D)} {d:Option Addr} {σ:L2.St} {H H':Hp} (h:SAt lv K W i a fs d σ H) (k:Same H H'):SAt lv K W i a fs d σ H':=⟨fun b z=>let ⟨o,e⟩:=h.there b z; ⟨o,k _ _ e⟩,h.slot,h.err.same k,fun j v e=>let ⟨u,e1,av⟩:=h.loc j v e; ⟨u,e1,av.mv (Z5h k)⟩⟩
def tSE (lv:Ev) (K:PySem.W.Frag) (i:Nat) (a:Addr) (C:Str) (d:Option Addr) (m:SX):TE:=fun σ H Q=>∃ (W:Wd) (fs:List (Str × D)) (f:D),SAt lv K W i a fs d σ H∧m C fs=some f∧∀ H' v,Same H H'→AV K W H' f v→Q v H'
abbrev InS (X:Cx) (C:Str) (oe:Obj) (d:Option Addr):Prop:=Zc (.ref (He.ga X.K C)) d oe∧∃ vs,oe.data = .fields vs
def SE (lv:Ev) (X:Cx) (i:Nat) (e:Expr) (m:SX):Prop:=∀ (a:Addr) (oe:Obj) (C:Str) (d:Option Addr) (pn:List (Addr × Obj)),InS X C oe d→PE (X.suite a ((a,oe) :: pn)) e (tSE lv X.K i a C d m)
def x_c (v:D):SX:=fun _ _=>some v
def W3z (g:D→D→Option D) (m1 m2:SX):SX:=fun C fs=>match m1 C fs,m2 C fs with
  | some a,some b=>g a b
  | _,_=>none
section
variable {lv:Ev} {X:Cx} {i:Nat} {n x:Str} {np p pos tpos:Pos} {e e1 e2 c t:Expr} {es rest:List Expr} {m m1 m2:SX} {ms:SXs} {mb mc:SXb}
theorem W38 {v:D} {u:V} (h:∀ a oe pn,PE (X.suite a ((a,oe) :: pn)) e (tC u)) (av:∀ W H,AV X.K W H v u):SE lv X i e (x_c v):=fun a oe C d pn _=>PE.of (h a oe pn) fun σ H Q ⟨W,fs,f,at_,hm,q⟩=>by
  cases hm
  exact q H _ Same.rfl' (av _ _)
theorem W2f {z:Int} {j}:SE lv X i (.Constant (.int z) j pos) (x_c (.int z)):=W38 (fun _ _ _=>pe_int) fun _ _ => .int z
theorem W3r {op:Operator} {r:R2} {g:D→D→Option D} (ho:∀ a oe pn,OpR (X.suite a ((a,oe) :: pn)) (binaryOp op) r) (hf:Op2 X.K r g) (h1:SE lv X i e1 m1) (h2:SE lv X i e2 m2):SE lv X i (.BinOp e1 op e2 pos) (W3z g m1 m2):=fun a oe C d pn hz =>
  PE.of (pe_op (ho a oe pn) (h1 a oe C d pn hz) (h2 a oe C d pn hz)) fun σ H Q ⟨W,fs,f,at_,hm,q⟩=>by
    unfold W3z at hm
    cases z1:m1 C fs with
    | none=>rw [z1] at hm; cases hm
    | some d1 =>
      cases z2:m2 C fs with
      | none=>rw [z1,z2] at hm; cases hm
      | some d2 =>
        rw [z1,z2] at hm
        have hm:g d1 d2=some f:=hm
        exact ⟨W,fs,d1,at_,z1,fun H1 v k a1=>⟨W,fs,d2,at_.same k,z2,fun H2 u k2 a2=>hf W H2 d1 d2 v u f _ (fun b hb=>(at_.same (X95 k k2)).there b hb) (.av (a1.mv (Z5h k2))) (.av a2) hm fun H3 y k3 a3=>q H3 y (X95 (X95 k k2) k3) a3⟩⟩
end
end Bv
namespace Bv
open PySem PySem.Spec L2
open PyProof.Rows hiding St
variable [HasW]
theorem EvOk.unset {K:PySem.W.Frag} {W:Wd} {ρ:List Addr} {H:Hp} {e:Ev} {σ:L2.St} {i:Nat} (h:EvOk K W ρ H e σ):EvOk K W ρ H (e.set i none) (σ.set i none):=by
  refine ⟨by rw [List.length_set,List.length_set]; exact h.len,fun j x q=>?_⟩
  by_cases hj:i=j
  · subst hj
    have hl:i < e.length:=by
      have:=(List.getElem?_eq_some_iff.mp q).1
      rwa [List.length_set] at this
    rw [List.getElem?_set_self hl] at q
    cases q
  · rw [List.getElem?_set_ne hj] at q
    obtain ⟨u,h1,h2⟩:=h.at_ j x q
    exact ⟨u,by rw [List.getElem?_set_ne hj]; exact h1,h2⟩
def X3e (K:PySem.W.Frag) (c:Value) (tab:List (Str × Bool)):Prop:=∀ C b,tab.lookup C=some b→PySem.W.exmOne K (.ref (He.ga K C)) c=some b
section
variable {X:Cx} {Wx:WX} {k i j:Nat} {n y x:Str} {c:Value} {body:List Stmt} {np yp apos pos pos':Pos} {ex:Expr} {mb:MS} {m:SX} {tab:List (Str × Bool)}
theorem Here.tr (h:Here X Wx k) {W:WX} {pn:List (Addr × Obj)} {xe:Value→Shared→Prop} (tk:Xq.Tk (X.tr pn xe) W):Here (X.tr pn xe) W k:=⟨tk,h.gu,h.room⟩
end
end Bv
namespace Bv
open PySem PySem.Spec L2
open PyProof.Rows hiding St
structure ErrB where
  cls:Str
  qual:Str
  par:Str
  st:Stmt
abbrev X03 (C:Str) (K:PySem.W.Frag):Addr:=He.ma K (He.ga K C) "__init__"
def X3z (K:PySem.W.Frag) (d:ErrB):He.FnW:=match K.lookup (X03 d.cls K) with
  | some ⟨_,_, .func fd,_⟩=>some (fd.name,fd.qualname,fd.params,fd.body,fd.scope,fd.globals,[],fd.builtins)
  | _=>none
def ErrB.val (d:ErrB):He.FnW:=some ("__init__",d.qual,defArgs d.st, .stmts (defBody d.st),defScope d.st,mainGlobals,[],builtinsNs)
def W0q (ts:List (PySem.W.Frag→Bool)) (ds:List DefB) (xs:List ErrB) (K:PySem.W.Frag):AlB:=((ts.all fun t=>t K) && ds.all fun d=>d.ok K,(ds.map fun d=>seen K (d.ad K))++xs.map (X3z K))
def X39 (ds:List DefB) (xs:List ErrB):AlB:=(true,ds.map DefB.val++xs.map ErrB.val)
def X3f (ts:List (PySem.W.Frag→Bool)) (ds:List DefB) (xs:List ErrB) (K:PySem.W.Frag):Prop:=W0q ts ds xs K=X39 ds xs
section
variable {ts:List (PySem.W.Frag→Bool)} {ds:List DefB} {xs:List ErrB} {K:PySem.W.Frag}
theorem X3f.toB (c:X3f ts ds xs K):Y7d ts ds K:=by
  have e1:=congrArg (fun z:AlB=>z.1) c
  have e2:(ds.map fun d=>seen K (d.ad K))++xs.map (X3z K)=ds.map DefB.val++xs.map ErrB.val:=congrArg (fun z:AlB=>z.2) c
  have e3:=(List.append_inj e2 (by rw [List.length_map,List.length_map])).1
  unfold Y7d W35 W4a
  rw [e3]
  exact congrArg (fun b=>(b,ds.map DefB.val)) (show ((ts.all fun t=>t K) && ds.all fun d=>d.ok K)=true from e1)
theorem X3f.seen (c:X3f ts ds xs K) (i:Nat) {d:ErrB} (h:xs[i]?=some d:=by rfl):X3z K d=d.val:=by
  have e2:(ds.map fun d=>Bv.seen K (d.ad K))++xs.map (X3z K)=ds.map DefB.val++xs.map ErrB.val:=congrArg (fun z:AlB=>z.2) c
  have e3:=(List.append_inj e2 (by rw [List.length_map,List.length_map])).2
  have e4:=congrArg (fun l=>l[i]?) e3
  simp only [List.getElem?_map,h,Option.map_some,Option.some.injEq] at e4
  exact e4
end
def W0u (st:Stmt) (p:Str):Prop:=∃ a1 a2 p0 p1 p2 p3 p4 p5 q1 q2 q3 q4:Pos,defArgs st=Xe.eArgs p a1 a2∧defBody st=Xe.eBody p p0 p1 p2 p3 p4 p5 q1 q2 q3 q4∧defScope st=Xe.eSc p∧Xe.EHe p p0 p1 p2 p3 p4
inductive EB where
  | ve | ie | ke
def Y3i:EB→List Value
  | .ve=>[.type "ValueError", .type "Exception", .type "BaseException", .type "object"]
  | .ie=>[.type "IndexError", .type "LookupError", .type "Exception", .type "BaseException", .type "object"]
  | .ke=>[.type "KeyError", .type "LookupError", .type "Exception", .type "BaseException", .type "object"]
def baseOf:EB→String
  | .ve => "ValueError"
  | .ie => "IndexError"
  | .ke => "KeyError"
def newOf:EB→String
  | .ve => "ValueError.__new__"
  | .ie => "IndexError.__new__"
  | .ke => "LookupError.__new__"
def W1h:EB→String
  | .ve => "ValueError.__init__"
  | .ie => "IndexError.__init__"
  | .ke => "KeyError.__init__"
theorem X8z (b:EB):Xe.EBase (baseOf b) (newOf b) (W1h b) (Y3i b):=by
  cases b with
  | ve=>exact Xe.base_VE
  | ie=>exact Xe.base_IE
  | ke=>exact Xe.base_KE
def X0j (C p:Str) (b:EB) (K:PySem.W.Frag):Bool :=
  PySem.W.excInitIn K (He.ga K C) (Y3i b) (newOf b) && (PySem.W.excOver K (He.ga K C) (Y3i b) && (PySem.W.hasDictIn K (He.ga K C) && (He.eqO (PySem.W.findIn K (.ref (He.ga K C)) "__setattr__") (some (some (.builtin "object.__setattr__"))) &&
  (He.eqO (PySem.W.findIn K (.ref (He.ga K C)) p) (some none) && (He.eqO (PySem.W.findIn K (.ref (He.ga K C)) "__init__") (some (some (.ref (X03 C K)))) && (decide (PySem.W.typeIn K (.ref (X03 C K))=some (.type "function")) && PySem.W.keepIn K (.ref (He.ga K C))))))))
def X0k (C:Str) (b:EB) (K:PySem.W.Frag):Bool :=
  decide (PySem.W.subIn K (.ref (He.ga K C)) (.type "BaseException")=some true) && (decide (PySem.W.subIn K (.ref (He.ga K C)) (.type (baseOf b))=some true) && (decide (PySem.W.typeIn K (.ref (He.ga K C))=some (.type "type")) &&
  (He.eqO (PySem.W.nsIn K cStatics "thirdparty.any") (some none) && (He.eqO (PySem.W.ks_superIn K (He.ga K C) (He.ga K C) "__init__") (some (some (.builtin (W1h b)))) &&
  (decide (PySem.W.mroIn K (He.ga K C) (.ref (He.ga K C))=some true) && He.eqO (PySem.W.nsIn K mainGlobals "super") (some none))))))
def Y68 (C qual file:Str) (K:PySem.W.Frag):Bool:=match K.lookup (X03 C K) with
  | some ⟨_,_, .func fd,_⟩=>(match fd.closure,fd.code with
    | [(x,cc)], .ref cda=>decide (x = "__class__") && (decide (fd.defaults = .none) && (decide (fd.kwdefaults = .none) && (PySem.W.codeIn K (.ref cda) qual && ((match K.lookup cda with
      | some ⟨_,_, .fields vs,_⟩=>(match vs.toList[2]? with
        | some (Value.str f _)=>decide (file=f)
        | _=>false)
      | _=>false) && (match K.lookup cc with
      | some ⟨_,_, .cell (some (.ref D)),_⟩=>decide (D=He.ga K C)
      | _=>false)))))
    | _,_=>false)
  | _=>false
theorem X2k {P:Program} {K:PySem.W.Frag} {d:ErrB} {b:EB} {file:Str} (S:W0u d.st d.par) (hp:Xe.ParN d.par) (hs:X3z K d=d.val) (c1:X0j d.cls d.par b K=true) (c2:X0k d.cls b K=true) (c3:Y68 d.cls d.qual file K=true) (hf:P.main.file=file) (ht:(P.main.scope.names.lookup ("super" : Str)).isSome=false) :
    Xe.ErrOk P K (He.ga K d.cls) (X03 d.cls K) d.par:=by
  obtain ⟨e1,h⟩:=He.ba c1
  obtain ⟨e2,h⟩:=He.ba h
  obtain ⟨e3,h⟩:=He.ba h
  obtain ⟨e4,h⟩:=He.ba h
  obtain ⟨e5,h⟩:=He.ba h
  obtain ⟨e6,h⟩:=He.ba h
  obtain ⟨e7,e8⟩:=He.ba h
  obtain ⟨f1,h⟩:=He.ba c2
  obtain ⟨f2,h⟩:=He.ba h
  obtain ⟨f3,h⟩:=He.ba h
  obtain ⟨f4,h⟩:=He.ba h
  obtain ⟨f5,h⟩:=He.ba h
  obtain ⟨f6,f7⟩:=He.ba h
  obtain ⟨a1,a2,p0,p1,p2,p3,p4,p5,q1,q2,q3,q4,s1,s2,s3,s4⟩:=S
  refine ⟨⟨_,_,_,_,⟨e1,e2,e3,He.eqO_ok e4,He.eqO_ok e5,He.eqO_ok e6,of_decide_eq_true e7,e8,of_decide_eq_true f1,of_decide_eq_true f2,of_decide_eq_true f3,He.eqO_ok f4,He.eqO_ok f5,of_decide_eq_true f6,He.eqO_ok f7,?_⟩,X8z b⟩,hp,ht⟩
  unfold X3z ErrB.val at hs
  unfold Y68 at c3
  cases q:K.lookup (X03 d.cls K) with
  | none=>rw [q] at c3; cases c3
  | some o =>
    obtain ⟨oc,od,dt,osl⟩:=o
    rw [q] at c3 hs
    cases dt with
    | func fd =>
      obtain ⟨m1,m2,m3,m4,m5,m6,m7,m8,m9,m10,m11,m12,m13,m14,m15⟩:=fd
      have hs:(some (m1,m2,m3,m4,m5,m6,[],m15):He.FnW)=some (("__init__" : Str),d.qual,defArgs d.st,FuncBody.stmts (defBody d.st),defScope d.st,mainGlobals,[],builtinsNs):=hs
      simp only [Option.some.injEq,Prod.mk.injEq] at hs
      obtain ⟨rfl,rfl,rfl,rfl,rfl,rfl,-,rfl⟩:=hs
      dsimp only at c3
      split at c3
      · rename_i x cc cda
        obtain ⟨g1,h⟩:=He.ba c3
        obtain ⟨g2,h⟩:=He.ba h
        obtain ⟨g3,h⟩:=He.ba h
        obtain ⟨g4,h⟩:=He.ba h
        obtain ⟨g5,g6⟩:=He.ba h
        obtain rfl:=of_decide_eq_true g1
        have z2:=of_decide_eq_true g2
        have z3:=of_decide_eq_true g3
        subst z2 z3
        refine ⟨oc,od,m10,m11,m12,cda,cc,m14,osl,d.qual,a1,a2,p0,p1,p2,p3,p4,p5,q1,q2,q3,q4,?_,g4,s4,?_,?_⟩
        · rw [s1,s2,s3]
        · cases w:K.lookup cda with
          | none=>rw [w] at g5; cases g5
          | some o2 =>
            obtain ⟨c2,d2,t2,l2⟩:=o2
            rw [w] at g5
            cases t2 with
            | fields vs =>
              dsimp only at g5
              split at g5
              · rename_i f tf hv
                exact ⟨c2,d2,vs,l2,f,tf,rfl,by rw [← Array.getElem?_toList]; exact hv,by rw [hf,of_decide_eq_true g5]; exact beq_self_eq_true _⟩
              · cases g5
            | _=>cases g5
        · cases w:K.lookup cc with
          | none=>rw [w] at g6; cases g6
          | some o2 =>
            obtain ⟨c2,d2,t2,l2⟩:=o2
            rw [w] at g6
            split at g6
            · rename_i e
              cases e
              rw [of_decide_eq_true g6]
              exact ⟨_,_,_,rfl⟩
            · cases g6
      · cases c3
    | _=>cases c3
def X57 (C:Str) (K:PySem.W.Frag):Bool:=PySem.W.excIn K (He.ga K C) (Y3i .ve) "ValueError.__new__" && (PySem.W.keepIn K (.ref (He.ga K C)) && (decide (PySem.W.subIn K (.ref (He.ga K C)) (.type "BaseException")=some true) && decide (PySem.W.typeIn K (.ref (He.ga K C))=some (.type "type"))))
theorem X4o {C:Str} {K:PySem.W.Frag} (h:X57 C K=true):Err0 K (He.ga K C):=by
  obtain ⟨c1,h⟩:=He.ba h
  obtain ⟨c2,h⟩:=He.ba h
  obtain ⟨c3,c4⟩:=He.ba h
  exact ⟨c1,c2,of_decide_eq_true c3,of_decide_eq_true c4⟩
def X1x (C:Str) (tab:List (Str × Bool)) (K:PySem.W.Frag):Bool:=tab.all fun p=>decide (PySem.W.exmOne K (.ref (He.ga K p.1)) (.ref (He.ga K C))=some p.2)
theorem X2c {C:Str} {tab:List (Str × Bool)} {K:PySem.W.Frag} (h:X1x C tab K=true):X3e K (.ref (He.ga K C)) tab:=fun D b q=>of_decide_eq_true (List.all_eq_true.mp h (D,b) (PySem.mem_of_lookup q))
end Bv
namespace Bv
open PySem PySem.Spec L2
open PyProof.Rows hiding St
structure OwnSp (K:PySem.W.Frag) (C:Str) (m:Str) (f:Addr):Prop where
  at_:PySem.W.findIn K (.ref (He.ga K C)) m=some (some (.ref f))
  fn:PySem.W.isFn K (.ref f)=true
  fi:PySem.W.fnIn K f=true
def X8o (C m:Str) (K:PySem.W.Frag):Bool:=He.eqO (PySem.W.findIn K (.ref (He.ga K C)) m) (some (some (.ref (He.ma K (He.ga K C) m)))) && (PySem.W.isFn K (.ref (He.ma K (He.ga K C) m)) && PySem.W.fnIn K (He.ma K (He.ga K C) m))
theorem X97 {C m:Str} {K:PySem.W.Frag} (h:X8o C m K=true):OwnSp K C m (He.ma K (He.ga K C) m):=by
  obtain ⟨c1,h⟩:=He.ba h
  obtain ⟨c2,c3⟩:=He.ba h
  exact ⟨He.eqO_ok c1,c2,c3⟩
variable [HasW]
section
variable {X:Cx} {Wx:WX} {pos p:Pos} {a b e:Expr} {es:List Expr} {ma mb:M} {ms:MG (List Bv.X)} {k j:Nat} {f:Addr} {fd:FuncData} {ps:List Str} {g:List D→PR} {C:Str}
abbrev W19 (K:PySem.W.Frag) (C:Str) (g:List D→PR):List V→Hp→VK→Prop:=fun xs H Q=>∃ a dx fs,xs=[.ref a]∧H a=some (.ins (He.ga K C) dx fs)∧spP K 1 g [.ref a] H (fun v H'=>∃ n,v = .int n∧(0 ≤ n∧n < 2 ^ 63)∧Q (.int n) H') EN
theorem W03 (gu:X.A.guards=some []) (F:FnG X.prog X.w X.K X.mg X.base k f fd ps (spP X.K 1 g)) (O:OwnSp X.K C "__len__" f) (room:Room (k + 1) X.A) (hb:Binds X.K fd ps []):CallR X (.builtin "len") (W19 X.K C g):=fun pins s σ H xs us Q I r h=>by
  obtain ⟨a,dx,fs,rfl,ha,q⟩:=h
  cases r with
  | cons r t =>
    cases t
    cases r
    obtain ⟨ox,od,J⟩:=W1i I ha
    obtain ⟨m,hF⟩:=I.fr
    refine PySem.W.len_K hF I.ok.mod.kin J O.at_ O.fn (wpAny_mono (W2d F (by exact gu) room.in1 hb I I.env0.in1 (.cons (show RelV (V.ref a) (Value.ref a) from rfl) .nil) q) (fun u s' z=>?_) fun _ _ z=>z)
    obtain ⟨v,H',I',rv,n,rfl,hn,q'⟩:=z
    obtain ⟨t,rfl⟩:=rv
    exact ⟨hn, .int n,H',I'.tok _,⟨_,rfl⟩,q'⟩
def X2m (C:Str) (g:List D→PR):List Bv.X→Sto→R Bv.X
  | [.d (.obj D fs)],S=>if decide (D=C) then (match g [.obj D fs] with
    | .ok (.int n)=>if decide (0 ≤ n∧n < 2 ^ 63) then .ok (.d (.int n)) S else .bad
    | _ => .bad) else .bad
  | _,_ => .bad
theorem W00 {K:PySem.W.Frag}:X0t K (W19 K C g) (X2m C g):=fun Z ρ S H Wx σ xs vs Q st a h=>by
  unfold X2m at h
  split at h
  · rename_i D fs
    split at h
    · rename_i hc
      obtain rfl:=of_decide_eq_true hc
      obtain ⟨v,rfl,b⟩:=Y9u a
      cases b with
      | obj w r hs =>
        refine ⟨_,_,_,rfl,r,rfl,Wn Z ρ,[.obj D fs],fun a h=>st.thereW h, .cons (.obj w r hs) .nil,?_⟩
        cases q:g [.obj D fs] with
        | ok d =>
          rw [q] at h
          cases d with
          | int n =>
            have h:W1 (AX K) K Z ρ H Wx σ Q (if decide (0 ≤ n∧n < 2 ^ 63) then .ok (.d (.int n)) S else .bad):=h
            by_cases hn:0 ≤ n∧n < 2 ^ 63
            · rw [if_pos (decide_eq_true hn)] at h
              intro H' v k a
              cases a
              exact ⟨n,rfl,hn,W1.ret h st k (.d (.int n))⟩
            · rw [if_neg (by simpa using hn)] at h; exact h.elim
          | _=>exact h.elim
        | err _ _=>rw [q] at h; exact h.elim
        | bad=>rw [q] at h; exact h.elim
    · exact h.elim
  · exact h.elim
theorem Kept.lenO (c:Kept X.prog X.w X.K X.mg X.base j (He.ma X.K (He.ga X.K C) "__len__") (spP X.K 1 g)) (O:OwnSp X.K C "__len__" (He.ma X.K (He.ga X.K C) "__len__")) (h:Here X Wx k) (hj:j + 1 ≤ k) (hg:Gl X "len") (hm:X.mg "len" = none) (ha:MA X Wx (e :: es) ms)
    (he:starEach (e :: es) X.env=(false,eval e X.env) :: starEach es X.env:=by rfl) (hpl:(backTo pos (starEach es X.env)).any (·.1)=false:=by rfl):ME X Wx (.Call (.Name "len" p) (e :: es) [] pos) (Z9 (X2m C g) ms):=by
  obtain ⟨fd,ps,F,b⟩:=c.ex
  exact U8 (W03 h.gu F O (h.room.mono hj) b) W00 hg hm ha (by rfl) (by decide) (by decide) he hpl
end
end Bv
namespace Bv
open PySem PySem.Spec L2
open PyProof.Rows hiding St
variable [HasW]
section
variable {X:Cx} {Wx:WX} {k j:Nat} {f:Addr} {fd:FuncData} {ps:List Str} {g:List D→PR} {C:Str}
end
section
variable {X:Cx}
end
def W4c (a:D) (y:Bool):Bool:=match a with
  | .bl x=>decide (x=y)
  | _=>false
def isA (neg:Bool) (a b:D):Option D:=match b with
  | .bl y=>some (.bl (W4c a y ^^ neg))
  | _=>none
section
variable {X:Cx} {Wx:WX} {k:Nat}
end
end Bv
namespace PySem
open Sem (wp)
open AutoSeq1 (wpAny_loadPart')
open MeetsSeq MeetsSeq2 MeetsSeq3 SeqRoads2
namespace BvLs
section
variable {prog:Program} {w:World} {A:Around} {R:Result→Shared→Prop}
variable {E:Value→Shared→Prop} {s:Shared}
end
end BvLs
end PySem
namespace Bv
open PySem PySem.Spec L2
open PyProof.Rows hiding St
variable [HasW]
section
variable {X:Cx} {k:Nat} {f:Addr} {fd:FuncData} {ps:List Str} {g:List D→PR} {C:Str}
end
section
variable {X:Cx} {Wx:WX} {k j:Nat} {C:Str} {g:List D→PR}
end
end Bv
namespace Bv
open PySem PySem.Spec L2
open PyProof.Rows hiding St
def W3w (tab:List (Str × Bool)) (K:PySem.W.Frag):Bool:=tab.all fun q=>decide (PySem.W.subIn K (.ref (He.ga K q.1)) (.type "BaseException")=some true) && decide (PySem.W.typeIn K (.ref (He.ga K q.1))=some (.type "type"))
def W0x (K:PySem.W.Frag) (tab:List (Str × Bool)):Prop:=∀ C,tab.lookup C=some true→PySem.W.subIn K (.ref (He.ga K C)) (.type "BaseException")=some true∧PySem.W.typeIn K (.ref (He.ga K C))=some (.type "type")
theorem W2c {tab:List (Str × Bool)} {K:PySem.W.Frag} (h:W3w tab K=true):W0x K tab:=fun C q=>by
  obtain ⟨c1,c2⟩:=He.ba (List.all_eq_true.mp h (C,true) (PySem.mem_of_lookup q))
  exact ⟨of_decide_eq_true c1,of_decide_eq_true c2⟩
theorem W0x.at {X:Cx} {tab:List (Str × Bool)} (h:W0x X.K tab):∀ C,tab.lookup C=some true→Raises X (.ref (He.ga X.K C)):=fun C q=>raises_own (h C q).1 (h C q).2
variable [HasW]
def W0l (lv:Ev) (j:Nat):SX:=fun _ _=>match lv[j]? with
  | some (some (.d v))=>some v
  | _=>none
def W0k (m:SX):SX:=fun C fs=>match m C fs with
  | some (.tup ds)=>some (.int ds.length)
  | _=>none
section
variable {lv:Ev} {X:Cx} {i j:Nat} {n x:Str} {np p pos:Pos} {e:Expr} {m:SX}
theorem W2h {y:Str} (hN:X.N[j]?=some y:=by rfl) (hv:Vis X.env.scope y:=by first | exact Or.inl rfl | exact Or.inr (Or.inl rfl) | exact Or.inr (Or.inr rfl)) (hd:(y == ("__debug__" : Str))=false:=by decide) (hcd:(y == ("__classdict__" : Str))=false:=by decide):SE lv X i (.Name y np) (W0l lv j):=fun a oe C d pn hz =>
  PE.of (pe_var (X:=X.suite a ((a,oe) :: pn)) hN hv hd hcd) fun σ H Q ⟨W,fs,f,at_,hm,q⟩=>by
    unfold W0l at hm
    split at hm
    · rename_i v hl
      cases hm
      obtain ⟨u,e1,av⟩:=at_.loc j f hl
      exact ⟨u,e1,q H u Same.rfl' av⟩
    · cases hm
theorem W2g (hg:Gl X "len") (hm:X.mg "len" = none) (h:SE lv X i e m) (hs:starEach [e] X.env=(false,eval e X.env) :: starEach [] X.env:=by rfl) (hpl:(backTo pos (starEach [] X.env)).any (·.1)=false:=by rfl):SE lv X i (.Call (.Name "len" p) [e] [] pos) (W0k m):=fun a oe C d pn hz =>
  PE.of (pe_callB (X:=X.suite a ((a,oe) :: pn)) Z35 hg hm (by rfl) (pa_cons (h a oe C d pn hz) pa_nil hs) (by decide) (by decide) hs hpl) fun σ H Q ⟨W,fs,f,at_,hm,q⟩=>by
    unfold W0k at hm
    cases z:m C fs with
    | none=>rw [z] at hm; cases hm
    | some g =>
      rw [z] at hm
      cases g with
      | tup ds =>
        cases hm
        refine ⟨W,fs,_,at_,z,fun H1 v k av=>?_⟩
        cases av with
        | tup r hs=>exact .inl (.inl ⟨_,_,rfl, .inr r.sq,by rw [← hs.length]; exact q H1 _ k (.int _)⟩)
      | _=>cases hm
theorem X94 {y:Str} {vs:List Str} (hg:Gl X y) (h:X.mg y=some (.ref (He.ga X.K y))) (hv:Y0n y vs X.K=true) (hz:(vs.all fun z=>PyData.strOk z)=true:=by decide +kernel) (hd:(y == ("__debug__" : Str))=false:=by decide):SE lv X i (.Name y np) (x_c (.tup (vs.map D.str))):=by
  obtain ⟨u,av,r⟩:=X7x hv hz
  exact W38 (fun a oe pn=>pe_glob (X:=X.suite a ((a,oe) :: pn)) hg h r hd) av
end
def X29 (tab:List (Str × Bool)) (mb:MS) (i:Nat) (C2 p:Str) (m:Ev→SX):MS:=fun e S=>match mb e S with
  | .err C fs e1 S1=>(match tab.lookup C with
    | some true=>(match m (e1.set i none) C fs with
      | some f=>if i < e1.length then .err C2 [(p,f)] (e1.set i none) S1 else .bad
      | none => .bad)
    | some false => .err C fs e1 S1
    | none => .bad)
  | r=>r
section
variable {X:Cx} {Wx:WX} {k i:Nat} {n x y:Str} {c:Value} {body:List Stmt} {np np2 yp rpos pos pos2 pos3:Pos} {ex:Expr} {mb:MS} {m:Ev→SX} {tab:List (Str × Bool)} {C2 p:Str} {fI:Addr}
theorem X5g (h:Here X Wx k) (hs:X.stack=X.env :: X.outer) (hf:X.env.frame=some X.env.locals) (hN:X.N.Nodup) (hi:X.N[i]?=some n) (hln:X.env.kindOf n=some .local) (hc:Names X x c) (ht:X3e X.K c tab) (hrs:∀ C,tab.lookup C=some true→Raises X (.ref (He.ga X.K C)))
    (hpa:∀ hd:Option Value,PassesOwnAt (model X.prog X.w) (X.A.mark hd) X.A X.env X.xe) (hb:∀ (W:WX) (pn:List (Addr × Obj)) (xe:Value→Shared→Prop),Here (X.tr pn xe) W k→MPs (X.tr pn xe) W body mb)
    (T:Xe.ErrOk X.prog X.K (He.ga X.K C2) fI p) (gC:X.mg y=some (.ref (He.ga X.K C2))) (hg:Gl X y) (hse:∀ lv,SE lv X i ex (m lv)) (hk:1 ≤ k:=by decide) (hdn:(n == ("__debug__" : Str))=false:=by decide) (hdb:(y == ("__debug__" : Str))=false:=by decide)
    (he:starEach (ex :: []) X.env=(false,eval ex X.env) :: starEach [] X.env:=by rfl) (hpl:(backTo rpos (starEach [] X.env)).any (·.1)=false:=by rfl) :
    MP X Wx (.Try body [.ExceptHandler (some (.Name x np)) (some n) [.Raise (some (.Call (.Name y yp) [ex] [] rpos)) (some (.Name n np2)) pos2] pos3] [] [] pos) (X29 tab mb i C2 p m):=by
  let ts:Addr→Value→Option Addr→TS:=fun a cls d D σ H=>∃ (C:Str) (lv:Ev),cls = .ref (He.ga X.K C)∧Raises X cls∧σ[i]?=some (some (.ref a))∧Xe.tMkS (He.ga X.K C2) p (tCons (tSE lv X.K i a C d (m lv)) tNil) σ H fun cls' d' H'=>Wx cls' d' (σ.set i none) H'
  have hsu:∀ (a:Addr) (oe:Obj) (cls:Value) (d:Option Addr) (pn:List (Addr × Obj)) (xe:Value→Shared→Prop),Zc cls d oe→(∃ vs,oe.data = .fields vs)→Xq.Hot (Xq.suiteQ X a ((a,oe) :: pn) xe) a cls →
      Xq.Tk (Xq.suiteQ X a ((a,oe) :: pn) xe) (fun cls d σ H=>Wx cls d (σ.set i none) H)→PSs (Xq.suiteQ X a ((a,oe) :: pn) xe) [.Raise (some (.Call (.Name y yp) [ex] [] rpos)) (some (.Name n np2)) pos2] (ts a cls d):=fun a oe cls d pn xe hz hd hot tkS =>
    ⟨fun pins s σ H D I ⟨C,lv,ec,rz,hi2,q⟩=>by
      subst ec
      have hr:(Xq.suiteQ X a ((a,oe) :: pn) xe).A.depth + 1 < recursionLimit:=by have:=h.room.dp; show X.A.depth + 1 < _; omega
      have pa:PA (Xq.suiteQ X a ((a,oe) :: pn) xe) [ex] (tCons (tSE lv X.K i a C d (m lv)) tNil):=Xq.pa_suiteQ (pa_cons (X:=X.suite a ((a,oe) :: pn)) (hse lv a oe C d pn ⟨hz,hd⟩) pa_nil he)
      have mk:=Xe.pmk_sup (X:=Xq.suiteQ X a ((a,oe) :: pn) xe) (np:=yp) (pos:=rpos) T gC hr pa hg hdb he hpl
      exact (pss_one (Xq.ps_raiseQF (X:=Xq.suiteQ X a ((a,oe) :: pn) xe) hot rz tkS mk hi hln hdn)).run pins s σ H D I ⟨hi2,q⟩⟩
  refine PS.of (Xq.ps_try_asQ (tb:=fun W=>RS X.K W mb) hs hf hN hi hln hc hpa h.tk (fun W pn xe tk po=>hb W pn xe (h.tr tk)) hsu) fun D σ H ⟨Z,ρ,e,S,st,ev,q0⟩=>?_
  refine ⟨Z,ρ,e,S,st,ev,?_⟩
  unfold X29 at q0
  cases q:mb e S with
  | bad=>rw [q] at q0; exact q0
  | go o S'=>rw [q] at q0; cases o <;> exact q0
  | err C fs e1 S1 =>
    rw [q] at q0
    intro ρ' H' σ' d s1 g1 ev1 er
    have q0:Z28 X.K Z ρ H Wx D (match tab.lookup C with
      | some true=>(match m (e1.set i none) C fs with
        | some f=>if i < e1.length then .err C2 [(p,f)] (e1.set i none) S1 else .bad
        | none => .bad)
      | some false => .err C fs e1 S1
      | none => .bad):=q0
    cases z:tab.lookup C with
    | none=>rw [z] at q0; exact q0.elim
    | some b =>
      rw [z] at q0
      refine ⟨b,ht C b z,fun hb1 a na=>?_,fun hb1=>?_⟩
      · subst hb1
        have q0:Z28 X.K Z ρ H Wx D (match m (e1.set i none) C fs with
          | some f=>if i < e1.length then .err C2 [(p,f)] (e1.set i none) S1 else .bad
          | none => .bad):=q0
        cases w:m (e1.set i none) C fs with
        | none=>rw [w] at q0; exact q0.elim
        | some f =>
          rw [w] at q0
          have q0:Z28 X.K Z ρ H Wx D (if i < e1.length then .err C2 [(p,f)] (e1.set i none) S1 else .bad):=q0
          by_cases il0:i < e1.length
          case neg=>rw [if_neg il0] at q0; exact q0.elim
          rw [if_pos il0] at q0
          have il:i < σ'.length:=by rw [← ev1.len]; exact il0
          have er2:X4a X.K (Wn Z ρ') H' fs d:=by
            rcases er with er | ⟨dd,vs,h1,_,_,h4,h5⟩
            · exact .inl er
            · exact .inr ⟨dd,vs,h1,h4,h5⟩
          have loc:∀ (j:Nat) (v:Bv.D),(e1.set i none)[j]?=some (some (.d v))→∃ u,(σ'.set i (some (.ref a)))[j]?=some (some u)∧AV X.K (Wn Z ρ') H' v u:=fun j v e=>by
            by_cases hj:i=j
            · subst hj
              rw [List.getElem?_set_self il0] at e
              cases e
            · rw [List.getElem?_set_ne hj] at e ⊢
              obtain ⟨u,e2,av⟩:=ev1.at_ j _ e
              cases av with
              | d av=>exact ⟨u,e2,av⟩
          refine ⟨C,e1.set i none,rfl,hrs C z,by rw [List.getElem?_set_self il],Wn Z ρ',fs,f,⟨fun b hb=>s1.thereW hb,by rw [List.getElem?_set_self il],er2,loc⟩,w,fun H2 v k2 av=>⟨v,rfl,fun dd hd=>?_⟩⟩
          have s2:=s1.grow k2
          have g2:=g1.trans (Go.grow k2)
          have kp:=U3 (o := .xd [(p,v)]) hd
          have mv:=(Go.grow (ρ:=ρ') kp).mv s2
          have hn:H dd=none:=by
            cases y:H dd with
            | none=>rfl
            | some o =>
              obtain ⟨u,y2⟩:=Y8a g2 s2 dd o y
              rw [hd] at y2; cases y2
          rw [List.set_set]
          exact q0 ρ' _ _ (some dd) (s2.grow kp) (g2.trans (Go.grow kp)) (((ev1.unset).mv (Z5h k2) (List.prefix_refl _)).mv mv (List.prefix_refl _)) (.inr ⟨dd,_,rfl,hn,s2.fresh hd,upd_same, .cons (av.mv mv) .nil⟩)
      · subst hb1
        exact q0 ρ' H' σ' d s1 g1 ev1 er
end
end Bv
namespace Bv
open PySem PySem.Spec L2
open PyProof.Rows hiding St
section
open PySem.W PySem.Calls
theorem X7k {r:PySem.W.OpenRow} {q:Program} {H:PySem.W.Hook} {ob:PySem.W.SharedT→H.α} {M:Nat} {loose:List PySem.Str} {w:World}
    (h1:∀ os:OsState,(HandSHeadRun.endF (HandSHeadRun.stepQ (HandSHeadRun.denQ HandSHeadRun.tabQ) r.prog w) M r.prog w os).map (fun s=>HandSHeadRun.looksF r.prog (boot_heap w.params) s.abs)=some true)
    (h2:∀ os:OsState,(HandSHeadRun.endF (HandSHeadRun.stepQ (HandSHeadRun.denQ HandSHeadRun.tabQ) r.prog w) M r.prog w os).map (fun s=>HandSHeadRun.seenQ q loose (importedModules r.prog.main.body) (fun s=>xlAt q [] s && recOk r.toRowW.records s) s.abs)=some (openGood q loose))
    (h3:∀ os:OsState,(HandSHeadRun.endF (HandSHeadRun.stepQ (HandSHeadRun.denQ HandSHeadRun.tabQ) r.prog w) M r.prog w os).map ob=some (H.val w)):HandSHeadRun.RunEq r q H ob M loose w:=fun os=>by
  have g1:=h1 os
  have g2:=h2 os
  have g3:=h3 os
  cases e:HandSHeadRun.endF (HandSHeadRun.stepQ (HandSHeadRun.denQ HandSHeadRun.tabQ) r.prog w) M r.prog w os with
  | none=>rw [e] at g1; cases g1
  | some s =>
    rw [e,Option.map_some] at g1 g2 g3
    rw [Option.map_some]
    injection g1 with g1
    injection g2 with g2
    injection g3 with g3
    rw [g1,g2,g3]
end
theorem X9w {ts1 ts2:List (PySem.W.Frag→Bool)} {ds1 ds2:List DefB} {xs:List ErrB} {K:PySem.W.Frag} (h1:W0q ts1 ds1 [] K=X39 ds1 []) (h2:W0q ts2 ds2 xs K=X39 ds2 xs):W0q (ts1++ts2) (ds1++ds2) xs K=X39 (ds1++ds2) xs:=by
  unfold W0q X39 at *
  simp only [Prod.mk.injEq] at h1 h2 ⊢
  obtain ⟨a1,b1⟩:=h1
  obtain ⟨a2,b2⟩:=h2
  rw [Bool.and_eq_true] at a1 a2
  refine ⟨?_,?_⟩
  · rw [List.all_append,List.all_append,a1.1,a1.2,a2.1,a2.2]
    rfl
  · rw [List.map_nil,List.map_nil,List.append_nil,List.append_nil] at b1
    rw [List.map_append,List.map_append,List.append_assoc,List.append_assoc,b2,b1]
end Bv
namespace Bv
open PySem PySem.Spec L2
open PyProof.Rows hiding St
def W36 (n:Nat):List Addr:=mainGlobals :: (List.range n).reverse
def Y7u (n:Nat) (ts:List (PySem.W.Frag→Bool)) (ds:List DefB) (xs:List ErrB) (g:Addr→Option Obj):AlB:=W0q ts ds xs (He.frG g (W36 n))
def W1e (n:Nat) (ts:List (PySem.W.Frag→Bool)) (ds:List DefB) (xs:List ErrB):PySem.W.Hook where
  α:=AlB
  obs:=fun s=>Y7u n ts ds xs s.heap.get?
  val:=fun _=>X39 ds xs
  says:=fun _ h=>∃ K:PySem.W.Frag,K.In h∧X3f ts ds xs K
  of:=fun _ _ e=>⟨_,He.frG_in,e⟩
  keeps:=fun _ _ _ ⟨K,i,c⟩ k=>⟨K,PySem.W.Frag.In.keeps i k,c⟩
theorem X68 {n:Nat} {ts:List (PySem.W.Frag→Bool)} {ds:List DefB} {xs:List ErrB} {g:Addr→Option Obj} {s:Shared} (h:∀ a,g a=s.heap.get? a):Y7u n ts ds xs g=(W1e n ts ds xs).obs s:=by
  rw [show g=s.heap.get? from funext h]
  rfl
theorem Y9g {o:Option PySem.W.SharedT} {n a p:Nat} {ts:List (PySem.W.Frag→Bool)} {ds:List DefB} {xs:List ErrB}
    (h1:o.map (fun s=>Y7u n (ts.take a) (ds.take p) [] (HandSHeadRun.getT s))=some (X39 (ds.take p) []))
    (h2:o.map (fun s=>Y7u n (ts.drop a) (ds.drop p) xs (HandSHeadRun.getT s))=some (X39 (ds.drop p) xs)):o.map (fun s=>Y7u n ts ds xs (HandSHeadRun.getT s))=some (X39 ds xs):=by
  cases o with
  | none=>cases h1
  | some s =>
    rw [Option.map_some] at h1 h2 ⊢
    injection h1 with h1
    injection h2 with h2
    have:=X9w (K:=He.frG (HandSHeadRun.getT s) (W36 n)) h1 h2
    rw [List.take_append_drop,List.take_append_drop] at this
    exact congrArg some this
end Bv
set_option maxHeartbeats 0
namespace Lw
open PySem PySem.Spec L2 Bv
open PyProof.Rows hiding St
def top (i:Nat):Stmt:=PySem.Challenge.pw_wordingkept_k37_deciding_by_names.main.body.getD i (.Pass ⟨0,0,0,0⟩)
abbrev Z1y:Stmt:=top 82
abbrev Z30:Stmt:=top 46
abbrev Z27:Stmt:=top 79
abbrev Z4m:Stmt:=top 50
abbrev Z3s:Stmt:=inClass (top 75) 0
abbrev Z3t:Stmt:=inClass (top 75) 1
abbrev Z10:Stmt:=top 48
abbrev Z2g:Stmt:=top 49
abbrev Z2f:Stmt:=top 78
abbrev Z0a:Stmt:=inClass (top 80) 0
abbrev Z2y:Stmt:=inClass (top 80) 1
abbrev Z12:Stmt:=top 52
abbrev Z6v:Stmt:=top 17
abbrev Z1i:Stmt:=inClass (top 31) 2
abbrev Z3r:Stmt:=inClass (top 75) 2
abbrev Z1k:Stmt:=inClass (top 80) 3
abbrev Z1j:Stmt:=inClass (top 80) 4
abbrev Z2w:Stmt:=inClass (top 16) 0
abbrev Z2h:Stmt:=top 20
abbrev Z0v:Stmt:=top 22
abbrev Z11:Stmt:=top 21
abbrev Z2i:Stmt:=top 23
abbrev Z5v:Stmt:=top 24
abbrev Z1m:Stmt:=top 18
abbrev Z2l:Stmt:=top 25
abbrev Z5x:Stmt:=top 26
abbrev Z1e:Stmt:=top 29
abbrev Z0y:Stmt:=top 28
abbrev Z04:Stmt:=top 27
abbrev Z2z:Stmt:=top 30
abbrev Z0m:Stmt:=inClass (top 31) 1
abbrev Z1h:Stmt:=inClass (top 31) 0
abbrev Z21:Stmt:=top 19
abbrev Z3v:Stmt:=top 32
abbrev Z13:Stmt:=top 33
abbrev Z0i:Stmt:=top 34
abbrev Z1l:Stmt:=top 35
abbrev Z5w:Stmt:=top 36
abbrev Z41:Stmt:=top 69
abbrev Z22:Stmt:=top 70
abbrev Z2j:Stmt:=top 53
abbrev Z4l:Stmt:=top 68
abbrev Z1v:Stmt:=inClass (top 66) 0
abbrev Q9:Stmt:=inClass (top 66) 1
abbrev Z0u:Stmt:=inClass (top 66) 9
abbrev Q3:Stmt:=inClass (top 66) 3
abbrev V4:Stmt:=inClass (top 66) 12
abbrev Z1c:Stmt:=inClass (top 66) 13
abbrev Z00:Stmt:=inClass (top 66) 14
abbrev V7:Stmt:=inClass (top 66) 2
abbrev Z0d:Stmt:=inClass (top 66) 8
abbrev Z0h:Stmt:=inClass (top 66) 5
abbrev Z1d:Stmt:=inClass (top 66) 4
abbrev Z0q:Stmt:=inClass (top 66) 6
abbrev U5:Stmt:=inClass (top 66) 7
abbrev Z1x:Stmt:=inClass (top 66) 15
abbrev V8:Stmt:=inClass (top 66) 17
abbrev U2:Stmt:=inClass (top 66) 18
abbrev Z1u:Stmt:=inClass (top 66) 16
abbrev Z2x:Stmt:=inClass (top 66) 11
abbrev Q8:Stmt:=inClass (top 66) 10
abbrev Z1w:Stmt:=inClass (top 66) 19
abbrev Z2k:Stmt:=top 51
abbrev Z42:Stmt:=top 47
abbrev Z3w:Stmt:=top 55
abbrev Z20:Stmt:=top 56
abbrev Z32:Stmt:=top 57
abbrev Z31:Stmt:=top 58
abbrev Z1z:Stmt:=top 59
abbrev Z09:Stmt:=top 62
abbrev Z2e:Stmt:=top 61
abbrev Z1s:Stmt:=inClass (top 60) 0
abbrev Z6x:Stmt:=top 72
abbrev Z3u:Stmt:=inClass (top 80) 6
abbrev Z6w:Stmt:=top 71
abbrev Y26:Stmt:=top 83
def Z6a:ErrB:=⟨"InvalidText", "InvalidText.__init__", "at",inClass (top 5) 0⟩
theorem Y5j:W0u Z6a.st Z6a.par:=⟨_,_,_,_,_,_,_,_,_,_,_,_,rfl,rfl,rfl,fun _=>⟨_,rfl⟩⟩
def Z6y:ErrB:=⟨"InvalidRow", "InvalidRow.__init__", "word",inClass (top 3) 0⟩
theorem Y7g:W0u Z6y.st Z6y.par:=⟨_,_,_,_,_,_,_,_,_,_,_,_,rfl,rfl,rfl,fun _=>⟨_,rfl⟩⟩
def Z6b:ErrB:=⟨"InvalidTool", "InvalidTool.__init__", "word",inClass (top 4) 0⟩
theorem Y5k:W0u Z6b.st Z6b.par:=⟨_,_,_,_,_,_,_,_,_,_,_,_,rfl,rfl,rfl,fun _=>⟨_,rfl⟩⟩
def Z5q:ErrB:=⟨"InvalidEvent", "InvalidEvent.__init__", "at",inClass (top 6) 0⟩
theorem Y4f:W0u Z5q.st Z5q.par:=⟨_,_,_,_,_,_,_,_,_,_,_,_,rfl,rfl,rfl,fun _=>⟨_,rfl⟩⟩
def xsL:List ErrB:=[Z6a,Z6y,Z6b,Z5q]
def Y34:DefB:=⟨fun K=>He.ma K (He.ga K "Step") "__init__", "__init__", "Step.__init__",defArgs Z2w,defBody Z2w,defScope Z2w,[]⟩
def X4h:DefB:=⟨fun K=>He.ga K "begun", "begun", "begun",defArgs Z6v,defBody Z6v,defScope Z6v,[]⟩
def Z92:DefB:=⟨fun K=>He.ga K "is_of_others", "is_of_others", "is_of_others",defArgs Z1m,defBody Z1m,defScope Z1m,[]⟩
def Y4d:DefB:=⟨fun K=>He.ga K "shows_own", "shows_own", "shows_own",defArgs Z21,defBody Z21,defScope Z21,[]⟩
def X2g:DefB:=⟨fun K=>He.ga K "is_let", "is_let", "is_let",defArgs Z5v,defBody Z5v,defScope Z5v,[]⟩
def X2i:DefB:=⟨fun K=>He.ga K "movers", "movers", "movers",defArgs Z5x,defBody Z5x,defScope Z5x,[]⟩
def Z9w:DefB:=⟨fun K=>He.ma K (He.ga K "Closure") "note", "note", "Closure.note",defArgs Z1i,defBody Z1i,defScope Z1i,[]⟩
def Y8p:DefB:=⟨fun K=>He.ga K "is_name", "is_name", "is_name",defArgs Z30,defBody Z30,defScope Z30,[]⟩
def Y1e:DefB:=⟨fun K=>He.ga K "is_sequence", "is_sequence", "is_sequence",defArgs Z10,defBody Z10,defScope Z10,[]⟩
def Y2u:DefB:=⟨fun K=>He.ga K "are_unlike", "are_unlike", "are_unlike",defArgs Z2g,defBody Z2g,defScope Z2g,[]⟩
def Y8q:DefB:=⟨fun K=>He.ga K "is_word", "is_word", "is_word",defArgs Z4m,defBody Z4m,defScope Z4m,[]⟩
def Y4b:DefB:=⟨fun K=>He.ga K "number_in", "number_in", "number_in",defArgs Z2k,defBody Z2k,defScope Z2k,[]⟩
def Y8r:DefB:=⟨fun K=>He.ga K "keys_of", "keys_of", "keys_of",defArgs Z31,defBody Z31,defScope Z31,[]⟩
def Y07:DefB:=⟨fun K=>He.ma K (He.ga K "Teller") "__init__", "__init__", "Teller.__init__",defArgs Z1v,defBody Z1v,defScope Z1v,[]⟩
def Z6p:DefB:=⟨fun K=>He.ma K (He.ga K "Teller") "fresh_key", "fresh_key", "Teller.fresh_key",defArgs Q9,defBody Q9,defScope Q9,[]⟩
def Z4t:DefB:=⟨fun K=>He.ma K (He.ga K "Teller") "fresh_stranger", "fresh_stranger", "Teller.fresh_stranger",defArgs V7,defBody V7,defScope V7,[]⟩
def Z7d:DefB:=⟨fun K=>He.ma K (He.ga K "Teller") "those_at", "those_at", "Teller.those_at",defArgs Q3,defBody Q3,defScope Q3,[]⟩
def Z58:DefB:=⟨fun K=>He.ma K (He.ga K "Teller") "tell", "tell", "Teller.tell",defArgs Z1d,defBody Z1d,defScope Z1d,[.non, .non]⟩
def Z8j:DefB:=⟨fun K=>He.ma K (He.ga K "Teller") "without", "without", "Teller.without",defArgs Z0h,defBody Z0h,defScope Z0h,[]⟩
def Z8i:DefB:=⟨fun K=>He.ma K (He.ga K "Teller") "path_to", "path_to", "Teller.path_to",defArgs Z0u,defBody Z0u,defScope Z0u,[]⟩
def Y6n:DefB:=⟨fun K=>He.ma K (He.ga K "Row") "fits", "fits", "Row.fits",defArgs Z3r,defBody Z3r,defScope Z3r,[]⟩
def Y6p:DefB:=⟨fun K=>He.ma K (He.ga K "Tool") "__len__", "__len__", "Tool.__len__",defArgs Z3u,defBody Z3u,defScope Z3u,[]⟩
def Y1a:DefB:=⟨fun K=>He.ga K "_law_number", "_law_number", "_law_number",defArgs Z1y,defBody Z1y,defScope Z1y,[]⟩
def Y2y:DefB:=⟨fun K=>He.ga K "whose_then", "whose_then", "whose_then",defArgs Z2l,defBody Z2l,defScope Z2l,[]⟩
def X2f:DefB:=⟨fun K=>He.ga K "is_key", "is_key", "is_key",defArgs Z42,defBody Z42,defScope Z42,[]⟩
def Y4a:DefB:=⟨fun K=>He.ga K "need_lets", "need_lets", "need_lets",defArgs Z12,defBody Z12,defScope Z12,[]⟩
def Y2x:DefB:=⟨fun K=>He.ga K "need_fault", "need_fault", "need_fault",defArgs Z2j,defBody Z2j,defScope Z2j,[]⟩
def Y1d:DefB:=⟨fun K=>He.ga K "is_possible", "is_possible", "is_possible",defArgs Z1z,defBody Z1z,defScope Z1z,[]⟩
def Y6s:DefB:=⟨fun K=>He.ga K "needs_of", "needs_of", "needs_of",defArgs Z09,defBody Z09,defScope Z09,[]⟩
def Z4u:DefB:=⟨fun K=>He.ma K (He.ga K "Teller") "settle", "settle", "Teller.settle",defArgs Z0q,defBody Z0q,defScope Z0q,[.non, .non]⟩
def Z8z:DefB:=⟨fun K=>He.ma K (He.ga K "Teller") "wished", "wished", "Teller.wished",defArgs Z0d,defBody Z0d,defScope Z0d,[]⟩
def Z4s:DefB:=⟨fun K=>He.ma K (He.ga K "Teller") "elder_stranger", "elder_stranger", "Teller.elder_stranger",defArgs V4,defBody V4,defScope V4,[]⟩
def Z9y:DefB:=⟨fun K=>He.ma K (He.ga K "Teller") "check", "check", "Teller.check",defArgs Z00,defBody Z00,defScope Z00,[]⟩
def Z6f:DefB:=⟨fun K=>He.ma K (He.ga K "Teller") "mover_from", "mover_from", "Teller.mover_from",defArgs V8,defBody V8,defScope V8,[]⟩
def Z47:DefB:=⟨fun K=>He.ma K (He.ga K "Teller") "stranger_near", "stranger_near", "Teller.stranger_near",defArgs U2,defBody U2,defScope U2,[]⟩
def Y10:DefB:=⟨fun K=>He.ma K (He.ga K "Row") "__init__", "__init__", "Row.__init__",defArgs Z3s,defBody Z3s,defScope Z3s,[.bl true]⟩
def Y39:DefB:=⟨fun K=>He.ga K "are_names", "are_names", "are_names",defArgs Z2f,defBody Z2f,defScope Z2f,[]⟩
def Y6r:DefB:=⟨fun K=>He.ga K "names_in", "names_in", "names_in",defArgs Z27,defBody Z27,defScope Z27,[]⟩
def Z90:DefB:=⟨fun K=>He.ma K (He.ga K "Tool") "row_for", "row_for", "Tool.row_for",defArgs Z1k,defBody Z1k,defScope Z1k,[]⟩
def Y6t:DefB:=⟨fun K=>He.ga K "place_in", "place_in", "place_in",defArgs Z3w,defBody Z3w,defScope Z3w,[]⟩
def Y37:DefB:=⟨fun K=>He.ga K "all_needs", "all_needs", "all_needs",defArgs Z2e,defBody Z2e,defScope Z2e,[]⟩
def Z6o:DefB:=⟨fun K=>He.ma K (He.ga K "Teller") "change_to", "change_to", "Teller.change_to",defArgs U5,defBody U5,defScope U5,[]⟩
def Y0e:DefB:=⟨fun K=>He.ma K (He.ga K "Tool") "__init__", "__init__", "Tool.__init__",defArgs Z0a,defBody Z0a,defScope Z0a,[.adr (He.dflAt ("Tool",some "__init__") 0)]⟩
def Z9z:DefB:=⟨fun K=>He.ma K (He.ga K "Tool") "becomes", "becomes", "Tool.becomes",defArgs Z1j,defBody Z1j,defScope Z1j,[]⟩
def Y2v:DefB:=⟨fun K=>He.ga K "given_step", "given_step", "given_step",defArgs Z2h,defBody Z2h,defScope Z2h,[]⟩
def Y1f:DefB:=⟨fun K=>He.ga K "looked_step", "looked_step", "looked_step",defArgs Z11,defBody Z11,defScope Z11,[]⟩
def Y1b:DefB:=⟨fun K=>He.ga K "carry_steps", "carry_steps", "carry_steps",defArgs Z1e,defBody Z1e,defScope Z1e,[]⟩
def Z91:DefB:=⟨fun K=>He.ga K "is_lost_from", "is_lost_from", "is_lost_from",defArgs Z1l,defBody Z1l,defScope Z1l,[]⟩
def Y4c:DefB:=⟨fun K=>He.ga K "places_in", "places_in", "places_in",defArgs Z20,defBody Z20,defScope Z20,[]⟩
def Y06:DefB:=⟨fun K=>He.ma K (He.ga K "Teller") "give", "give", "Teller.give",defArgs Z1c,defBody Z1c,defScope Z1c,[]⟩
def Y09:DefB:=⟨fun K=>He.ma K (He.ga K "Teller") "stay", "stay", "Teller.stay",defArgs Z1x,defBody Z1x,defScope Z1x,[]⟩
def Y6o:DefB:=⟨fun K=>X6h "Row" "read" K, "read", "Row.read",defArgs Z3t,defBody Z3t,defScope Z3t,[]⟩
def Z8k:DefB:=⟨fun K=>He.ga K "delivery_steps", "delivery_steps", "delivery_steps",defArgs Z0v,defBody Z0v,defScope Z0v,[]⟩
def Y2w:DefB:=⟨fun K=>He.ga K "look_steps", "look_steps", "look_steps",defArgs Z2i,defBody Z2i,defScope Z2i,[]⟩
def Y1c:DefB:=⟨fun K=>He.ga K "editions_to", "editions_to", "editions_to",defArgs Z0y,defBody Z0y,defScope Z0y,[]⟩
def Y6q:DefB:=⟨fun K=>He.ga K "is_stuck", "is_stuck", "is_stuck",defArgs Z3v,defBody Z3v,defScope Z3v,[]⟩
def Y8s:DefB:=⟨fun K=>He.ga K "move_in", "move_in", "move_in",defArgs Z32,defBody Z32,defScope Z32,[]⟩
def Y36:DefB:=⟨fun K=>X6h "Tool" "read" K, "read", "Tool.read",defArgs Z2y,defBody Z2y,defScope Z2y,[]⟩
def Z80:DefB:=⟨fun K=>He.ga K "edition_steps", "edition_steps", "edition_steps",defArgs Z04,defBody Z04,defScope Z04,[]⟩
def Y1g:DefB:=⟨fun K=>He.ga K "shows_fault", "shows_fault", "shows_fault",defArgs Z13,defBody Z13,defScope Z13,[]⟩
def Z8l:DefB:=⟨fun K=>He.ga K "steps_to_fault", "steps_to_fault", "steps_to_fault",defArgs Z0i,defBody Z0i,defScope Z0i,[]⟩
def Z8y:DefB:=⟨fun K=>He.ma K (He.ga K "Story") "__init__", "__init__", "Story.__init__",defArgs Z1s,defBody Z1s,defScope Z1s,[.adr (He.dflAt ("Story",some "__init__") 0)]⟩
def Y38:DefB:=⟨fun K=>He.ga K "all_steps", "all_steps", "all_steps",defArgs Z2z,defBody Z2z,defScope Z2z,[]⟩
def X2h:DefB:=⟨fun K=>He.ga K "is_met", "is_met", "is_met",defArgs Z5w,defBody Z5w,defScope Z5w,[]⟩
def Z7c:DefB:=⟨fun K=>He.ma K (He.ga K "Closure") "go_from", "go_from", "Closure.go_from",defArgs Z0m,defBody Z0m,defScope Z0m,[]⟩
def Z9v:DefB:=⟨fun K=>He.ma K (He.ga K "Closure") "__init__", "__init__", "Closure.__init__",defArgs Z1h,defBody Z1h,defScope Z1h,[]⟩
def Y8o:DefB:=⟨fun K=>He.ga K "happens", "happens", "happens",defArgs Z4l,defBody Z4l,defScope Z4l,[]⟩
def X2e:DefB:=⟨fun K=>He.ga K "faults", "faults", "faults",defArgs Z41,defBody Z41,defScope Z41,[]⟩
def Y4e:DefB:=⟨fun K=>He.ga K "standings", "standings", "standings",defArgs Z22,defBody Z22,defScope Z22,[]⟩
def X4i:DefB:=⟨fun K=>He.ga K "comes", "comes", "comes",defArgs Z6w,defBody Z6w,defScope Z6w,[]⟩
def Z9x:DefB:=⟨fun K=>He.ma K (He.ga K "Teller") "build", "build", "Teller.build",defArgs Q8,defBody Q8,defScope Q8,[]⟩
def Y05:DefB:=⟨fun K=>He.ma K (He.ga K "Teller") "come", "come", "Teller.come",defArgs Z1u,defBody Z1u,defScope Z1u,[]⟩
def Y08:DefB:=⟨fun K=>He.ma K (He.ga K "Teller") "lose", "lose", "Teller.lose",defArgs Z1w,defBody Z1w,defScope Z1w,[]⟩
def Y35:DefB:=⟨fun K=>He.ma K (He.ga K "Teller") "go", "go", "Teller.go",defArgs Z2x,defBody Z2x,defScope Z2x,[]⟩
def X4j:DefB:=⟨fun K=>He.ga K "story", "story", "story",defArgs Z6x,defBody Z6x,defScope Z6x,[]⟩
def W06:DefB:=⟨fun K=>He.ga K "law", "law", "law",defArgs Y26,defBody Y26,defScope Y26,[]⟩
def dsL:List DefB:=[Y34,X4h,Z92,Y4d,X2g,X2i,Z9w,Y8p,Y1e,Y2u,Y8q,Y4b,Y8r,Y07,Z6p,Z4t,Z7d,Z58,Z8j,Z8i,Y6n,Y6p,Y1a,Y2y,X2f,Y4a,Y2x,Y1d,Y6s,Z4u,Z8z,Z4s,Z9y,Z6f,Z47,Y10,Y39,Y6r,Z90,Y6t,Y37,Z6o,Y0e,Z9z,Y2v,Y1f,Y1b,Z91,Y4c,Y06,Y09,Y6o,Z8k,Y2w,Y1c,Y6q,Y8s,Y36,Z80,Y1g,Z8l,Z8y,Y38,X2h,Z7c,Z9v,Y8o,X2e,Y4e,X4i,Z9x,Y05,Y08,Y35,X4j,W06]
def tsL:List (PySem.W.Frag→Bool):=[Z6k "abs",
  Z6k "int",
  Z0w "_law_number",
  Y0n "HEADS" ["marks", "shown", "asked"],
  Z0w "HEADS",
  Z6k "enumerate",
  Z6k "len",
  Z0w "InvalidText",
  Z6k "isinstance",
  X7u (fun K=>(.type "str")) (Y6e "str") [("Row",false),("Tool",false),("Story",false)],
  Z6k "str",
  Y0n "BARRED" ["any", "same", "take", "keep", "to"],
  Z0w "BARRED",
  W0b "MOST_LETTERS" 5,
  X0l "LETTERS_words" "abcdefghijklmnopqrstuvwxyz",
  Z6k "all",
  Z0w "is_name",
  Z0w "names_in",
  X1x "InvalidText" [("InvalidRow",false),("InvalidTool",false),("InvalidText",true),("InvalidEvent",false),("InvalidLets",false),("InvalidFault",false)],
  W3w [("InvalidRow",false),("InvalidTool",false),("InvalidText",true),("InvalidEvent",false),("InvalidLets",false),("InvalidFault",false)],
  Y0n "TAKINGS" ["keep", "take"],
  Z0w "TAKINGS",
  X1x "InvalidRow" [("InvalidRow",true),("InvalidTool",false),("InvalidText",false),("InvalidEvent",false),("InvalidLets",false),("InvalidFault",false)],
  W3w [("InvalidRow",true),("InvalidTool",false),("InvalidText",false),("InvalidEvent",false),("InvalidLets",false),("InvalidFault",false)],
  Y0n "HAPPENINGS" ["give", "carry", "drop", "back", "right", "wrong"],
  Z0w "HAPPENINGS",
  Z0w "is_word",
  Z0w "InvalidRow",
  X7u (fun K=>(.type "bool")) (Y6e "bool") [("Row",false),("Tool",false),("Story",false)],
  Z6k "bool",
  Z06 ["Row"] "word",
  Z06 ["Row"] "old",
  Z06 ["Row"] "then",
  Z06 ["Row"] "take",
  X1z "Row",
  Z0w "Row",
  W3v "Row" "read",
  X8n [.type "list", .type "tuple"] (X6a ["list", "tuple"]) [("Row",false),("Tool",false),("Story",false)],
  Z6k "list",
  Z6k "tuple",
  Z0w "is_sequence",
  Z6k "set",
  Z0w "are_unlike",
  Z0w "are_names",
  Z0w "InvalidTool",
  X7u (fun K=>(.ref (He.ga K "Row"))) X10 [("Row",true),("Tool",false),("Story",false)],
  Z6k "any",
  Z06 ["Tool"] "marks",
  Z06 ["Tool"] "shown",
  Z06 ["Tool"] "asked",
  Z06 ["Tool"] "rows",
  Z06 ["Tool"] "blank",
  X1z "Tool",
  Z0w "Tool",
  W3v "Tool" "read",
  Y0n "LETS" ["alike", "back", "late", "near"],
  Z0w "LETS",
  X57 "InvalidLets",
  Z0w "InvalidLets",
  Z0w "need_lets",
  Z06 ["Closure"] "maker",
  Z06 ["Closure"] "lets",
  X0l "NOBODY" "none",
  Z0w "begun",
  Z06 ["Closure"] "order",
  Z06 ["Closure"] "ahead",
  Z06 ["Closure"] "rows_done",
  Z06 ["Closure"] "resting",
  Z06 ["Step"] "row",
  Z06 ["Step"] "later",
  X56 "Closure",
  Z3i "Closure" "note",
  X56 "Row",
  Z3i "Row" "fits",
  X56 "Tool",
  Z3i "Tool" "row_for",
  Z3i "Tool" "becomes",
  Z06 ["Step"] "how",
  Z06 ["Step"] "source",
  X1z "Step",
  Z0w "Step",
  X0l "MINE" "mine",
  Z0w "given_step",
  X0l "THEIRS" "theirs",
  X0l "OTHER" "other",
  Z0w "delivery_steps",
  Z0w "looked_step",
  Z0w "look_steps",
  Z0w "is_let",
  Z0w "is_of_others",
  Z0w "whose_then",
  Z0w "movers",
  Z0w "carry_steps",
  Z0w "editions_to",
  Z0w "edition_steps",
  Z06 ["Closure", "Teller"] "maker",
  Z06 ["Closure", "Teller"] "lets",
  Z0w "all_steps",
  Z3i "Closure" "go_from",
  X1z "Closure",
  Z0w "Closure",
  Y0n "FAULTS" ["again", "fallen", "lost", "strange", "stuck", "vain"],
  Z0w "FAULTS",
  Z0w "shows_own",
  Z0w "is_stuck",
  Z0w "shows_fault",
  Z0w "steps_to_fault",
  Z0w "is_lost_from",
  Z0w "is_met",
  Z0w "faults",
  Z6k "sorted",
  Z0w "standings",
  X57 "InvalidFault",
  Z0w "InvalidFault",
  Z0w "need_fault",
  Z0w "happens",
  Z06 ["Teller"] "maker",
  Z06 ["Teller"] "lets",
  Z06 ["Teller"] "closure",
  Z06 ["Teller"] "events",
  Z06 ["Teller"] "at",
  Z06 ["Teller"] "number",
  Z06 ["Teller"] "many_keys",
  Z06 ["Teller"] "many_strangers",
  Z06 ["Teller"] "seen",
  Z06 ["Teller"] "owner",
  X1z "Teller",
  Z0w "Teller",
  X0l "LETTERS_tales" "bcdfghijklmnopqrstuvwxyz",
  X56 "Teller",
  Z3i "Teller" "fresh_key",
  Z3i "Teller" "path_to",
  W0b "WATCHED" 99,
  Z3i "Teller" "those_at",
  Z3i "Teller" "elder_stranger",
  Z06 ["Story", "Teller"] "events",
  Z3i "Teller" "give",
  Z3i "Teller" "check",
  Z3i "Teller" "fresh_stranger",
  Z3i "Teller" "wished",
  Z3i "Teller" "without",
  Z6k "dict",
  Z3i "Teller" "tell",
  Z3i "Teller" "settle",
  Z3i "Teller" "change_to",
  Z3i "Teller" "stay",
  Z3i "Teller" "build",
  Z3i "Teller" "mover_from",
  Z3i "Teller" "stranger_near",
  Z3i "Teller" "come",
  Z3i "Teller" "go",
  Z3i "Teller" "lose",
  Z0w "InvalidEvent",
  X0l "DIGITS" "0123456789",
  Z0w "number_in",
  Z0w "is_key",
  Z0w "place_in",
  Z0w "places_in",
  Z0w "move_in",
  Z0w "keys_of",
  Z0w "is_possible",
  Z06 ["Story"] "events",
  Z06 ["Story"] "editions",
  Z06 ["Story"] "moves",
  Z0w "needs_of",
  Z0w "all_needs",
  Z06 ["Story"] "asked_for",
  X1z "Story",
  Z0w "Story",
  Z0w "story",
  X8o "Tool" "__len__",
  Z0w "comes",
  Z0w "law",
  X8m ("Story",some "__init__") 0,
  X8m ("Tool",some "__init__") 0,
  X0j "InvalidText" "at" .ve,
  X0k "InvalidText" .ve,
  Y68 "InvalidText" "InvalidText.__init__" (PySem.Challenge.pw_wordingkept_k37_deciding_by_names.main.file),
  X0j "InvalidRow" "word" .ve,
  X0k "InvalidRow" .ve,
  Y68 "InvalidRow" "InvalidRow.__init__" (PySem.Challenge.pw_wordingkept_k37_deciding_by_names.main.file),
  X0j "InvalidTool" "word" .ve,
  X0k "InvalidTool" .ve,
  Y68 "InvalidTool" "InvalidTool.__init__" (PySem.Challenge.pw_wordingkept_k37_deciding_by_names.main.file),
  X0j "InvalidEvent" "at" .ve,
  X0k "InvalidEvent" .ve,
  Y68 "InvalidEvent" "InvalidEvent.__init__" (PySem.Challenge.pw_wordingkept_k37_deciding_by_names.main.file)]
def W1n:List PySem.Str:=["_wall", "WordError", "InvalidRow", "InvalidTool", "InvalidText", "InvalidEvent", "InvalidLets", "InvalidFault", "NoRow", "NoMark", "NOBODY", "MINE", "THEIRS", "OTHER", "Step", "begun", "is_of_others", "shows_own", "given_step", "looked_step", "delivery_steps", "look_steps", "is_let", "whose_then", "movers", "edition_steps", "editions_to", "carry_steps", "all_steps", "Closure"]
def W1o:List PySem.Str:=["is_stuck", "shows_fault", "steps_to_fault", "is_lost_from", "is_met", "HAPPENINGS", "FAULTS", "LETS", "BARRED", "LETTERS_words", "DIGITS", "MOST_LETTERS", "is_integer", "is_name", "is_key", "is_sequence", "are_unlike", "is_word", "number_in", "need_lets", "need_fault", "place_in", "places_in", "move_in", "keys_of", "is_possible", "Story", "all_needs", "needs_of", "WATCHED"]
def W1p:List PySem.Str:=["LETTERS_tales", "Teller", "happens", "faults", "standings", "comes", "story", "TAKINGS", "Row", "HEADS", "are_names", "names_in", "Tool", "_law_number"]
def looseL:List PySem.Str:=W1n++W1o++W1p
abbrev Rw:PySem.W.OpenRow:=PySem.W.OpenLaw.row PySem.Challenge.rw_wordingkept_k37_deciding_by_names
abbrev Vw:Program:=PySem.W.view Rw.prog [83]
abbrev hkL:PySem.W.Hook:=W1e 1500 tsL dsL xsL
def obL (s:PySem.W.SharedT):AlB:=Y7u 1500 tsL dsL xsL (HandSHeadRun.getT s)
theorem obL_eq (s:PySem.W.SharedT):obL s=hkL.obs s.abs:=X68 (HandSHeadRun.getT_eq s)
section
open PySem.W PySem.Calls
theorem W3l (w:World) (os:OsState):(HandSHeadRun.endF (HandSHeadRun.stepQ (HandSHeadRun.denQ HandSHeadRun.tabQ) Rw.prog w) 60000 Rw.prog w os).map (fun s=>HandSHeadRun.looksF Rw.prog (boot_heap w.params) s.abs)=some true:=by kernel_rfl
theorem W3m (w:World) (os:OsState):(HandSHeadRun.endF (HandSHeadRun.stepQ (HandSHeadRun.denQ HandSHeadRun.tabQ) Rw.prog w) 60000 Rw.prog w os).map (fun s=>HandSHeadRun.seenQ Vw looseL (importedModules Rw.prog.main.body) (fun s=>xlAt Vw [] s && recOk Rw.toRowW.records s) s.abs)=some (openGood Vw looseL):=by kernel_rfl
theorem W3n (w:World) (os:OsState):(HandSHeadRun.endF (HandSHeadRun.stepQ (HandSHeadRun.denQ HandSHeadRun.tabQ) Rw.prog w) 60000 Rw.prog w os).map (fun s=>Y7u 1500 (tsL.take 63) (dsL.take 26) [] (HandSHeadRun.getT s))=some (X39 (dsL.take 26) []):=by kernel_rfl
theorem W3o (w:World) (os:OsState):(HandSHeadRun.endF (HandSHeadRun.stepQ (HandSHeadRun.denQ HandSHeadRun.tabQ) Rw.prog w) 60000 Rw.prog w os).map (fun s=>Y7u 1500 ((tsL.drop 63).take 62) ((dsL.drop 26).take 25) [] (HandSHeadRun.getT s))=some (X39 ((dsL.drop 26).take 25) []):=by kernel_rfl
theorem W3p (w:World) (os:OsState):(HandSHeadRun.endF (HandSHeadRun.stepQ (HandSHeadRun.denQ HandSHeadRun.tabQ) Rw.prog w) 60000 Rw.prog w os).map (fun s=>Y7u 1500 ((tsL.drop 63).drop 62) ((dsL.drop 26).drop 25) xsL (HandSHeadRun.getT s))=some (X39 ((dsL.drop 26).drop 25) xsL):=by kernel_rfl
theorem runL (w:World):HandSHeadRun.RunEq Rw Vw hkL obL 60000 looseL w:=X7k (W3l w) (W3m w) fun os=>Y9g (W3n w os) (Y9g (W3o w os) (W3p w os))
end
end Lw
set_option maxHeartbeats 4000000
namespace Bv
open PySem PySem.Spec L2
open PyProof.Rows hiding St
variable [HasW]
section
variable {α:Type}
def Y4m (kvs:List (D × α)) (k:D):Option α:=(kvs.find? fun p=>decide (p.1=k)).map (·.2)
def Y8d (kvs:List (D × α)) (k:D) (v:α):List (D × α):=if (kvs.any fun p=>decide (p.1=k))=true then kvs.map (fun p=>if p.1=k then (p.1,v) else p) else kvs++[(k,v)]
abbrev KVR (R:α→V→Prop):List (D × α)→List (Key × V)→Prop:=Paired fun p q=>p.1.key?=some q.1∧R p.2 q.2
theorem key_inj {k k2:D} {q:Key} (h:k.key?=some q) (h2:k2.key?=some q):k=k2:=by
  cases k with
  | int i=>cases h; cases k2 with
    | int j=>cases h2; rfl
    | _=>cases h2
  | str x=>cases h; cases k2 with
    | str y=>cases h2; rfl
    | _=>cases h2
  | _=>cases h
theorem X04 {k k2:D} {q q2:Key} (h:k.key?=some q) (h2:k2.key?=some q2):decide (k=k2)=decide (q=q2):=by
  by_cases e:k=k2
  · subst e
    rw [h] at h2; cases h2
    rw [decide_eq_true rfl,decide_eq_true rfl]
  · have ne:¬ q=q2:=fun z=>e (key_inj (z ▸ h) h2)
    rw [decide_eq_false e,decide_eq_false ne]
theorem KVR.look {R:α→V→Prop} {k:D} {q:Key} (hk:k.key?=some q):∀ {kvs:List (D × α)} {ks:List (Key × V)},KVR R kvs ks→(∃ d v,Y4m kvs k=some d∧valV ks q=some v∧R d v) ∨ (Y4m kvs k=none∧valV ks q=none)
  | _,_, .nil => .inr ⟨rfl,rfl⟩
  | (k1,d1) :: r,(q1,v1) :: s, .cons h t=>by
    have e:=X04 h.1 hk
    unfold Y4m valV
    rw [List.find?_cons,List.find?_cons]
    have e:decide (k1=k)=decide (q1=q):=e
    cases c:decide (q1=q) with
    | true=>rw [c] at e; rw [e]; exact .inl ⟨d1,v1,rfl,rfl,h.2⟩
    | false=>rw [c] at e; rw [e]; exact KVR.look hk t
theorem KVR.any {R:α→V→Prop} {k:D} {q:Key} (hk:k.key?=some q):∀ {kvs:List (D × α)} {ks:List (Key × V)},KVR R kvs ks→(kvs.any fun p=>decide (p.1=k))=(ks.any fun p=>decide (p.1=q))
  | _,_, .nil=>rfl
  | (k1,d1) :: r,(q1,v1) :: s, .cons h t=>by
    rw [List.any_cons,List.any_cons,KVR.any hk t]
    show (decide (k1=k) || _)=(decide (q1=q) || _)
    rw [X04 h.1 hk]
theorem KVR.setAll {R:α→V→Prop} {k:D} {q:Key} {d:α} {v:V} (hk:k.key?=some q) (hv:R d v):∀ {kvs:List (D × α)} {ks:List (Key × V)},KVR R kvs ks→KVR R (kvs.map fun p=>if p.1=k then (p.1,d) else p) (ks.map fun p=>if p.1=q then (p.1,v) else p)
  | _,_, .nil => .nil
  | (k1,d1) :: r,(q1,v1) :: s, .cons h t=>by
    have e:=X04 h.1 hk
    refine .cons ?_ (KVR.setAll hk hv t)
    show (if k1=k then (k1,d) else (k1,d1)).1.key?=some (if q1=q then (q1,v) else (q1,v1)).1∧R (if k1=k then (k1,d) else (k1,d1)).2 (if q1=q then (q1,v) else (q1,v1)).2
    by_cases c:q1=q
    · have c2:k1=k:=of_decide_eq_true (by rw [show decide (k1=k)=decide (q1=q) from e]; exact decide_eq_true c)
      rw [if_pos c,if_pos c2]; exact ⟨h.1,hv⟩
    · have c2:¬ k1=k:=of_decide_eq_false (by rw [show decide (k1=k)=decide (q1=q) from e]; exact decide_eq_false c)
      rw [if_neg c,if_neg c2]; exact h
theorem KVR.put {R:α→V→Prop} {k:D} {q:Key} {d:α} {v:V} (hk:k.key?=some q) (hv:R d v) {kvs:List (D × α)} {ks:List (Key × V)} (r:KVR R kvs ks):KVR R (Y8d kvs k d) (putK ks q v):=by
  unfold Y8d putK
  rw [KVR.any hk r]
  split
  · exact KVR.setAll hk hv r
  · exact Paired.append r (.cons ⟨hk,hv⟩ .nil)
end
theorem AVk.kvr {K:PySem.W.Frag} {W:Wd} {H:Hp}:∀ {kvs:List (D × D)} {ks:List (Key × V)},AVk K W H kvs ks→KVR (AV K W H) kvs ks
  | _,_, .nil => .nil
  | _,_, .cons k a t => .cons ⟨k,a⟩ t.kvr
theorem KVR.avk {K:PySem.W.Frag} {W:Wd} {H:Hp}:∀ {kvs:List (D × D)} {ks:List (Key × V)},KVR (AV K W H) kvs ks→AVk K W H kvs ks
  | _,_, .nil => .nil
  | (_,_) :: _,(_,_) :: _, .cons h t => .cons h.1 h.2 (KVR.avk t)
theorem Y8z {K:PySem.W.Frag} {W:Wd} {H:Hp} {k:D} {v:V} {q:Key} (h:k.key?=some q) (a:AV K W H k v):v=kV q:=by
  cases k with
  | int i=>cases h; cases a; rfl
  | str x=>cases h; cases a; rfl
  | _=>cases h
theorem key_of {K:PySem.W.Frag} {W:Wd} {H:Hp} {k:D} {q:Key} (h:k.key?=some q) (ok:∀ x,k = .str x→PyData.strOk x=true):AV K W H k (kV q):=by
  cases k with
  | int i=>cases h; exact .int i
  | str x=>cases h; exact .str (ok x rfl)
  | _=>cases h
def Y11 (S:Sto):X→Option (List (D × X))
  | .d (.dic kvs)=>some (kvs.map fun p=>(p.1, .d p.2))
  | .d _=>none
  | .r n=>match S[n]? with
    | some (.dic kvs)=>some kvs
    | some (.fdc kvs)=>some kvs
    | _=>none
theorem KVR.ofData {K:PySem.W.Frag} {W:Wd} {ρ:List Addr} {H:Hp}:∀ {kvs:List (D × D)} {ks:List (Key × V)},AVk K W H kvs ks→KVR (AX K W ρ H) (kvs.map fun p=>(p.1,X.d p.2)) ks
  | _,_, .nil => .nil
  | _,_, .cons k a t => .cons ⟨k, .d a⟩ (KVR.ofData t)
theorem Z81 {K:PySem.W.Frag} {Z:Wd} {ρ:List Addr} {S:Sto} {H:Hp} {x:Bv.X} {v:V} {kvs:List (D × Bv.X)} (st:Sta K Z ρ S H) (a:AX K (Wn Z ρ) ρ H x v) (h:Y11 S x=some kvs):∃ p ks,v = .ref p∧Rd H p (.dK ks)∧KVR (AX K (Wn Z ρ) ρ H) kvs ks:=by
  cases a with
  | d a =>
    cases a with
    | dic w e hs=>cases h; exact ⟨_,_,rfl, .inr ⟨_,e⟩,KVR.ofData hs⟩
    | _=>cases h
  | r e =>
    rename_i n a
    unfold Y11 at h
    cases q:S[n]? with
    | none=>simp only [q] at h; cases h
    | some o =>
      simp only [q] at h
      cases o with
      | dic kvs=>cases h; obtain ⟨ks,e2,r⟩:=st.ob n _ _ q e; exact ⟨_,ks,rfl, .inl e2,r⟩
      | fdc kvs=>cases h; obtain ⟨ob,ks,e2,r⟩:=st.ob n _ _ q e; exact ⟨_,ks,rfl, .inr ⟨ob,e2⟩,r⟩
      | _=>cases h
def dkX (S:Sto) (x y:Bv.X):Option (List (D × Bv.X) × D):=(Y11 S x).bind fun kvs=>match y with
  | .d k=>if k.key?.isSome then some (kvs,k) else none
  | .r _=>none
theorem X83 {S:Sto} {x y:Bv.X} {p:List (D × Bv.X) × D} (h:dkX S x y=some p):Y11 S x=some p.1∧y = .d p.2∧∃ q,p.2.key?=some q:=by
  obtain ⟨kvs,h1,h2⟩:=Option.bind_eq_some_iff.mp h
  cases y with
  | d k =>
    have h2:(if k.key?.isSome then some (kvs,k) else none)=some p:=h2
    split at h2
    · rename_i c
      cases h2
      exact ⟨h1,rfl,Option.isSome_iff_exists.mp c⟩
    · cases h2
  | r _=>cases h2
def X4z:Bv.X→Bool
  | .d .non=>true
  | _=>false
theorem X3l {y:Bv.X} (h:X4z y=true):y = .d .non:=by
  cases y with
  | d k=>cases k <;> first | rfl | cases h
  | r _=>cases h
def W09 (S:Sto) (x y:Bv.X):R Bv.X:=Y3b ((dkX S x y).bind fun p=>Y4m p.1 p.2) S
def Z7e (mo mi:M):M:=fun e S=>(mo e S).bind fun x S1=>(mi e S1).bind fun y S2=>W09 S2 x y
def W20 (S:Sto) (y x:Bv.X):Option Bool:=match dkX S x y with
  | some p=>some (Y4m p.1 p.2).isSome
  | none=>if X4z y && (Y11 S x).isSome then some false else none
def X08 (neg:Bool) (mi mo:M):M:=fun e S=>(mi e S).bind fun y S1=>(mo e S1).bind fun x S2=>Y3b ((W20 S2 y x).map fun b => .d (.bl (b ^^ neg))) S2
def X07 (mo mi:M):M:=fun e S=>(mo e S).bind fun x S1=>if (Y11 S1 x).isSome then (mi e S1).bind fun y S2=>Y3b ((dkX S2 x y).map fun p=>(Y4m p.1 p.2).getD (.d .non)) S2 else .bad
section
variable {X:Cx} {Wx:WX} {pos apos cpos:Pos} {o i e f:Expr} {mo mi mx:M}
theorem X01 {K:PySem.W.Frag} {Z:Wd} {ρ:List Addr} {S:Sto} {H:Hp} {x y:Bv.X} {v u:V} {p:List (D × Bv.X) × D} (st:Sta K Z ρ S H) (a:AX K (Wn Z ρ) ρ H x v) (b:AX K (Wn Z ρ) ρ H y u) (h:dkX S x y=some p) :
    ∃ c ks q,v = .ref c∧Rd H c (.dK ks)∧DGet H c u (valV ks q)∧((∃ d w,Y4m p.1 p.2=some d∧valV ks q=some w∧AX K (Wn Z ρ) ρ H d w) ∨ (Y4m p.1 p.2=none∧valV ks q=none)):=by
  obtain ⟨h1,h2,q,hk⟩:=X83 h
  subst h2
  obtain ⟨c,ks,rfl,r,kv⟩:=Z81 st a h1
  cases b with
  | d b=>exact ⟨c,ks,q,rfl,r, .inl ⟨ks,q,r,Y8z hk b,rfl⟩,kv.look hk⟩
theorem Z51 (hu:X.A.units + 1 < cLine) (ho:ME X Wx o mo) (hi:ME X Wx i mi) (hs:NoSl i:=by intro _ _; rfl):ME X Wx (.Subscript o i pos) (Z7e mo mi) :=
  PE.of (pe_dget hu ho hi hs) fun σ H Q ⟨Z,ρ,e,S,st,ev,p⟩=>X9 (rel:=AX X.K) st ev p fun ρ1 H1 v x S1 st1 g1 ev1 a1 p1=>X9 (rel:=AX X.K) st1 ev1 p1 fun ρ2 H2 u y S2 st2 g2 ev2 a2 p2=>by
    have ax:=a1.mv (g2.mv st1) g2.pre
    obtain ⟨d,hl,p3⟩:=(show Z43 X.K Z ρ2 H2 Wx σ Q (W09 S2 x y) from p2).opt
    obtain ⟨p,h1,h2⟩:=Option.bind_eq_some_iff.mp hl
    obtain ⟨c,ks,q,rfl,r,g,lk⟩:=X01 st2 ax a2 h1
    rcases lk with ⟨d2,w,e1,e2,aw⟩ | ⟨e1,_⟩
    · rw [h2] at e1; cases e1
      rw [e2] at g
      exact ⟨c,w,rfl,g,W1.ret0 p3 st2 aw⟩
    · rw [h2] at e1; cases e1
theorem X82 {neg:Bool} {σ:L2.St} {H:Hp} {Q:VK} (h:RE X.K Wx (X08 neg mi mo) σ H Q):(RE X.K Wx mi) σ H fun y H1=>(RE X.K Wx mo) σ H1 fun x H2=>(∃ a ov,x = .ref a∧DGet H2 a y ov∧Q (.bl (ov.isSome ^^ neg)) H2) ∨ ∃ a kvs,x = .ref a∧y = .non∧Rd H2 a (.dK kvs)∧Q (.bl neg) H2:=by
  obtain ⟨Z,ρ,e,S,st,ev,p⟩:=h
  refine X9 (rel:=AX X.K) st ev p fun ρ1 H1 u y S1 st1 g1 ev1 a1 p1=>X9 (rel:=AX X.K) st1 ev1 p1 fun ρ2 H2 v x S2 st2 g2 ev2 a2 p2=>?_
  have ay:=a1.mv (g2.mv st1) g2.pre
  obtain ⟨d,hl,p3⟩:=(show Z43 X.K Z ρ2 H2 Wx σ Q (Y3b ((W20 S2 y x).map fun b => .d (.bl (b ^^ neg))) S2) from p2).opt
  obtain ⟨b,hb,rfl⟩:=Option.map_eq_some_iff.mp hl
  unfold W20 at hb
  cases h1:dkX S2 x y with
  | some p =>
    rw [h1] at hb
    cases hb
    obtain ⟨c,ks,q,rfl,r,g,lk⟩:=X01 st2 a2 ay h1
    have e:(Y4m p.1 p.2).isSome=(valV ks q).isSome:=by rcases lk with ⟨d2,w,e1,e2,_⟩ | ⟨e1,e2⟩ <;> rw [e1,e2] <;> rfl
    rw [e] at p3
    exact .inl ⟨c,_,rfl,g,W1.ret0 p3 st2 (.d (.bl _))⟩
  | none =>
    rw [h1] at hb
    have hb:(if X4z y && (Y11 S2 x).isSome then some false else none)=some b:=hb
    split at hb
    · rename_i c
      cases hb
      obtain ⟨c1,c2⟩:=Bool.and_eq_true_iff.mp c
      obtain ⟨kvs,hd⟩:=Option.isSome_iff_exists.mp c2
      have hy:=X3l c1
      subst hy
      obtain ⟨p,ks,rfl,r,kv⟩:=Z81 st2 a2 hd
      cases ay with
      | d ay =>
        cases ay
        refine .inr ⟨p,ks,rfl,rfl,r,W1.ret0 p3 st2 ?_⟩
        rw [Bool.false_xor]
        exact .d (.bl _)
    · cases hb
theorem X5t (hu:X.A.units + 1 < cLine) (hi:ME X Wx i mi) (ho:ME X Wx o mo):PC X .In i o (RE X.K Wx (X08 false mi mo)):=⟨fun pins s σ H Q I h=>(pc_dinN hu hi ho).run pins s σ H Q I (by
  have q:=X82 h
  simp only [Bool.xor_false] at q
  exact q)⟩
theorem X79 (hu:X.A.units + 1 < cLine) (hi:ME X Wx i mi) (ho:ME X Wx o mo) (hb:behindInMarks .In o=false:=by rfl):ME X Wx (.Compare i [.In] [o] pos) (X08 false mi mo):=pe_cmp (X5t hu hi ho) hb
theorem W1y {op:CmpOp} {m:M} (h:PC X op i o (RE X.K Wx m)) (hb:behindInMarks op o=false):MT X Wx (.Compare i [op] [o] pos) (Q0 m):=⟨fun pins s σ H Q I hq=>(pt_cmp h hb).run pins s σ H Q I (by
  obtain ⟨Z,ρ,e,S,st,ev,p⟩:=hq
  refine X9 (rel:=AX X.K) st ev p fun ρ1 H1 v x S1 st1 g1 ev1 a1 p1=>?_
  match x,a1,p1 with
  | .d (.bl b), .d (.bl _),p1=>exact ⟨b,rfl,W1.ret0 p1 st1 rfl⟩
  | .d (.non),_,p1=>exact p1.elim
  | .d (.int _),_,p1=>exact p1.elim
  | .d (.str _),_,p1=>exact p1.elim
  | .d (.tup _),_,p1=>exact p1.elim
  | .d (.lst _),_,p1=>exact p1.elim
  | .d (.dic _),_,p1=>exact p1.elim
  | .d (.obj _ _),_,p1=>exact p1.elim
  | .d (.gl _),_,p1=>exact p1.elim
  | .d (.scr _),_,p1=>exact p1.elim
  | .r _,_,p1=>exact p1.elim)⟩
theorem W1x (hu:X.A.units + 1 < cLine) (hi:ME X Wx i mi) (ho:ME X Wx o mo) (hb:behindInMarks .In o=false:=by rfl):MT X Wx (.Compare i [.In] [o] pos) (Q0 (X08 false mi mo)):=W1y (X5t hu hi ho) hb
theorem X2w (hu:X.A.units + 1 < cLine) (ho:ME X Wx o mo) (hi:ME X Wx e mi) (m:M1 X o "get" apos e cpos:=by exact ⟨by rfl,by rfl,by rfl,by rfl⟩):ME X Wx (.Call (.Attribute o "get" apos) [e] [] cpos) (X07 mo mi) :=
  PE.of (pe_dget1 hu ho hi m) fun σ H Q ⟨Z,ρ,e,S,st,ev,p⟩=>X9 (rel:=AX X.K) st ev p fun ρ1 H1 v x S1 st1 g1 ev1 a1 p1=>by
    have p1:Z43 X.K Z ρ1 H1 Wx σ Q (if (Y11 S1 x).isSome then (mi e S1).bind fun y S2=>Y3b ((dkX S2 x y).map fun p=>(Y4m p.1 p.2).getD (.d .non)) S2 else .bad):=p1
    by_cases c:(Y11 S1 x).isSome=true
    case neg=>rw [if_neg c] at p1; exact p1.elim
    rw [if_pos c] at p1
    obtain ⟨kvs1,hd⟩:=Option.isSome_iff_exists.mp c
    obtain ⟨a,ks1,rfl,r1,_⟩:=Z81 st1 a1 hd
    refine ⟨a,rfl, .inl ⟨ks1,r1⟩,X9 (rel:=AX X.K) st1 ev1 p1 fun ρ2 H2 u y S2 st2 g2 ev2 a2 p2=>?_⟩
    have ax:=a1.mv (g2.mv st1) g2.pre
    obtain ⟨d,hl,p3⟩:=(show Z43 X.K Z ρ2 H2 Wx σ Q (Y3b ((dkX S2 x y).map fun p=>(Y4m p.1 p.2).getD (.d .non)) S2) from p2).opt
    obtain ⟨p,h1,rfl⟩:=Option.map_eq_some_iff.mp hl
    obtain ⟨c,ks,q,e0,r,g,lk⟩:=X01 st2 ax a2 h1
    cases e0
    refine ⟨_,g,?_⟩
    rcases lk with ⟨d2,w,e1,e2,aw⟩ | ⟨e1,e2⟩
    · rw [e1] at p3; rw [e2]; exact W1.ret0 p3 st2 aw
    · rw [e1] at p3; rw [e2]; exact W1.ret0 p3 st2 (.d .non)
end
end Bv
namespace Bv
open PySem PySem.Spec L2
open PyProof.Rows hiding St
variable [HasW]
def tFz (t:TE):TE:=fun σ H Q=>t σ H fun v H1=>Q v H1 ∨ ∃ a u,H1 a=some u∧Mut (some u)∧∀ od,Q v (upd H1 a (.frz od u))
theorem X7e {X:Cx} {e:Expr} {t:TE} (h:PE X e t):PE X e (tFz t):=⟨fun pins s σ H Q I q=>thn (h.run pins s σ H _ I q) fun u s1 ⟨v,H1,I1,r,w⟩=>by
  rcases w with w | ⟨a,o,ha,mu,w⟩
  · exact ⟨v,H1,I1,r,w⟩
  · obtain ⟨od,I2⟩:=I1.lock ha mu
    exact ⟨v,_,I2,r,w od⟩⟩
def X5v (S:Sto) (x y:Bv.X):Option (Nat × List (D × Bv.X) × D):=match x with
  | .r n=>(match S[n]? with
    | some (.dic kvs)=>(match y with
      | .d k=>if k.key?.isSome && decide (kvs.length < sizeLine) then some (n,kvs,k) else none
      | .r _=>none)
    | _=>none)
  | .d _=>none
theorem X5w {S:Sto} {x y:Bv.X} {p:Nat × List (D × Bv.X) × D} (h:X5v S x y=some p):x = .r p.1∧S[p.1]?=some (.dic p.2.1)∧y = .d p.2.2∧(∃ q,p.2.2.key?=some q)∧p.2.1.length < sizeLine:=by
  unfold X5v at h
  cases x with
  | d _=>cases h
  | r n =>
    cases q:S[n]? with
    | none=>simp only [q] at h; cases h
    | some o =>
      simp only [q] at h
      cases o with
      | dic kvs =>
        cases y with
        | r _=>cases h
        | d k =>
          have h:(if k.key?.isSome && decide (kvs.length < sizeLine) then some (n,kvs,k) else none)=some p:=h
          split at h
          · rename_i c
            cases h
            obtain ⟨c1,c2⟩:=Bool.and_eq_true_iff.mp c
            exact ⟨rfl,q,rfl,Option.isSome_iff_exists.mp c1,of_decide_eq_true c2⟩
          · cases h
      | _=>cases h
def Y24 (mo mi mv:M):MS:=fun e S=>(mv e S).so e fun z S1=>(mo e S1).so e fun x S2=>(mi e S2).so e fun y S3=>match X5v S3 x y with
  | some p => .go (.nx e) (S3.set p.1 (.dic (Y8d p.2.1 p.2.2 z)))
  | none => .bad
theorem KVR.mv {K:PySem.W.Frag} {W W':Wd} {ρ ρ':List Addr} {H H':Hp} (m:Mv W H W' H') (p:ρ <+: ρ') {kvs:List (D × X)} {ks:List (Key × V)} (h:KVR (AX K W ρ H) kvs ks):KVR (AX K W' ρ' H') kvs ks:=Paired.mapP h fun _ _ q=>⟨q.1,q.2.mv m p⟩
section
variable {X:Cx} {Wx:WX} {pos pos' apos cpos:Pos} {o i e f value tg:Expr} {mo mi mv m:M}
theorem Y0g (hu:X.A.units + 1 < cLine) (ho:ME X Wx o mo) (hi:ME X Wx i mi) (hv:ME X Wx value mv) (hs:swapsWith value (some (.Subscript o i pos')) pos.line X.env=pure false:=by rfl):MP X Wx (.Assign [.Subscript o i pos'] value pos) (Y24 mo mi mv) :=
  PS.of (ps_dput hu ho hi hv hs) fun D σ H ⟨Z,ρ,e,S,st,ev,q⟩=>by
    refine Z1r (rel:=AX X.K) st ev q fun ρ1 H1 w z S1 s1 g1 ev1 a1 q1=>Z1r (rel:=AX X.K) s1 ev1 q1 fun ρ2 H2 v x S2 s2 g2 ev2 a2 q2=>Z1r (rel:=AX X.K) s2 ev2 q2 fun ρ3 H3 u y S3 s3 g3 ev3 a3 q3=>?_
    have az:=(a1.mv (g2.mv s1) g2.pre).mv (g3.mv s2) g3.pre
    have ax:=a2.mv (g3.mv s2) g3.pre
    have q3:Z28 X.K Z ρ3 H3 Wx D (match X5v S3 x y with
      | some p => .go (.nx e) (S3.set p.1 (.dic (Y8d p.2.1 p.2.2 z)))
      | none => .bad):=q3
    cases h:X5v S3 x y with
    | none=>rw [h] at q3; exact q3.elim
    | some p =>
      rw [h] at q3
      have q9:Z28 X.K Z ρ3 H3 Wx D (.go (.nx e) (S3.set p.1 (.dic (Y8d p.2.1 p.2.2 z)))):=q3
      obtain ⟨e5,hS,e6,⟨k,hk⟩,hl⟩:=X5w h
      subst e5 e6
      cases ax with
      | r ha =>
        rename_i a
        obtain ⟨ks,e1,kv⟩:=s3.ob _ _ _ hS ha
        cases a3 with
        | d a3 =>
          have hu:=Y8z hk a3
          subst hu
          have kv2:KVR (AX X.K (Wn Z ρ3) ρ3 H3) (Y8d p.2.1 p.2.2 z) (putK ks k w):=KVR.put hk az kv
          have inρ:a ∈ ρ3:=List.mem_of_getElem? ha
          have m:Mv (Wn Z ρ3) H3 (Wn Z ρ3) (upd H3 a (.dK (putK ks k w))):=fun b o hb z=>⟨hb,by rw [upd_ne (fun y=>hb (.inr (by rw [y]; exact inρ)))]; exact z⟩
          obtain ⟨s4,g4⟩:=s3.put (o' := .dic (Y8d p.2.1 p.2.2 z)) (u := .dK (putK ks k w)) ha (fun _ _ z=>by rw [e1] at z; cases z) ⟨_,upd_same,KVR.mv m (List.prefix_refl _) kv2⟩
          exact ⟨a,_,rfl, .k e1 (by rw [← Paired.length kv]; exact hl),q9 ρ3 _ _ s4 g4 (ev3.mv (g4.mv s3) (List.prefix_refl _))⟩
def Y4n:M:=fun _ S => .ok (.r S.length) (S++[.dic []])
def X78:M:=fun _ S => .ok (.d (.dic [])) S
theorem Y3m:ME X Wx (.Dict [] [] pos) Y4n:=PE.of pe_dnewK fun σ H Q ⟨Z,ρ,e,S,st,ev,p⟩=>fun a ha=>by
  have k:=U3 (o := .dK []) ha
  obtain ⟨s1,g1⟩:=st.push (o' := .dic []) ha k ⟨[],upd_same, .nil⟩
  exact p _ _ _ s1 g1 (.r (by rw [st.len]; simp))
theorem X9k:ME X Wx (.Dict [] [] pos) X78:=PE.of (X7e pe_dnewK) fun σ H Q ⟨Z,ρ,e,S,st,ev,p⟩=>fun a ha => .inr ⟨a,_,upd_same,trivial,fun od=>by
  have k:∀ b o,H b=some o→upd (upd H a (.dK [])) a (.frz od (.dK [])) b=some o:=fun b o q=>by rw [upd_ne (ne_of_none q ha),upd_ne (ne_of_none q ha)]; exact q
  exact p ρ _ _ (st.grow k) (Go.grow k) (.d (.dic (st.fresh ha) upd_same .nil))⟩
end
def W2s (S:Sto):Bv.X→Option (List (D × Bv.X) × Sto)
  | .d (.dic kvs)=>some (kvs.map fun p=>(p.1, .d p.2),S)
  | .d _=>none
  | .r n=>match S[n]? with
    | some (.dic kvs)=>some (kvs,S.set n (.fdc kvs))
    | some (.fdc kvs)=>some (kvs,S)
    | _=>none
theorem W1d {K:PySem.W.Frag} {Z:Wd} {ρ:List Addr} {S:Sto} {H:Hp} {x:Bv.X} {v:V} {p:List (D × Bv.X) × Sto} (st:Sta K Z ρ S H) (a:AX K (Wn Z ρ) ρ H x v) (h:W2s S x=some p) :
    ∃ c ks,v = .ref c∧KVR (AX K (Wn Z ρ) ρ H) p.1 ks∧((p.2=S∧∃ od,H c=some (.frz od (.dK ks))) ∨ (H c=some (.dK ks)∧∀ od,Sta K Z ρ p.2 (upd H c (.frz od (.dK ks)))∧Go ρ H ρ (upd H c (.frz od (.dK ks)))∧Mv (Wn Z ρ) H (Wn Z ρ) (upd H c (.frz od (.dK ks))))):=by
  cases a with
  | d a =>
    cases a with
    | dic w e hs=>cases h; exact ⟨_,_,rfl,KVR.ofData hs, .inl ⟨rfl,_,e⟩⟩
    | _=>cases h
  | r e =>
    rename_i n a
    unfold W2s at h
    cases q:S[n]? with
    | none=>simp only [q] at h; cases h
    | some o =>
      simp only [q] at h
      cases o with
      | fdc kvs=>cases h; obtain ⟨ob,ks,e2,r⟩:=st.ob n _ _ q e; exact ⟨_,ks,rfl,r, .inl ⟨rfl,ob,e2⟩⟩
      | dic kvs =>
        cases h
        obtain ⟨ks,e2,r⟩:=st.ob n _ _ q e
        refine ⟨_,ks,rfl,r, .inr ⟨e2,fun od=>?_⟩⟩
        have inρ:a ∈ ρ:=List.mem_of_getElem? e
        have m:Mv (Wn Z ρ) H (Wn Z ρ) (upd H a (.frz od (.dK ks))):=fun b o hb z=>⟨hb,by rw [upd_ne (fun y=>hb (.inr (by rw [y]; exact inρ)))]; exact z⟩
        obtain ⟨s4,g4⟩:=st.put (o' := .fdc kvs) (u := .frz od (.dK ks)) e (fun _ _ z=>by rw [e2] at z; cases z) ⟨od,ks,upd_same,KVR.mv m (List.prefix_refl _) r⟩
        exact ⟨s4,g4,m⟩
      | _=>cases h
def W0i (g:List (D × Bv.X)→Option (List Bv.X)) (S:Sto) (x:Bv.X):R (List Bv.X × Lk):=match W2s S x with
  | some p=>Y3b ((g p.1).map fun ys=>(ys,Lk.free)) p.2
  | none => .bad
def X5j:D→Bool
  | .str x=>PyData.strOk x
  | _=>true
def keysOf (kvs:List (D × Bv.X)):Option (List Bv.X):=if kvs.all (fun p=>X5j p.1) then some (kvs.map fun p => .d p.1) else none
def Y4i (m:M):MIt:=fun e S=>(m e S).bind fun x S1=>W0i keysOf S1 x
theorem X7v {K:PySem.W.Frag} {g:List (D × Bv.X)→Option (List Bv.X)} {Jt:Addr→Obj→List (Key × V)→It}
    (sv:∀ {W:Wd} {ρ:List Addr} {H:Hp} {kvs:List (D × Bv.X)} {ks:List (Key × V)} {ys:List Bv.X} {c:Addr} {od:Obj},KVR (AX K W ρ H) kvs ks→g kvs=some ys→H c=some (.frz od (.dK ks))→Srv K W ρ H (ys, .free) (Jt c od ks))
    {Z:Wd} {ρ:List Addr} {H:Hp} {S:Sto} {σ:L2.St} {R:It→Hp→Prop} {x:Bv.X} {v:V} (st:Sta K Z ρ S H) (a:AX K (Wn Z ρ) ρ H x v) (p:W1 (Srv K) K Z ρ H Wx σ R (W0i g S x)) :
    (∃ c od ks,v = .ref c∧H c=some (.frz od (.dK ks))∧R (Jt c od ks) H) ∨ ∃ c ks,v = .ref c∧H c=some (.dK ks)∧∀ od,R (Jt c od ks) (upd H c (.frz od (.dK ks))):=by
  unfold W0i at p
  cases h:W2s S x with
  | none=>rw [h] at p; exact p.elim
  | some q =>
    rw [h] at p
    obtain ⟨w,hw,p2⟩:=W1.opt p
    obtain ⟨ys,hg,rfl⟩:=Option.map_eq_some_iff.mp hw
    obtain ⟨c,ks,rfl,kv,r⟩:=W1d st a h
    rcases r with ⟨e,od,hc⟩ | ⟨hc,r⟩
    · rw [e] at p2
      exact .inl ⟨c,od,ks,rfl,hc,W1.ret0 p2 st (sv kv hg hc)⟩
    · refine .inr ⟨c,ks,rfl,hc,fun od=>?_⟩
      obtain ⟨s4,g4,m⟩:=r od
      exact p2 ρ _ _ s4 g4 (sv (KVR.mv m (List.prefix_refl _) kv) hg upd_same)
theorem KVR.at_ {K:PySem.W.Frag} {W:Wd} {ρ:List Addr} {H:Hp} {kvs:List (D × Bv.X)} {ks:List (Key × V)} {j:Nat} {k:Key} {v:V} (h:KVR (AX K W ρ H) kvs ks) (e:ks[j]?=some (k,v)):∃ p,kvs[j]?=some p∧p.1.key?=some k∧AX K W ρ H p.2 v:=by
  obtain ⟨p,h1,h2⟩:=Y43 h e
  exact ⟨p,h1,h2.1,h2.2⟩
theorem W25 {K:PySem.W.Frag} {W:Wd} {H:Hp} {k:D} {q:Key} (h:k.key?=some q) (ok:X5j k=true):AV K W H k (kV q):=key_of h fun x e=>by subst e; exact ok
theorem KVR.len {α:Type} {R:α→V→Prop} {kvs:List (D × α)} {ks:List (Key × V)} (h:KVR R kvs ks):kvs.length=ks.length:=Paired.length h
theorem X7t {K:PySem.W.Frag} {W:Wd} {ρ:List Addr} {H:Hp} {kvs:List (D × Bv.X)} {ks:List (Key × V)} {ys:List Bv.X} {c:Addr} {od:Obj} (kv:KVR (AX K W ρ H) kvs ks) (hg:keysOf kvs=some ys) (hc:H c=some (.frz od (.dK ks))):Srv K W ρ H (ys, .free) (Itk c od ks):=by
  unfold keysOf at hg
  obtain ⟨ok,hg⟩:=Z5k hg
  cases hg
  refine ⟨fun H=>H c=some (.frz od (.dK ks)),fun i H x H'=>H'=H∧∃ k v,ks[i]?=some (k,v)∧x=kV k,?_,fun Z2 ρ2 S2 H2 st m p fz _=>⟨fz _ _ _ hc,fun i x H3 y=>?_⟩⟩
  · have e:(kvs.map fun p=>Bv.X.d p.1,Lk.free).1.length=ks.length:=by rw [List.length_map]; exact kv.len
    rw [e]
    exact ⟨fun i _ hi g=>⟨g,hi⟩,fun _ g=>⟨g,Nat.le_refl _⟩,fun _ _ _ _ _ _ y=>y⟩
  · obtain ⟨rfl,k,v,hk,rfl⟩:=y
    obtain ⟨q,h1,h2,_⟩:=kv.at_ hk
    refine ⟨Same.rfl', .d q.1,by simp [h1], .d (W25 h2 (List.all_eq_true.mp ok q (List.mem_of_getElem? h1)))⟩
section
variable {X:Cx} {Wx:WX} {apos cpos tpos:Pos} {e tg:Expr} {m:M} {elts:List Expr} {kk:Nat}
theorem Y19 (h:ME X Wx e m):MI X Wx tg e (Y4i m):=PI.of (pi_keys (X7e h)) fun σ H R ⟨Z,ρ,e,S,st,ev,p⟩=>X9 (rel:=AX X.K) st ev p fun ρ1 H1 v x S1 st1 g1 ev1 a1 p1=>by
  rcases X7v X7t st1 a1 p1 with ⟨c,od,ks,rfl,hc,r⟩ | ⟨c,ks,rfl,hc,r⟩
  · exact .inl ⟨c,od,rfl, .inl ⟨ks,hc,r⟩⟩
  · exact .inr ⟨c,_,hc,trivial,fun od=>⟨c,od,rfl, .inl ⟨ks,upd_same,r od⟩⟩⟩
end
end Bv
namespace Bv
open PySem PySem.Spec L2
open PyProof.Rows hiding St
variable [HasW]
theorem W07 {J:It} {n:Nat} {G:Hp→Prop} {Y:Nat→Hp→V→Hp→Prop} (w:Walk J n G Y) {g:TG} {tt:TT} {tk tv:TE} {vs:List Nat} {σ:L2.St} {H1:Hp} {D:Addr} {Qd:Hp→Prop} (Pv:Nat→Hp→Prop) (h0:Pv 0 (upd H1 D (.dK []))) (hG:∀ i H,i ≤ n→Pv i H→G H)
    (hs:∀ i x H H',i < n→Pv i H→Y i H x H'→g x (wipe σ vs) H' fun σ2 H2=>wipe σ2 vs=wipe σ vs∧tt σ2 H2 fun b H3 =>
      if b=true then tk σ2 H3 fun y H4=>tv σ2 H4 fun z H5=>∃ kvs k,y=kV k∧H5 D=some (.dK kvs)∧kvs.length < sizeLine∧Pv (i + 1) (upd H5 D (.dK (putK kvs k z))) else Pv (i + 1) H3) (hd:∀ H,Pv n H→Qd H) :
    ∃ W:Nat→Nat→Hp→Prop,(∃ m,W 0 m (upd H1 D (.dK [])))∧∀ i m H,W i m H →
      (J.stop i H∧Qd H) ∨ (J.go i H∧∃ Nx:Hp→Prop,(∀ H',Nx H'→∃ m',m' < m∧W (i + 1) m' H')∧∀ x H',J.yld i H x H'→g x (wipe σ vs) H' fun σ2 H2=>wipe σ2 vs=wipe σ vs∧tt σ2 H2 fun b H3 =>
        if b=true then tk σ2 H3 fun y H4=>tv σ2 H4 fun z H5=>∃ kvs k,y=kV k∧H5 D=some (.dK kvs)∧kvs.length < sizeLine∧Nx (upd H5 D (.dK (putK kvs k z))) else Nx H3):=by
  refine ⟨fun i m H=>m=n - i∧i ≤ n∧Pv i H,⟨n,(Nat.sub_zero n).symm,Nat.zero_le _,h0⟩,fun i m H ⟨em,hi,p⟩=>?_⟩
  subst em
  have q:=hG i H hi p
  rcases Nat.lt_or_ge i n with hlt | hge
  · exact .inr ⟨w.goes i H hlt q,Pv (i + 1),fun H' p'=>⟨n - (i + 1),by omega,rfl,hlt,p'⟩,fun x H' y=>hs i x H H' hlt p (w.yields i H x H' hlt q y)⟩
  · obtain rfl:i=n:=by omega
    exact .inl ⟨w.stops H q,hd H p⟩
def dcK (acc:List (D × D)) (y z:X):Option (List (D × D)):=match y,z with
  | .d k, .d v=>if k.key?.isSome && (X5j k && decide (acc.length < sizeLine)) then some (Y8d acc k v) else none
  | _,_=>none
def dcL (t:Tg) (l:Lk) (mt:MG Bool) (mk mv:M) (e:Ev):List (D × D)→List X→Sto→R (List (D × D))
  | acc,[],S=>if l.ok S then .ok acc S else .bad
  | acc,x :: xs,S=>if l.ok S then (match t.asg S x e with
    | some e1=>(mt e1 S).ne.bind fun b S1=>if b then (mk e1 S1).ne.bind fun y S2=>(mv e1 S2).ne.bind fun z S3=>(match dcK acc y z with
        | some acc2=>dcL t l mt mk mv e acc2 xs S3
        | none => .bad) else dcL t l mt mk mv e acc xs S1
    | none => .bad) else .bad
def W0p (t:Tg) (mi:MIt) (mt:MG Bool) (mk mv:M) (vs:List Nat):M:=fun e S=>(mi e S).bind fun p S1=>(dcL t p.2 mt mk mv (U7 e vs) [] p.1 S1).bind fun kvs S2 => .ok (.d (.dic kvs)) S2
section
variable {X:Cx} {Wx:WX} {pos:Pos} {tg iter kx vx c:Expr} {ifs:List Expr} {mi:MIt} {mt:MG Bool} {mk mv:M} {t:Tg} {vs:List Nat}
theorem W08 (hs:∀ i ∈ t.slots,i ∈ vs) {σ:L2.St} {H:Hp} {Q:VK} (h:RE X.K Wx (W0p t mi mt mk mv vs) σ H Q):tDc (RG (Srv X.K) X.K Wx mi) (TGt X.K t) (RB X.K WX0 mt) (RE X.K WX0 mk) (RE X.K WX0 mv) vs σ H (fun v H1=>Q v H1 ∨ ∃ a u,H1 a=some u∧Mut (some u)∧∀ od,Q v (upd H1 a (.frz od u))):=by
  obtain ⟨Z,ρ,e,S,st,ev,p⟩:=h
  refine X9 (rel:=Srv X.K) st ev p fun ρ1 H1 J p0 S1 st1 g1 ev1 srv p1=>?_
  obtain ⟨ys,l⟩:=p0
  obtain ⟨G,Y,w,sv⟩:=srv
  intro D0 hD
  let fin:List (D × D)→Sto→R Bv.X:=fun kvs S2 => .ok (.d (.dic kvs)) S2
  have p1:Z43 X.K Z ρ1 H1 Wx σ Q ((dcL t l mt mk mv (U7 e vs) [] ys S1).bind fin):=p1
  have sv:∀ (Z2:Wd) (ρ2:List Addr) (S2:Sto) (H2:Hp),Sta X.K Z2 ρ2 S2 H2→Mv (Wn Z ρ1) H1 (Wn Z2 ρ2) H2→ρ1 <+: ρ2→(∀ a ob u,H1 a=some (.frz ob u)→H2 a=some (.frz ob u))→l.ok S2=true→G H2 ∧
    ∀ i x H3,Y i H2 x H3→Same H2 H3∧∃ y,ys[i]?=some y∧AX X.K (Wn Z2 ρ2) ρ2 H3 y x:=sv
  have w:Walk J ys.length G Y:=w
  have evw:=ev1.wipe vs
  let Z':Wd:=fun a=>Z a ∨ a=D0
  let Pv:Nat→Hp→Prop:=fun i H=>∃ (ρ:List Addr) (S:Sto) (acc:List (D × D)) (ks:List (Key × V)),Sta X.K Z' ρ S H∧ρ1 <+: ρ∧(∀ a o,a ∉ ρ1→H1 a=some o→a ∉ ρ∧H a=some o)∧(∀ a ob u,H1 a=some (.frz ob u)→H a=some (.frz ob u))∧H D0=some (.dK ks)∧KVR (AV X.K (Wn Z' ρ) H) acc ks ∧
    EvOk X.K (Wn Z' ρ) ρ H (U7 e vs) (wipe σ vs)∧Z43 X.K Z ρ1 H1 Wx σ Q ((dcL t l mt mk mv (U7 e vs) acc (ys.drop i) S).bind fin)
  have mvOf:∀ {ρ:List Addr} {S:Sto} {H:Hp},Sta X.K Z' ρ S H→(∀ a o,a ∉ ρ1→H1 a=some o→a ∉ ρ∧H a=some o)→Mv (Wn Z ρ1) H1 (Wn Z' ρ) H:=fun {ρ S H} s k a o hn hq=>by
    obtain ⟨h2,h3⟩:=k a o (fun z=>hn (.inr z)) hq
    refine ⟨fun z=>?_,h3⟩
    rcases z with (z | z) | z
    · exact hn (.inl z)
    · rw [z,hD] at hq; cases hq
    · exact h2 z
  have okOf:∀ {xs:List Bv.X} {S:Sto} {acc:List (D × D)},Z43 X.K Z ρ1 H1 Wx σ Q ((dcL t l mt mk mv (U7 e vs) acc xs S).bind fin)→l.ok S=true:=fun {xs S acc} q=>by
    cases z:l.ok S with
    | true=>rfl
    | false=>cases xs <;> (simp only [dcL,z] at q; exact q.elim)
  refine W07 w Pv ?_ ?_ ?_ ?_
  · have k:=U3 (o := .dK []) hD
    have s0:=st1.grow k
    have hnw:¬ Wn Z ρ1 D0:=st1.fresh hD
    have m0:Mv (Wn Z ρ1) H1 (Wn Z' ρ1) (upd H1 D0 (.dK [])):=fun a o hn hq=>⟨fun z=>by
      rcases z with (z | z) | z
      · exact hn (.inl z)
      · rw [z,hD] at hq; cases hq
      · exact hn (.inr z),k a o hq⟩
    refine ⟨ρ1,S1,[],[],⟨st1.nd,fun a z=>?_,st1.len,fun n o a e1 e2=>AO.mv m0 (List.prefix_refl _) (fun u q=>k _ _ q) (st1.ob n o a e1 e2)⟩,List.prefix_refl _,fun a o hn hq=>⟨hn,k a o hq⟩,fun a _ _ q=>k a _ q,upd_same, .nil,evw.mv m0 (List.prefix_refl _),?_⟩
    · rcases z with z | z
      · exact ⟨(st1.z a z).1,let ⟨o,q⟩:=(st1.z a z).2; ⟨o,k a o q⟩⟩
      · exact ⟨fun z2=>hnw (.inr (by rw [← z]; exact z2)),⟨_,by rw [z]; exact upd_same⟩⟩
    · rw [List.drop_zero]
      exact p1
  · rintro i H2 _ ⟨ρ2,S2,acc,ks,st2,pr2,k2,f2,d2,a2,ev2,q2⟩
    exact (sv Z' ρ2 S2 H2 st2 (mvOf st2 k2) pr2 f2 (okOf q2)).1
  · rintro i x H2 H3 hi ⟨ρ2,S2,acc,ks,st2,pr2,k2,f2,d2,a2,ev2,q2⟩ hy
    have hk:=okOf q2
    obtain ⟨k,y,e3,a⟩:=(sv Z' ρ2 S2 H2 st2 (mvOf st2 k2) pr2 f2 hk).2 i x H3 hy
    have st3:=st2.grow k
    have m23:Mv (Wn Z' ρ2) H2 (Wn Z' ρ2) H3:=Z5h k
    have ev3:=ev2.mv m23 (List.prefix_refl _)
    rw [Z9i e3] at q2
    simp only [dcL,hk,if_true] at q2
    cases q4:t.asg S2 y (U7 e vs) with
    | none=>rw [q4] at q2; exact q2.elim
    | some e4 =>
      rw [q4] at q2
      refine ⟨Z',ρ2,U7 e vs,S2,y,e4,st3,ev3,a,q4,fun σ5 ev5 w5=>⟨?_,?_⟩⟩
      · rw [w5 vs hs,Z7n]
      have q2:Z43 X.K Z ρ1 H1 Wx σ Q (((mt e4 S2).ne.bind fun b S1=>if b then (mk e4 S1).ne.bind fun y S2=>(mv e4 S2).ne.bind fun z S3=>(match dcK acc y z with
          | some acc2=>dcL t l mt mk mv (U7 e vs) acc2 (ys.drop (i + 1)) S3
          | none => .bad) else dcL t l mt mk mv (U7 e vs) acc (ys.drop (i + 1)) S1).bind fin):=q2
      cases q5:(mt e4 S2).ne with
      | err _ _ _=>cases q6:mt e4 S2 <;> rw [q6] at q5 <;> cases q5
      | bad=>rw [q5] at q2; exact q2.elim
      | ok b S6 =>
        rw [q5] at q2
        refine Z52 (rel:=relB) st3 ev5 q5 fun ρ6 H6 v st6 g6 ev6 r6=>?_
        cases (show b=v from r6)
        have nD:D0 ∉ ρ2:=(st2.z D0 (.inr rfl)).1
        obtain ⟨nD6,d6⟩:=g6.keep D0 _ nD (k _ _ d2)
        have k6:∀ a o,a ∉ ρ1→H1 a=some o→a ∉ ρ6∧H6 a=some o:=fun a o h1 h2=>by
          obtain ⟨h3,h4⟩:=k2 a o h1 h2
          exact g6.keep a o h3 (k _ _ h4)
        have f6:∀ a ob u,H1 a=some (.frz ob u)→H6 a=some (.frz ob u):=fun a ob u q=>g6.fz a ob u (k _ _ (f2 a ob u q))
        have m36:=g6.mv st3
        have ev6':EvOk X.K (Wn Z' ρ6) ρ6 H6 (U7 e vs) (wipe σ vs):=ev3.mv m36 g6.pre
        have a6:KVR (AV X.K (Wn Z' ρ6) H6) acc ks:=Paired.mapP a2 fun _ _ q=>⟨q.1,(q.2.mv m23).mv m36⟩
        cases b with
        | false =>
          rw [if_neg Bool.false_ne_true]
          exact ⟨ρ6,S6,acc,ks,st6,pr2.trans g6.pre,k6,f6,d6,a6,ev6',q2⟩
        | true =>
          rw [if_pos rfl]
          have q2:Z43 X.K Z ρ1 H1 Wx σ Q (((mk e4 S6).ne.bind fun y S2=>(mv e4 S2).ne.bind fun z S3=>(match dcK acc y z with
            | some acc2=>dcL t l mt mk mv (U7 e vs) acc2 (ys.drop (i + 1)) S3
            | none => .bad)).bind fin):=q2
          cases q7:(mk e4 S6).ne with
          | err _ _ _=>cases q6:mk e4 S6 <;> rw [q6] at q7 <;> cases q7
          | bad=>rw [q7] at q2; exact q2.elim
          | ok y7 S7 =>
            rw [q7] at q2
            refine Z52 (rel:=AX X.K) st6 ev6 q7 fun ρ7 H7 v7 st7 g7 ev7 r7=>?_
            have q2:Z43 X.K Z ρ1 H1 Wx σ Q (((mv e4 S7).ne.bind fun z S3=>(match dcK acc y7 z with
              | some acc2=>dcL t l mt mk mv (U7 e vs) acc2 (ys.drop (i + 1)) S3
              | none => .bad)).bind fin):=q2
            cases q8:(mv e4 S7).ne with
            | err _ _ _=>cases q6:mv e4 S7 <;> rw [q6] at q8 <;> cases q8
            | bad=>rw [q8] at q2; exact q2.elim
            | ok z8 S8 =>
              rw [q8] at q2
              refine Z52 (rel:=AX X.K) st7 ev7 q8 fun ρ8 H8 v8 st8 g8 ev8 r8=>?_
              have q2:Z43 X.K Z ρ1 H1 Wx σ Q ((match dcK acc y7 z8 with
                | some acc2=>dcL t l mt mk mv (U7 e vs) acc2 (ys.drop (i + 1)) S8
                | none => .bad).bind fin):=q2
              cases q9:dcK acc y7 z8 with
              | none=>rw [q9] at q2; exact q2.elim
              | some acc2 =>
                rw [q9] at q2
                have r7':=r7.mv (g8.mv st7) g8.pre
                match y7,z8,r7',r8,q9 with
                | .r _,_,_,_,q9=>cases q9
                | .d _, .r _,_,_,q9=>cases q9
                | .d kk, .d vv, .d ak, .d av,q9 =>
                  have q9:(if kk.key?.isSome && (X5j kk && decide (acc.length < sizeLine)) then some (Y8d acc kk vv) else none)=some acc2:=q9
                  obtain ⟨c0,q9⟩:=Z5k q9
                  cases q9
                  obtain ⟨c1,c2⟩:=Bool.and_eq_true_iff.mp c0
                  obtain ⟨_,c3⟩:=Bool.and_eq_true_iff.mp c2
                  obtain ⟨qk,hqk⟩:=Option.isSome_iff_exists.mp c1
                  have hv7:=Y8z hqk ak
                  obtain ⟨nD7,d7⟩:=g7.keep D0 _ nD6 d6
                  obtain ⟨nD8,d8⟩:=g8.keep D0 _ nD7 d7
                  have m68:=fun a o h1 h2=>let ⟨h3,h4⟩:=(g7.mv st6) a o h1 h2; (g8.mv st7) a o h3 h4
                  have a8:KVR (AV X.K (Wn Z' ρ8) H8) acc ks:=Paired.mapP a6 fun _ _ q=>⟨q.1,(q.2.mv (g7.mv st6)).mv (g8.mv st7)⟩
                  have k8:∀ a o,a ∉ ρ1→H1 a=some o→a ∉ ρ8∧H8 a=some o:=fun a o h1 h2=>by
                    obtain ⟨h3,h4⟩:=k6 a o h1 h2
                    obtain ⟨h5,h6⟩:=g7.keep a o h3 h4
                    exact g8.keep a o h5 h6
                  have wD:Wn Z' ρ8 D0 := .inl (.inr rfl)
                  have m9:Mv (Wn Z' ρ8) H8 (Wn Z' ρ8) (upd H8 D0 (.dK (putK ks qk v8))):=fun a o hn hq=>⟨hn,by rw [upd_ne (fun z=>hn (by rw [z]; exact wD))]; exact hq⟩
                  have neD:∀ b,b ∈ ρ8→b ≠ D0:=fun b hb z=>nD8 (by rw [← z]; exact hb)
                  have kv9:KVR (AV X.K (Wn Z' ρ8) (upd H8 D0 (.dK (putK ks qk v8)))) (Y8d acc kk vv) (putK ks qk v8):=Paired.mapP (KVR.put hqk av a8) fun _ _ q=>⟨q.1,q.2.mv m9⟩
                  refine ⟨ks,qk,hv7,d8,by rw [← a8.len]; exact of_decide_eq_true c3,ρ8,S8,Y8d acc kk vv,putK ks qk v8,⟨st8.nd,fun a z=>⟨(st8.z a z).1,?_⟩,st8.len,fun n o a e1 e2=>AO.mv m9 (List.prefix_refl _) (fun u q=>by rw [upd_ne (neD a (List.mem_of_getElem? e2))]; exact q) (st8.ob n o a e1 e2)⟩,((pr2.trans g6.pre).trans g7.pre).trans g8.pre,fun a o h1 h2=>?_,fun a ob u q=>by rw [upd_ne (fun z=>by rw [z,hD] at q; cases q)]; exact g8.fz a ob u (g7.fz a ob u (f6 a ob u q)),upd_same,kv9,((ev6'.mv (g7.mv st6) g7.pre).mv (g8.mv st7) g8.pre).mv m9 (List.prefix_refl _),q2⟩
                  · by_cases hz:a=D0
                    · exact ⟨_,by rw [hz]; exact upd_same⟩
                    · obtain ⟨o,q⟩:=(st8.z a z).2
                      exact ⟨o,by rw [upd_ne hz]; exact q⟩
                  · obtain ⟨h3,h4⟩:=k8 a o h1 h2
                    exact ⟨h3,by rw [upd_ne (fun z=>by rw [z,hD] at h2; cases h2)]; exact h4⟩
  · rintro H2 ⟨ρ2,S2,acc,ks,st2,pr2,k2,f2,d2,a2,ev2,q2⟩
    have hk:=okOf q2
    rw [List.drop_length] at q2
    simp only [dcL,hk,if_true] at q2
    have q2:Z43 X.K Z ρ1 H1 Wx σ Q (.ok (.d (.dic acc)) S2):=q2
    refine .inr ⟨D0,_,d2,trivial,fun od=>?_⟩
    have nD:D0 ∉ ρ2:=(st2.z D0 (.inr rfl)).1
    have nZ:¬ Wn Z ρ2 D0:=fun z=>z.elim (fun z=>st1.fresh hD (.inl z)) nD
    have m:Mv (Wn Z' ρ2) H2 (Wn Z ρ2) (upd H2 D0 (.frz od (.dK ks))):=fun a o hn hq=>⟨fun z=>hn (z.elim (fun z => .inl (.inl z)) .inr),by rw [upd_ne (fun z=>hn (.inl (.inr z)))]; exact hq⟩
    have neD:∀ b,b ∈ ρ2→b ≠ D0:=fun b hb z=>nD (by rw [← z]; exact hb)
    refine q2 ρ2 _ (.ref D0) ⟨st2.nd,fun a z=>⟨(st2.z a (.inl z)).1,?_⟩,st2.len,fun n o a e1 e2=>AO.mv m (List.prefix_refl _) (fun u q=>by rw [upd_ne (neD a (List.mem_of_getElem? e2))]; exact q) (st2.ob n o a e1 e2)⟩ ⟨pr2,fun a o h1 h2=>?_,fun a ob u q=>?_⟩ (.d (.dic nZ upd_same (KVR.avk (Paired.mapP a2 fun _ _ q=>⟨q.1,q.2.mv m⟩))))
    · by_cases hz:a=D0
      · exact ⟨_,by rw [hz]; exact upd_same⟩
      · obtain ⟨o,q⟩:=(st2.z a (.inl z)).2
        exact ⟨o,by rw [upd_ne hz]; exact q⟩
    · obtain ⟨h3,h4⟩:=k2 a o h1 h2
      exact ⟨h3,by rw [upd_ne (fun z=>by rw [z,hD] at h2; cases h2)]; exact h4⟩
    · rw [upd_ne (fun z=>by rw [z,hD] at q; cases q)]; exact f2 a ob u q
end
end Bv
namespace Bv
open PySem PySem.Spec L2
open PyProof.Rows hiding St
section
variable {X:Cx}
end
variable [HasW]
section
variable {X:Cx} {Wx:WX} {pos:Pos} {tg iter kx vx c:Expr} {ifs:List Expr} {mi:MIt} {mt:MG Bool} {mk mv:M} {t:Tg} {vs:List Nat}
theorem X61 {scope:Scope} {own:List (Str × Nat)} (hc:X.calm=true) (hN:X.N.Nodup) (hi:MI X Wx tg iter mi) (ok:BlkOk X.N X.env.scope scope own) (hsl:∀ i ∈ t.slots,i ∈ own.map (·.2))
    (hg:∀ (s:Shared) (H:Hp) (C:Addr) (cl:List (Str × Addr)) (fp:List Addr),PG (X.blk s H scope (compEnvC scope cl C X.env) fp) tg (TGt X.K t)) (ht:∀ (s:Shared) (H:Hp) (C:Addr) (cl:List (Str × Addr)) (fp:List Addr),MTs (X.blk s H scope (compEnvC scope cl C X.env) fp) WX0 ifs mt)
    (hk:∀ (s:Shared) (H:Hp) (C:Addr) (cl:List (Str × Addr)) (fp:List Addr),ME (X.blk s H scope (compEnvC scope cl C X.env) fp) WX0 kx mk) (he:∀ (s:Shared) (H:Hp) (C:Addr) (cl:List (Str × Addr)) (fp:List Addr),ME (X.blk s H scope (compEnvC scope cl C X.env) fp) WX0 vx mv)
    (hs:∀ x,foldedSetIterable iter X.env x=pure x:=by intro _; rfl):ME X Wx (.DictComp kx vx [⟨tg,iter,ifs,0⟩] scope pos) (W0p t mi mt mk mv (own.map (·.2))):=PE.of (X7e (pe_dc hc hN hi ok hg ht hk he hs)) fun _ _ _ h=>W08 hsl h
end
end Bv
namespace Bv
open PySem PySem.Spec L2
open PyProof.Rows hiding St
variable [HasW]
theorem W27 {K:PySem.W.Frag} {Z:Wd} {ρb:List Addr} {Hb:Hp} {Sb:Sto} {D0:Addr} {t:Tg} {l:Lk} {mt:MG Bool} {me:M} {vs:List Nat} {e e':Ev} {σ σ':L2.St} {ys:List Bv.X} {J:It} {G:Hp→Prop} {Y:Nat→Hp→V→Hp→Prop} {Pq:R Bv.X→Prop} {k:List D→Sto→R Bv.X} {acc0:List D} {xs0:List V} {Nx:Hp→Prop}
    (hs:∀ i ∈ t.slots,i ∈ vs) (w:Walk J ys.length G Y)
    (sv:∀ (Z2:Wd) (ρ2:List Addr) (S2:Sto) (H2:Hp),Sta K Z2 ρ2 S2 H2→Mv (Wn (fun a=>Z a ∨ a=D0) ρb) Hb (Wn Z2 ρ2) H2→ρb <+: ρ2→(∀ a ob u,Hb a=some (.frz ob u)→H2 a=some (.frz ob u))→l.ok S2=true→G H2∧∀ i x H3,Y i H2 x H3→Same H2 H3∧∃ y,ys[i]?=some y∧AX K (Wn Z2 ρ2) ρ2 H3 y x)
    (hbad:¬ Pq .bad) (hlen:∀ acc S,Pq (k acc S)→acc.length ≤ sizeLine)
    (st:Sta K (fun a=>Z a ∨ a=D0) ρb Sb Hb) (d0:Hb D0=some (.lst xs0)) (a0:AVs K (Wn (fun a=>Z a ∨ a=D0) ρb) Hb acc0 xs0) (ev:EvOk K (Wn (fun a=>Z a ∨ a=D0) ρb) ρb Hb (U7 e vs) (wipe σ vs)) (ev':EvOk K (Wn (fun a=>Z a ∨ a=D0) ρb) ρb Hb e' σ')
    (p:Pq ((lcL t l mt me (U7 e vs) ys Sb).bind fun ds S'=>k (acc0++ds) S'))
    (fin:∀ (ρ:List Addr) (S:Sto) (H:Hp) (acc:List D) (xs:List V),Sta K (fun a=>Z a ∨ a=D0) ρ S H→ρb <+: ρ→(∀ a o,a ∉ ρb→a ≠ D0→Hb a=some o→a ∉ ρ∧H a=some o)→(∀ a ob u,Hb a=some (.frz ob u)→H a=some (.frz ob u))→H D0=some (.lst xs)→AVs K (Wn (fun a=>Z a ∨ a=D0) ρ) H acc xs→EvOk K (Wn (fun a=>Z a ∨ a=D0) ρ) ρ H e' σ'→Pq (k acc S)→Nx H) :
    ∃ W:Nat→Nat→Hp→Prop,(∃ m,W 0 m Hb)∧∀ i m H,W i m H →
      (J.stop i H∧Nx H) ∨ (J.go i H∧∃ Nx1:Hp→Prop,(∀ H',Nx1 H'→∃ m',m' < m∧W (i + 1) m' H')∧∀ x H',J.yld i H x H'→(TGt K t) x (wipe σ vs) H' fun σ2 H2=>wipe σ2 vs=wipe σ vs∧(RB K WX0 mt) σ2 H2 fun b H3 =>
        if b=true then (RE K WX0 me) σ2 H3 fun y H4=>∃ acc,H4 D0=some (.lst acc)∧acc.length < sizeLine∧Nx1 (upd H4 D0 (.lst (acc++[y]))) else Nx1 H3):=by
  let Z':Wd:=fun a=>Z a ∨ a=D0
  have nDb:D0 ∉ ρb:=(st.z D0 (.inr rfl)).1
  let Pv:Nat→Hp→Prop:=fun i H=>∃ (ρ:List Addr) (S:Sto) (acc:List D) (xs:List V),Sta K Z' ρ S H∧ρb <+: ρ∧(∀ a o,a ∉ ρb→a ≠ D0→Hb a=some o→a ∉ ρ∧H a=some o)∧(∀ a ob u,Hb a=some (.frz ob u)→H a=some (.frz ob u))∧H D0=some (.lst xs)∧AVs K (Wn Z' ρ) H acc xs ∧
    EvOk K (Wn Z' ρ) ρ H (U7 e vs) (wipe σ vs)∧EvOk K (Wn Z' ρ) ρ H e' σ'∧Pq ((lcL t l mt me (U7 e vs) (ys.drop i) S).bind fun ds S'=>k (acc++ds) S')
  have mvOf:∀ {ρ:List Addr} {S:Sto} {H:Hp},Sta K Z' ρ S H→(∀ a o,a ∉ ρb→a ≠ D0→Hb a=some o→a ∉ ρ∧H a=some o)→Mv (Wn Z' ρb) Hb (Wn Z' ρ) H:=fun {ρ S H} s kp a o hn hq=>by
    obtain ⟨h2,h3⟩:=kp a o (fun z=>hn (.inr z)) (fun z=>hn (.inl (.inr z))) hq
    exact ⟨fun z=>z.elim (fun z=>hn (.inl z)) h2,h3⟩
  have okOf:∀ {xs:List Bv.X} {S:Sto} {acc:List D},Pq ((lcL t l mt me (U7 e vs) xs S).bind fun ds S'=>k (acc++ds) S')→l.ok S=true:=fun {xs S acc} q=>by
    cases z:l.ok S with
    | true=>rfl
    | false=>cases xs <;> (simp only [lcL,z] at q; exact (hbad q).elim)
  refine ⟨fun i m H=>m=ys.length - i∧i ≤ ys.length∧Pv i H,⟨ys.length,(Nat.sub_zero _).symm,Nat.zero_le _,ρb,Sb,acc0,xs0,st,List.prefix_refl _,fun a o h _ q=>⟨h,q⟩,fun _ _ _ q=>q,d0,a0,ev,ev',by rw [List.drop_zero]; exact p⟩,fun i m H2 ⟨em,hi,ρ2,S2,acc,xs,st2,pr2,k2,f2,d2,a2,ev2,ev2',q2⟩=>?_⟩
  subst em
  have hk:=okOf q2
  have gG:=(sv Z' ρ2 S2 H2 st2 (mvOf st2 k2) pr2 f2 hk).1
  rcases Nat.lt_or_ge i ys.length with hlt | hge
  case inr =>
    obtain rfl:i=ys.length:=by omega
    rw [List.drop_length] at q2
    simp only [lcL,hk,if_true] at q2
    have q2:Pq (k (acc++[]) S2):=q2
    rw [List.append_nil] at q2
    exact .inl ⟨w.stops H2 gG,fin ρ2 S2 H2 acc xs st2 pr2 k2 f2 d2 a2 ev2' q2⟩
  case inl =>
    refine .inr ⟨w.goes i H2 hlt gG,Pv (i + 1),fun H' p'=>⟨ys.length - (i + 1),by omega,rfl,hlt,p'⟩,fun x H3 hy=>?_⟩
    obtain ⟨kk,y,e3,a⟩:=(sv Z' ρ2 S2 H2 st2 (mvOf st2 k2) pr2 f2 hk).2 i x H3 (w.yields i H2 x H3 hlt gG hy)
    have st3:=st2.grow kk
    have m23:Mv (Wn Z' ρ2) H2 (Wn Z' ρ2) H3:=Z5h kk
    have ev3:=ev2.mv m23 (List.prefix_refl _)
    have ev3':=ev2'.mv m23 (List.prefix_refl _)
    rw [Z9i e3] at q2
    simp only [lcL,hk,if_true] at q2
    cases q4:t.asg S2 y (U7 e vs) with
    | none=>rw [q4] at q2; exact (hbad q2).elim
    | some e4 =>
      rw [q4] at q2
      refine ⟨Z',ρ2,U7 e vs,S2,y,e4,st3,ev3,a,q4,fun σ5 ev5 w5=>⟨?_,?_⟩⟩
      · rw [w5 vs hs,Z7n]
      have q2:Pq (((mt e4 S2).ne.bind fun b S1=>if b then (me e4 S1).ne.bind fun y S2=>(match y with
          | .d d=>(lcL t l mt me (U7 e vs) (ys.drop (i + 1)) S2).bind fun ds S3 => .ok (d :: ds) S3
          | .r _ => .bad) else lcL t l mt me (U7 e vs) (ys.drop (i + 1)) S1).bind fun ds S'=>k (acc++ds) S'):=q2
      cases q5:(mt e4 S2).ne with
      | err _ _ _=>cases q6:mt e4 S2 <;> rw [q6] at q5 <;> cases q5
      | bad=>rw [q5] at q2; exact (hbad q2).elim
      | ok b S6 =>
        rw [q5] at q2
        refine Z52 (rel:=relB) st3 ev5 q5 fun ρ6 H6 v st6 g6 ev6 r6=>?_
        cases (show b=v from r6)
        have nD:D0 ∉ ρ2:=(st2.z D0 (.inr rfl)).1
        obtain ⟨nD6,d6⟩:=g6.keep D0 _ nD (kk _ _ d2)
        have k6:∀ a o,a ∉ ρb→a ≠ D0→Hb a=some o→a ∉ ρ6∧H6 a=some o:=fun a o h1 h2 h3=>by
          obtain ⟨h4,h5⟩:=k2 a o h1 h2 h3
          exact g6.keep a o h4 (kk _ _ h5)
        have f6:∀ a ob u,Hb a=some (.frz ob u)→H6 a=some (.frz ob u):=fun a ob u q=>g6.fz a ob u (kk _ _ (f2 a ob u q))
        have m36:=g6.mv st3
        have evA:=ev3.mv m36 g6.pre
        have evB:=ev3'.mv m36 g6.pre
        have a6:=(a2.mv m23).mv m36
        cases b with
        | false =>
          rw [if_neg Bool.false_ne_true]
          exact ⟨ρ6,S6,acc,xs,st6,pr2.trans g6.pre,k6,f6,d6,a6,evA,evB,q2⟩
        | true =>
          rw [if_pos rfl]
          have q2:Pq (((me e4 S6).ne.bind fun y S2=>(match y with
            | .d d=>(lcL t l mt me (U7 e vs) (ys.drop (i + 1)) S2).bind fun ds S3 => .ok (d :: ds) S3
            | .r _ => .bad)).bind fun ds S'=>k (acc++ds) S'):=q2
          cases q7:(me e4 S6).ne with
          | err _ _ _=>cases q6:me e4 S6 <;> rw [q6] at q7 <;> cases q7
          | bad=>rw [q7] at q2; exact (hbad q2).elim
          | ok z S7 =>
            rw [q7] at q2
            refine Z52 (rel:=AX K) st6 ev6 q7 fun ρ7 H7 v st7 g7 ev7 r7=>?_
            cases z with
            | r _=>exact (hbad q2).elim
            | d d =>
              have q2:Pq (((lcL t l mt me (U7 e vs) (ys.drop (i + 1)) S7).bind fun ds S3 => .ok (d :: ds) S3).bind fun ds S'=>k (acc++ds) S'):=q2
              rw [R.bind_assoc] at q2
              obtain ⟨nD7,d7⟩:=g7.keep D0 _ nD6 d6
              have m67:=g7.mv st6
              have a7:=a6.mv m67
              have k7:∀ a o,a ∉ ρb→a ≠ D0→Hb a=some o→a ∉ ρ7∧H7 a=some o:=fun a o h1 h2 h3=>by
                obtain ⟨h4,h5⟩:=k6 a o h1 h2 h3
                exact g7.keep a o h4 h5
              have fzD:∀ ob u,Hb D0 ≠ some (.frz ob u):=fun ob u z=>by rw [d0] at z; cases z
              cases r7 with
              | d r7 =>
                have hacc:acc.length < sizeLine:=by
                  cases q8:lcL t l mt me (U7 e vs) (ys.drop (i + 1)) S7 with
                  | bad=>rw [q8] at q2; exact (hbad q2).elim
                  | err C fs S8=>exact absurd q8 Y4k
                  | ok ds S8 =>
                    rw [q8] at q2
                    have hl:=hlen _ _ (show Pq (k (acc++(d :: ds)) S8) from q2)
                    rw [List.length_append,List.length_cons] at hl
                    omega
                have wD:Wn Z' ρ7 D0 := .inl (.inr rfl)
                have m8:Mv (Wn Z' ρ7) H7 (Wn Z' ρ7) (upd H7 D0 (.lst (xs++[v]))):=fun a o hn hq=>⟨hn,by rw [upd_ne (fun z=>hn (by rw [z]; exact wD))]; exact hq⟩
                have neD:∀ b,b ∈ ρ7→b ≠ D0:=fun b hb z=>nD7 (by rw [← z]; exact hb)
                refine ⟨xs,d7,by rw [← a7.length]; exact hacc,ρ7,S7,acc++[d],xs++[v],⟨st7.nd,fun a z=>⟨(st7.z a z).1,?_⟩,st7.len,fun n o a e1 e2=>AO.mv m8 (List.prefix_refl _) (fun u q=>by rw [upd_ne (neD a (List.mem_of_getElem? e2))]; exact q) (st7.ob n o a e1 e2)⟩,(pr2.trans g6.pre).trans g7.pre,fun a o h1 h2 h3=>?_,fun a ob u q=>by rw [upd_ne (fun z=>fzD ob u (by rw [← z]; exact q))]; exact g7.fz a ob u (f6 a ob u q),upd_same,(a7.append (.cons r7 .nil)).mv m8,(evA.mv m67 g7.pre).mv m8 (List.prefix_refl _),(evB.mv m67 g7.pre).mv m8 (List.prefix_refl _),?_⟩
                · by_cases hz:a=D0
                  · exact ⟨_,by rw [hz]; exact upd_same⟩
                  · obtain ⟨o,q⟩:=(st7.z a z).2
                    exact ⟨o,by rw [upd_ne hz]; exact q⟩
                · obtain ⟨h4,h5⟩:=k7 a o h1 h2 h3
                  exact ⟨h4,by rw [upd_ne h2]; exact h5⟩
                · have e9:(fun (ds:List D) (S':Sto)=>k (acc++[d]++ds) S')=fun ds S'=>k (acc++(d :: ds)) S':=by
                    funext ds S'
                    rw [List.append_assoc]; rfl
                  show Pq ((lcL t l mt me (U7 e vs) (ys.drop (i + 1)) S7).bind fun ds S'=>k (acc++[d]++ds) S')
                  rw [e9]
                  exact q2
end Bv
namespace Bv
open PySem PySem.Spec L2
open PyProof.Rows hiding St
variable [HasW]
def Y5h (t:Tg) (l:Lk) (mt:MG Bool) (t1:Tg) (mi1:MIt) (mt1:MG Bool) (me:M) (e:Ev) (vs1:List Nat):List Bv.X→Sto→R (List D)
  | [],S=>if l.ok S then .ok [] S else .bad
  | x :: xs,S=>if l.ok S then (match t.asg S x e with
    | some e1=>(mt e1 S).ne.bind fun b S1=>if b then (mi1 e1 S1).ne.bind fun p S2=>(lcL t1 p.2 mt1 me (U7 e1 vs1) p.1 S2).bind fun ds S3=>(Y5h t l mt t1 mi1 mt1 me e vs1 xs S3).bind fun ds2 S4 => .ok (ds++ds2) S4 else Y5h t l mt t1 mi1 mt1 me e vs1 xs S1
    | none => .bad) else .bad
def X9j (t:Tg) (mi:MIt) (mt:MG Bool) (t1:Tg) (mi1:MIt) (mt1:MG Bool) (me:M) (vs vs1:List Nat):M:=fun e S=>(mi e S).bind fun p S1=>(Y5h t p.2 mt t1 mi1 mt1 me (U7 e vs) vs1 p.1 S1).bind Y3l
theorem X8c {α:Type} {r:R α} {C fs S}:r.ne ≠ .err C fs S:=fun h=>by cases r <;> cases h
theorem Y3j {α β:Type} {r:R α} {f:α→Sto→R β} {C fs S} (h:r.bind f = .err C fs S):r = .err C fs S ∨ ∃ a S1,f a S1 = .err C fs S:=by
  cases r with
  | ok a S1=>exact .inr ⟨a,S1,h⟩
  | err _ _ _=>cases h; exact .inl rfl
  | bad=>cases h
section
variable {t t1:Tg} {l:Lk} {mt mt1:MG Bool} {mi1:MIt} {me:M} {e:Ev} {vs1:List Nat}
theorem Y7l:∀ {xs:List Bv.X} {S:Sto} {C fs S'},Y5h t l mt t1 mi1 mt1 me e vs1 xs S ≠ .err C fs S'
  | [],S,C,fs,S',h=>by
    simp only [Y5h] at h
    split at h <;> cases h
  | x :: xs,S,C,fs,S',h=>by
    simp only [Y5h] at h
    split at h
    · split at h
      · rcases Y3j h with h | ⟨b,S1,h⟩
        · exact X8c h
        · split at h
          · rcases Y3j h with h | ⟨p,S2,h⟩
            · exact X8c h
            · rcases Y3j h with h | ⟨ds,S3,h⟩
              · exact Y4k h
              · rcases Y3j h with h | ⟨ds2,S4,h⟩
                · exact Y7l h
                · cases h
          · exact Y7l h
      · cases h
    · cases h
end
section
variable {X:Cx} {Wx:WX} {pos:Pos} {tg iter tg1 iter1 elt c:Expr} {ifs ifs1:List Expr} {mi mi1:MIt} {mt mt1:MG Bool} {me:M} {t t1:Tg} {vs vs1:List Nat}
theorem X9h (hs:∀ i ∈ t.slots,i ∈ vs) (hs1:∀ i ∈ t1.slots,i ∈ vs1) {σ:L2.St} {H:Hp} {Q:VK} (h:RE X.K Wx (X9j t mi mt t1 mi1 mt1 me vs vs1) σ H Q):tLc2 (RG (Srv X.K) X.K Wx mi) (TGt X.K t) (RB X.K WX0 mt) (RG (Srv X.K) X.K WX0 mi1) (TGt X.K t1) (RB X.K WX0 mt1) (RE X.K WX0 me) vs vs1 σ H Q:=by
  obtain ⟨Z,ρ,e,S,st,ev,p⟩:=h
  refine X9 (rel:=Srv X.K) st ev p fun ρ1 H1 J p0 S1 st1 g1 ev1 srv p1=>?_
  obtain ⟨ys,l⟩:=p0
  obtain ⟨G,Y,w,sv⟩:=srv
  intro D0 hD
  have p1:Z43 X.K Z ρ1 H1 Wx σ Q ((Y5h t l mt t1 mi1 mt1 me (U7 e vs) vs1 ys S1).bind Y3l):=p1
  have sv:∀ (Z2:Wd) (ρ2:List Addr) (S2:Sto) (H2:Hp),Sta X.K Z2 ρ2 S2 H2→Mv (Wn Z ρ1) H1 (Wn Z2 ρ2) H2→ρ1 <+: ρ2→(∀ a ob u,H1 a=some (.frz ob u)→H2 a=some (.frz ob u))→l.ok S2=true→G H2 ∧
    ∀ i x H3,Y i H2 x H3→Same H2 H3∧∃ y,ys[i]?=some y∧AX X.K (Wn Z2 ρ2) ρ2 H3 y x:=sv
  have w:Walk J ys.length G Y:=w
  have evw:=ev1.wipe vs
  let Z':Wd:=fun a=>Z a ∨ a=D0
  let Pv:Nat→Hp→Prop:=fun i H=>∃ (ρ:List Addr) (S:Sto) (acc:List D) (xs:List V),Sta X.K Z' ρ S H∧ρ1 <+: ρ∧(∀ a o,a ∉ ρ1→H1 a=some o→a ∉ ρ∧H a=some o)∧(∀ a ob u,H1 a=some (.frz ob u)→H a=some (.frz ob u))∧H D0=some (.lst xs)∧AVs X.K (Wn Z' ρ) H acc xs ∧
    EvOk X.K (Wn Z' ρ) ρ H (U7 e vs) (wipe σ vs)∧Z43 X.K Z ρ1 H1 Wx σ Q ((Y5h t l mt t1 mi1 mt1 me (U7 e vs) vs1 (ys.drop i) S).bind fun ds S'=>Y3l (acc++ds) S')
  have mvOf:∀ {ρ:List Addr} {S:Sto} {H:Hp},Sta X.K Z' ρ S H→(∀ a o,a ∉ ρ1→H1 a=some o→a ∉ ρ∧H a=some o)→Mv (Wn Z ρ1) H1 (Wn Z' ρ) H:=fun {ρ S H} s kp a o hn hq=>by
    obtain ⟨h2,h3⟩:=kp a o (fun z=>hn (.inr z)) hq
    refine ⟨fun z=>?_,h3⟩
    rcases z with (z | z) | z
    · exact hn (.inl z)
    · rw [z,hD] at hq; cases hq
    · exact h2 z
  have okOf:∀ {xs:List Bv.X} {S:Sto} {acc:List D},Z43 X.K Z ρ1 H1 Wx σ Q ((Y5h t l mt t1 mi1 mt1 me (U7 e vs) vs1 xs S).bind fun ds S'=>Y3l (acc++ds) S')→l.ok S=true:=fun {xs S acc} q=>by
    cases z:l.ok S with
    | true=>rfl
    | false=>cases xs <;> (simp only [Y5h,z] at q; exact q.elim)
  have start:Pv 0 (upd H1 D0 (.lst [])):=by
    have k:=U3 (o := .lst []) hD
    have hnw:¬ Wn Z ρ1 D0:=st1.fresh hD
    have m0:Mv (Wn Z ρ1) H1 (Wn Z' ρ1) (upd H1 D0 (.lst [])):=fun a o hn hq=>⟨fun z=>by
      rcases z with (z | z) | z
      · exact hn (.inl z)
      · rw [z,hD] at hq; cases hq
      · exact hn (.inr z),k a o hq⟩
    refine ⟨ρ1,S1,[],[],⟨st1.nd,fun a z=>?_,st1.len,fun n o a e1 e2=>AO.mv m0 (List.prefix_refl _) (fun u q=>k _ _ q) (st1.ob n o a e1 e2)⟩,List.prefix_refl _,fun a o hn hq=>⟨hn,k a o hq⟩,fun a _ _ q=>k a _ q,upd_same, .nil,evw.mv m0 (List.prefix_refl _),?_⟩
    · rcases z with z | z
      · exact ⟨(st1.z a z).1,let ⟨o,q⟩:=(st1.z a z).2; ⟨o,k a o q⟩⟩
      · exact ⟨fun z2=>hnw (.inr (by rw [← z]; exact z2)),⟨_,by rw [z]; exact upd_same⟩⟩
    · rw [List.drop_zero]
      exact p1
  refine ⟨fun i m H=>m=ys.length - i∧i ≤ ys.length∧Pv i H,⟨ys.length,(Nat.sub_zero _).symm,Nat.zero_le _,start⟩,fun i m H2 ⟨em,hi,ρ2,S2,acc,xs,st2,pr2,k2,f2,d2,a2,ev2,q2⟩=>?_⟩
  subst em
  have hk:=okOf q2
  have gG:=(sv Z' ρ2 S2 H2 st2 (mvOf st2 k2) pr2 f2 hk).1
  rcases Nat.lt_or_ge i ys.length with hlt | hge
  case inr =>
    obtain rfl:i=ys.length:=by omega
    rw [List.drop_length] at q2
    simp only [Y5h,hk,if_true] at q2
    have q2:Z43 X.K Z ρ1 H1 Wx σ Q (Y3l (acc++[]) S2):=q2
    rw [List.append_nil] at q2
    have q2:Z43 X.K Z ρ1 H1 Wx σ Q (if acc.length ≤ sizeLine then .ok (.d (.lst acc)) S2 else .bad):=q2
    refine .inl ⟨w.stops H2 gG,?_⟩
    by_cases hl:acc.length ≤ sizeLine
    · rw [if_pos hl] at q2
      have m:Mv (Wn Z' ρ2) H2 (Wn Z ρ2) H2:=fun a o hn hq=>⟨fun z=>hn (z.elim (fun z => .inl (.inl z)) .inr),hq⟩
      refine q2 ρ2 H2 (.ref D0) ⟨st2.nd,fun a z=>st2.z a (.inl z),st2.len,fun n o a e1 e2=>AO.mv m (List.prefix_refl _) (fun u q=>q) (st2.ob n o a e1 e2)⟩ ⟨pr2,k2,f2⟩ (.d (.lst (fun z=>?_) d2 (a2.mv m)))
      rcases z with z | z
      · exact st1.fresh hD (.inl z)
      · exact (st2.z D0 (.inr rfl)).1 z
    · rw [if_neg hl] at q2; exact q2.elim
  case inl =>
    refine .inr ⟨w.goes i H2 hlt gG,Pv (i + 1),fun H' p'=>⟨ys.length - (i + 1),by omega,rfl,hlt,p'⟩,fun x H3 hy=>?_⟩
    obtain ⟨kk,y,e3,a⟩:=(sv Z' ρ2 S2 H2 st2 (mvOf st2 k2) pr2 f2 hk).2 i x H3 (w.yields i H2 x H3 hlt gG hy)
    have st3:=st2.grow kk
    have m23:Mv (Wn Z' ρ2) H2 (Wn Z' ρ2) H3:=Z5h kk
    have ev3:=ev2.mv m23 (List.prefix_refl _)
    rw [Z9i e3] at q2
    simp only [Y5h,hk,if_true] at q2
    cases q4:t.asg S2 y (U7 e vs) with
    | none=>rw [q4] at q2; exact q2.elim
    | some e4 =>
      rw [q4] at q2
      refine ⟨Z',ρ2,U7 e vs,S2,y,e4,st3,ev3,a,q4,fun σ5 ev5 w5=>⟨?_,?_⟩⟩
      · rw [w5 vs hs,Z7n]
      have q2:Z43 X.K Z ρ1 H1 Wx σ Q (((mt e4 S2).ne.bind fun b S1=>if b then (mi1 e4 S1).ne.bind fun p S2=>(lcL t1 p.2 mt1 me (U7 e4 vs1) p.1 S2).bind fun ds S3=>(Y5h t l mt t1 mi1 mt1 me (U7 e vs) vs1 (ys.drop (i + 1)) S3).bind fun ds2 S4 => .ok (ds++ds2) S4 else Y5h t l mt t1 mi1 mt1 me (U7 e vs) vs1 (ys.drop (i + 1)) S1).bind fun ds S'=>Y3l (acc++ds) S'):=q2
      cases q5:(mt e4 S2).ne with
      | err _ _ _=>cases q6:mt e4 S2 <;> rw [q6] at q5 <;> cases q5
      | bad=>rw [q5] at q2; exact q2.elim
      | ok b S6 =>
        rw [q5] at q2
        refine Z52 (rel:=relB) st3 ev5 q5 fun ρ6 H6 v st6 g6 ev6 r6=>?_
        cases (show b=v from r6)
        have nD:D0 ∉ ρ2:=(st2.z D0 (.inr rfl)).1
        obtain ⟨nD6,d6⟩:=g6.keep D0 _ nD (kk _ _ d2)
        have k6:∀ a o,a ∉ ρ1→H1 a=some o→a ∉ ρ6∧H6 a=some o:=fun a o h1 h2=>by
          obtain ⟨h3,h4⟩:=k2 a o h1 h2
          exact g6.keep a o h3 (kk _ _ h4)
        have f6:∀ a ob u,H1 a=some (.frz ob u)→H6 a=some (.frz ob u):=fun a ob u q=>g6.fz a ob u (kk _ _ (f2 a ob u q))
        have m36:=g6.mv st3
        have evA:EvOk X.K (Wn Z' ρ6) ρ6 H6 (U7 e vs) (wipe σ vs):=ev3.mv m36 g6.pre
        have a6:=(a2.mv m23).mv m36
        cases b with
        | false =>
          rw [if_neg Bool.false_ne_true]
          exact ⟨ρ6,S6,acc,xs,st6,pr2.trans g6.pre,k6,f6,d6,a6,evA,q2⟩
        | true =>
          rw [if_pos rfl]
          have q2:Z43 X.K Z ρ1 H1 Wx σ Q (((mi1 e4 S6).ne.bind fun p S2=>(lcL t1 p.2 mt1 me (U7 e4 vs1) p.1 S2).bind fun ds S3=>(Y5h t l mt t1 mi1 mt1 me (U7 e vs) vs1 (ys.drop (i + 1)) S3).bind fun ds2 S4 => .ok (ds++ds2) S4).bind fun ds S'=>Y3l (acc++ds) S'):=q2
          cases q7:(mi1 e4 S6).ne with
          | err _ _ _=>cases q6:mi1 e4 S6 <;> rw [q6] at q7 <;> cases q7
          | bad=>rw [q7] at q2; exact q2.elim
          | ok pp S7 =>
            rw [q7] at q2
            refine Z52 (rel:=Srv X.K) st6 ev6 q7 fun ρ7 H7 J1 st7 g7 ev7 srv7=>?_
            obtain ⟨ys1,l1⟩:=pp
            obtain ⟨G1,Y1,w1,sv1⟩:=srv7
            have q2:Z43 X.K Z ρ1 H1 Wx σ Q (((lcL t1 l1 mt1 me (U7 e4 vs1) ys1 S7).bind fun ds S3=>(Y5h t l mt t1 mi1 mt1 me (U7 e vs) vs1 (ys.drop (i + 1)) S3).bind fun ds2 S4 => .ok (ds++ds2) S4).bind fun ds S'=>Y3l (acc++ds) S'):=q2
            rw [R.bind_assoc] at q2
            obtain ⟨nD7,d7⟩:=g7.keep D0 _ nD6 d6
            have m67:=g7.mv st6
            have a7:=a6.mv m67
            have evB:=evA.mv m67 g7.pre
            have ev7w:=ev7.wipe vs1
            let k:List D→Sto→R Bv.X:=fun ds S3=>(Y5h t l mt t1 mi1 mt1 me (U7 e vs) vs1 (ys.drop (i + 1)) S3).bind fun ds2 S4=>Y3l (ds++ds2) S4
            have q3:Z43 X.K Z ρ1 H1 Wx σ Q ((lcL t1 l1 mt1 me (U7 e4 vs1) ys1 S7).bind fun ds S'=>k (acc++ds) S'):=by
              have e9:(fun (ds:List D) (S3:Sto)=>((Y5h t l mt t1 mi1 mt1 me (U7 e vs) vs1 (ys.drop (i + 1)) S3).bind fun ds2 S4=>R.ok (ds++ds2) S4).bind fun ds S'=>Y3l (acc++ds) S')=fun ds S'=>k (acc++ds) S':=by
                funext ds S3
                rw [R.bind_assoc]
                show (Y5h t l mt t1 mi1 mt1 me (U7 e vs) vs1 (ys.drop (i + 1)) S3).bind (fun ds2 S4=>Y3l (acc++(ds++ds2)) S4)=(Y5h t l mt t1 mi1 mt1 me (U7 e vs) vs1 (ys.drop (i + 1)) S3).bind fun ds2 S4=>Y3l (acc++ds++ds2) S4
                congr 1
                funext ds2 S4
                rw [List.append_assoc]
              rw [e9] at q2
              exact q2
            have hlen:∀ acc S,Z43 X.K Z ρ1 H1 Wx σ Q (k acc S)→acc.length ≤ sizeLine:=fun acc S q=>by
              have q:Z43 X.K Z ρ1 H1 Wx σ Q ((Y5h t l mt t1 mi1 mt1 me (U7 e vs) vs1 (ys.drop (i + 1)) S).bind fun ds2 S4=>Y3l (acc++ds2) S4):=q
              cases q8:Y5h t l mt t1 mi1 mt1 me (U7 e vs) vs1 (ys.drop (i + 1)) S with
              | bad=>rw [q8] at q; exact q.elim
              | err C fs S8=>exact absurd q8 Y7l
              | ok ds S8 =>
                rw [q8] at q
                have q:Z43 X.K Z ρ1 H1 Wx σ Q (if (acc++ds).length ≤ sizeLine then .ok (.d (.lst (acc++ds))) S8 else .bad):=q
                by_cases hl:(acc++ds).length ≤ sizeLine
                · rw [List.length_append] at hl; omega
                · rw [if_neg hl] at q; exact q.elim
            exact W27 (Pq:=Z43 X.K Z ρ1 H1 Wx σ Q) (k:=k) (Nx:=Pv (i + 1)) (Z:=Z) (D0:=D0) (e:=e4) (e':=U7 e vs) (σ':=wipe σ vs) (acc0:=acc) (xs0:=xs) hs1 w1 sv1 (fun z=>z) hlen st7 d7 a7 ev7w evB q3 fun ρ8 S8 H8 acc8 xs8 st8 pr8 k8 f8 d8 a8 ev8 q8 =>
              ⟨ρ8,S8,acc8,xs8,st8,((pr2.trans g6.pre).trans g7.pre).trans pr8,fun a o h1 h2=>by
                obtain ⟨h3,h4⟩:=k6 a o h1 h2
                obtain ⟨h5,h6⟩:=g7.keep a o h3 h4
                exact k8 a o h5 (fun z=>by rw [z,hD] at h2; cases h2) h6,fun a ob u q=>f8 a ob u (g7.fz a ob u (f6 a ob u q)),d8,a8,ev8,q8⟩
theorem X5f {i:Nat} {y:Str} {py spos:Pos} {scope:Scope} {own:List (Str × Nat)} (hc:X.calm=true) (hN:X.N.Nodup) (hy:X.N[i]?=some y) (hyl:X.env.scope.names.lookup y=some .local)
    (hsw:swapsWith (.ListComp elt [⟨tg,iter,ifs,0⟩,⟨tg1,iter1,ifs1,0⟩] scope pos) (some (.Name y py)) spos.line X.env=pure true) (hi:MI X Wx tg iter mi) (ok:BlkOk X.N X.env.scope scope own) (hv:∀ i ∈ vs1,i ∈ own.map (·.2)) (hsl:∀ i ∈ t.slots,i ∈ own.map (·.2)) (hsl1:∀ i ∈ t1.slots,i ∈ vs1)
    (hg:∀ (s:Shared) (H:Hp) (C:Addr) (cl:List (Str × Addr)) (fp:List Addr),PG (X.blk s H scope (compEnvC scope cl C X.env) fp) tg (TGt X.K t)) (ht:∀ (s:Shared) (H:Hp) (C:Addr) (cl:List (Str × Addr)) (fp:List Addr),MTs (X.blk s H scope (compEnvC scope cl C X.env) fp) WX0 ifs mt)
    (hi1:∀ (s:Shared) (H:Hp) (C:Addr) (cl:List (Str × Addr)) (fp:List Addr),MI (X.blk s H scope (compEnvC scope cl C X.env) fp) WX0 tg1 iter1 mi1)
    (hg1:∀ (s:Shared) (H:Hp) (C:Addr) (cl:List (Str × Addr)) (fp:List Addr),PG (X.blk s H scope (compEnvC scope cl C X.env) fp) tg1 (TGt X.K t1)) (ht1:∀ (s:Shared) (H:Hp) (C:Addr) (cl:List (Str × Addr)) (fp:List Addr),MTs (X.blk s H scope (compEnvC scope cl C X.env) fp) WX0 ifs1 mt1)
    (he:∀ (s:Shared) (H:Hp) (C:Addr) (cl:List (Str × Addr)) (fp:List Addr),ME (X.blk s H scope (compEnvC scope cl C X.env) fp) WX0 elt me) (hs:∀ x,foldedSetIterable iter X.env x=pure x:=by intro _; rfl) (hs1:∀ env x,foldedSetIterable iter1 env x=pure x:=by intro _ _; rfl) :
    MP X Wx (.Assign [.Name y py] (.ListComp elt [⟨tg,iter,ifs,0⟩,⟨tg1,iter1,ifs1,0⟩] scope pos) spos) (V0 i (X9j t mi mt t1 mi1 mt1 me (own.map (·.2)) vs1)):=PS.of (ps_setLc2 hc hN hy hyl hsw hi ok hv hg ht hi1 hg1 ht1 he hs hs1) fun D σ H ⟨Z,ρ,e,S,st,ev,p⟩=>by
  refine X9h (mt:=mt) (me:=me) (t:=t) (t1:=t1) (mi1:=mi1) (mt1:=mt1) (Q:=fun v H1=>gName i v σ H1 D.nx) hsl hsl1 ?_
  exact Z1r (rel:=AX X.K) st ev p fun ρ1 H1 v x S1 st1 g1 ev1 a1 p1=>p1.next st1 (ev1.set a1)
end
end Bv
namespace Bv
open PySem PySem.Spec L2
open PyProof.Rows hiding St
variable [HasW]
def leS (a b:Str):Bool := !ltCps b.cps.toList a.cps.toList
def X9b (x:Str):List Str→List Str
  | []=>[x]
  | y :: r=>if leS x y then x :: y :: r else y :: X9b x r
def X30 (l:List Str):List Str:=l.foldr X9b []
theorem X05 {a b:Str}:leS a b=true ↔ a.cps.toList ≤ b.cps.toList:=by
  unfold leS
  rw [ltCps_eq]
  simp only [Bool.not_eq_true',decide_eq_false_iff_not]
  exact List.not_lt
theorem X46 {a b:Str} (h:¬ leS a b=true):leS b a=true:=by
  rw [X05] at h ⊢
  rcases List.le_total a.cps.toList b.cps.toList with z | z
  · exact (h z).elim
  · exact z
theorem Y81 {a b c:Str} (h:leS a b=true) (h2:leS b c=true):leS a c=true:=by
  rw [X05] at h h2 ⊢
  exact List.le_trans h h2
theorem W0a {a b:Str} (h:a.cps.toList=b.cps.toList):a=b:=by
  cases a; cases b
  simp only [Str.mk.injEq]
  exact Array.toList_inj.mp h
theorem X6x {a b:Str} (h:leS a b=true) (h2:leS b a=true):a=b:=by
  rw [X05] at h h2
  exact W0a (List.le_antisymm h h2)
theorem Y4j (x:Str):∀ l,(X9b x l).Perm (x :: l)
  | [] => .refl _
  | y :: r=>by
    unfold X9b; split
    · exact .refl _
    · exact ((Y4j x r).cons y).trans (.swap _ _ _)
theorem Y2n:∀ l,(X30 l).Perm l
  | [] => .refl _
  | x :: r=>(Y4j x _).trans ((Y2n r).cons x)
theorem Y6w (x:Str):∀ l:List Str,l.Pairwise (fun a b=>leS a b=true)→(X9b x l).Pairwise (fun a b=>leS a b=true)
  | [],_=>by simp [X9b]
  | y :: r,h=>by
    obtain ⟨h1,h2⟩:=List.pairwise_cons.mp h
    unfold X9b; split
    · rename_i c
      refine List.pairwise_cons.mpr ⟨fun z hz=>?_,h⟩
      rcases List.mem_cons.mp hz with rfl | hz
      · exact c
      · exact Y81 c (h1 z hz)
    · rename_i c
      refine List.pairwise_cons.mpr ⟨fun z hz=>?_,Y6w x r h2⟩
      rcases List.mem_cons.mp ((Y4j x r).mem_iff.mp hz) with rfl | hz
      · exact X46 c
      · exact h1 z hz
theorem Y5c:∀ l,(X30 l).Pairwise (fun a b=>leS a b=true)
  | [] => .nil
  | x :: r=>Y6w x _ (Y5c r)
theorem Y23:∀ {l:List Str} {p:Str},risingS p l=true→(p :: l).Pairwise (fun a b=>leS a b=true)
  | [],p,_=>by simp
  | x :: r,p,h=>by
    have h:(!ltCps x.cps.toList p.cps.toList && risingS x r)=true:=h
    obtain ⟨h1,h2⟩:=Bool.and_eq_true_iff.mp h
    have q:=Y23 h2
    refine List.pairwise_cons.mpr ⟨fun z hz=>?_,q⟩
    rcases List.mem_cons.mp hz with rfl | hz
    · exact h1
    · exact Y81 h1 ((List.pairwise_cons.mp q).1 z hz)
theorem X0c {l:List Str} (h:sortedS l=true):l.Pairwise (fun a b=>leS a b=true):=by
  cases l with
  | nil=>exact .nil
  | cons x r=>exact Y23 h
theorem X6m {l l':List Str} (hp:l'.Perm l) (hs:sortedS l'=true):l'=X30 l :=
  List.Perm.eq_of_pairwise (fun _ _ _ _ a b=>X6x a b) (X0c hs) (Y5c l) (hp.trans (Y2n l).symm)
def Z6s:List Bv.X→Sto→R Bv.X
  | [x],S=>if Z2q S x then (match items S x with
    | some ys=>(match ints? ys with
      | some l => .ok (.d (.lst ((PySem.W.sortI l).map .int))) S
      | none=>(match strs? ys with
        | some l=>if decide (l.length < 64) then .ok (.d (.lst ((X30 l).map .str))) S else .bad
        | none => .bad))
    | none => .bad) else .bad
  | _,_ => .bad
theorem X0x {K:PySem.W.Frag} {W:Wd} {H:Hp}:∀ {l:List Int},AVs K W H (l.map D.int) (l.map V.int)
  | [] => .nil
  | z :: r => .cons (.int z) X0x
theorem X13 {K:PySem.W.Frag} {W:Wd} {H:Hp}:∀ {l:List Str},(∀ z ∈ l,PyData.strOk z=true)→AVs K W H (l.map D.str) (l.map V.str)
  | [],_ => .nil
  | z :: r,h => .cons (.str (h z (List.Mem.head _))) (X13 fun y hy=>h y (List.Mem.tail _ hy))
section
variable {K:PySem.W.Frag}
theorem Z9h:X0t K (fun xs H Q=>rSortedI K xs H Q ∨ rSortedS K xs H Q) Z6s:=fun Z ρ S H Wx σ xs vs Q st a h=>by
  unfold Z6s at h
  split at h
  · rename_i x
    split at h
    · rename_i hl
      cases a with
      | cons ha t =>
        cases t
        cases q:items S x with
        | none=>rw [q] at h; exact h.elim
        | some ys =>
          rw [q] at h
          obtain ⟨b,us,rfl,hq,hp⟩:=ha.itemsL st q hl
          have h:W1 (AX K) K Z ρ H Wx σ Q (match ints? ys with
            | some l => .ok (.d (.lst ((PySem.W.sortI l).map .int))) S
            | none=>(match strs? ys with
              | some l=>if decide (l.length < 64) then .ok (.d (.lst ((X30 l).map .str))) S else .bad
              | none => .bad)):=h
          cases q2:ints? ys with
          | some l =>
            rw [q2] at h
            rw [Y7k hp q2] at hq
            refine .inl ⟨b,l,rfl, .inl (.inl hq),fun ns' p hp' hs' hn=>?_⟩
            rw [PySem.W.eq_sortI hp' hs']
            exact W1.ret h st (U3 hn) (.d (Z69 (fun z hz=>st.thereW hz) hn X0x))
          | none =>
            rw [q2] at h
            cases q3:strs? ys with
            | none=>rw [q3] at h; exact h.elim
            | some l =>
              rw [q3] at h
              obtain ⟨e1,e2⟩:=Y3p hp q3
              rw [e1] at hq
              have h:W1 (AX K) K Z ρ H Wx σ Q (if decide (l.length < 64) then .ok (.d (.lst ((X30 l).map .str))) S else .bad):=h
              by_cases c:l.length < 64
              · rw [if_pos (decide_eq_true c)] at h
                refine .inr ⟨b,l,rfl, .inl (.inl hq),c,fun ns' p hp' hs' hn=>?_⟩
                rw [X6m hp' hs']
                exact W1.ret h st (U3 hn) (.d (Z69 (fun z hz=>st.thereW hz) hn (X13 fun z hz=>e2 z ((Y2n l).mem_iff.mp hz))))
              · rw [if_neg (by simpa using c)] at h; exact h.elim
    · exact h.elim
  · exact h.elim
end
def Y8w (a:Str) (y:Bv.X) (S:Sto):R Bv.X:=match y with
  | .d (.str b)=>if !(b.length == 0) && decide (a.length ≤ sizeLine) && Y9i [(Txt.partition a b).1,(Txt.partition a b).2.1,(Txt.partition a b).2.2] then .ok (.d (.tup [.str (Txt.partition a b).1, .str (Txt.partition a b).2.1, .str (Txt.partition a b).2.2])) S else .bad
  | _ => .bad
section
variable {X:Cx} {Wx:WX} {pos apos:Pos} {o e:Expr} {mo m:M}
theorem X5c (ho:ME X Wx o mo) (he:ME X Wx e m) (hs:starEach [e] X.env=[(false,eval e X.env)]:=by rfl) (hbase:attributeBase o "partition" X.env (eval o X.env)=eval o X.env:=by rfl) (hline:(apos.endLine == pos.line)=true:=by rfl) :
    ME X Wx (.Call (.Attribute o "partition" apos) [e] [] pos) (Y4o Y8w mo m):=PE.of (pe_partition ho he hs hbase hline) fun σ H Q ⟨Z,ρ,e,S,st,ev,p⟩=>X9 st ev p fun ρ1 H1 v x S1 s1 g1 ev1 a1 p1=>by
  cases a1 with
  | r _=>exact p1.elim
  | d a =>
    cases a with
    | str hz =>
      rename_i z
      refine ⟨⟨z,rfl⟩,X9 s1 ev1 (show W1 (AX X.K) X.K Z ρ1 H1 Wx σ Q ((m e S1).bind fun y S2=>Y8w z y S2) from p1) fun ρ2 H2 u y S2 s2 g2 ev2 a2 p2=>?_⟩
      unfold Y8w at p2
      split at p2
      · rename_i b
        split at p2
        · rename_i hc
          rw [Bool.and_eq_true,Bool.and_eq_true] at hc
          obtain ⟨⟨c1,c2⟩,c3⟩:=hc
          cases a2 with
          | d a2 =>
            cases a2 with
            | str hb =>
              refine ⟨z,b,rfl,rfl,by simpa using c1,of_decide_eq_true c2,fun q hq=>?_⟩
              have av:AVs X.K (Wn Z ρ2) H2 [.str (Txt.partition z b).1, .str (Txt.partition z b).2.1, .str (Txt.partition z b).2.2] [.str (Txt.partition z b).1, .str (Txt.partition z b).2.1, .str (Txt.partition z b).2.2]:=Y3s c3
              exact W1.ret p2 s2 (U3 hq) (.d (Y2c (fun z hz=>s2.thereW hz) hq av))
        · exact p2.elim
      · exact p2.elim
    | _=>exact p1.elim
end
end Bv
namespace Bv
open PySem PySem.Spec L2
open PyProof.Rows hiding St
variable [HasW]
def X5r:Bv.X→Option (D × D)
  | .d (.tup [k,v])=>if k.key?.isSome then some (k,v) else none
  | _=>none
def Y63:List Bv.X→Option (List (D × D))
  | []=>some []
  | x :: r=>match X5r x,Y63 r with
    | some p,some l=>some (p :: l)
    | _,_=>none
def X5d (kvs more:List (D × D)):List (D × D):=more.foldl (fun acc p=>Y8d acc p.1 p.2) kvs
theorem KVR.merge {R:D→V→Prop}:∀ {more:List (D × D)} {ms:List (Key × V)} {kvs:List (D × D)} {ks:List (Key × V)},KVR R more ms→KVR R kvs ks→KVR R (X5d kvs more) (mergeK ks ms)
  | _,_,_,_, .nil,q=>q
  | (k,d) :: r,(q,v) :: s,kvs,ks, .cons h t,z=>KVR.merge (more:=r) (ms:=s) (kvs:=Y8d kvs k d) (ks:=putK ks q v) t (KVR.put h.1 h.2 z)
theorem X5s {K:PySem.W.Frag} {W:Wd} {ρ:List Addr} {H:Hp} {x:Bv.X} {u:V} {p:D × D} (a:AX K W ρ H x u) (h:X5r x=some p):∃ b q v,u = .ref b∧p.1.key?=some q∧SqT K H b [kV q,v]∧AV K W H p.2 v:=by
  unfold X5r at h
  split at h
  · rename_i k v
    split at h
    · rename_i c
      cases h
      obtain ⟨q,hq⟩:=Option.isSome_iff_exists.mp c
      cases a with
      | d a =>
        cases a with
        | tup tp as =>
          cases as with
          | cons a1 as =>
            cases as with
            | cons a2 as =>
              cases as
              obtain rfl:=Y8z hq a1
              exact ⟨_,q,_,rfl,hq,tp.sq,a2⟩
    · cases h
  · cases h
theorem Y64 {K:PySem.W.Frag} {W:Wd} {ρ:List Addr} {H:Hp}:∀ {xs:List Bv.X} {us:List V} {l:List (D × D)},AXs K W ρ H xs us→Y63 xs=some l→∃ (ps:List Addr) (kvs:List (Key × V)),us=ps.map V.ref∧Paired (fun p kv=>SqT K H p [kV kv.1,kv.2]) ps kvs∧KVR (AV K W H) l kvs
  | _,_,_, .nil,h=>by cases h; exact ⟨[],[],rfl, .nil, .nil⟩
  | x :: r,u :: us,_, .cons a as,h=>by
    have h:(match X5r x,Y63 r with
      | some p,some l=>some (p :: l)
      | _,_=>none)=some _:=h
    cases h1:X5r x with
    | none=>rw [h1] at h; cases h
    | some p =>
      cases h2:Y63 r with
      | none=>rw [h1,h2] at h; cases h
      | some l2 =>
        rw [h1,h2] at h
        cases h
        obtain ⟨b,q,v,rfl,hk,sq,av⟩:=X5s a h1
        obtain ⟨ps,kvs,rfl,pr,kv⟩:=Y64 as h2
        exact ⟨b :: ps,(q,v) :: kvs,rfl, .cons sq pr, .cons ⟨hk,av⟩ kv⟩
def kvD:List (D × Bv.X)→Option (List (D × D))
  | []=>some []
  | (k, .d v) :: r=>(kvD r).map fun l=>(k,v) :: l
  | (_, .r _) :: _=>none
theorem X43 {K:PySem.W.Frag} {W:Wd} {ρ:List Addr} {H:Hp}:∀ {xs:List (D × Bv.X)} {ks:List (Key × V)} {l:List (D × D)},KVR (AX K W ρ H) xs ks→kvD xs=some l→KVR (AV K W H) l ks
  | _,_,_, .nil,h=>by cases h; exact .nil
  | (k, .d v) :: r,(q,u) :: ks,_, .cons a as,h=>by
    obtain ⟨l2,h1,rfl⟩:=Option.map_eq_some_iff.mp (show (kvD r).map (fun l=>(k,v) :: l)=some _ from h)
    cases a.2 with
    | d av=>exact .cons ⟨a.1,av⟩ (X43 as h1)
  | (_, .r _) :: _,_,_,_,h=>by cases h
def dictOf (S:Sto) (x:Bv.X):Option (List (D × D)):=match Y11 S x with
  | some kvs=>kvD kvs
  | none=>if Z2q S x then ((items S x).bind Y63).map (X5d []) else none
def Y7j:List Bv.X→Sto→R Bv.X
  | [x],S=>(match dictOf S x with
    | some kvs => .ok (.r S.length) (S++[.dic (kvs.map fun p=>(p.1, .d p.2))])
    | none => .bad)
  | _,_ => .bad
abbrev X93 (K:PySem.W.Frag):List V→Hp→VK→Prop:=fun xs H Q=>(∃ (a:Addr) (kvs:List (Key × V)),xs=[.ref a]∧Rd H a (.dK kvs)∧∀ p,H p=none→Q (.ref p) (upd H p (.dK kvs))) ∨
  ∃ (a:Addr) (ps:List Addr) (kvs:List (Key × V)),xs=[.ref a]∧SqL K H a (ps.map V.ref)∧Paired (fun p kv=>SqT K H p [kV kv.1,kv.2]) ps kvs∧∀ p,H p=none→Q (.ref p) (upd H p (.dK (mergeK [] kvs)))
theorem W02 {X:Cx} (hc:X.calm=true):CallR X (.type "dict") (X93 X.K):=CallR.or call_dictD (call_dictP hc)
section
variable {K:PySem.W.Frag}
theorem X3k {Z:Wd} {ρ:List Addr} {S:Sto} {H:Hp} {x:Bv.X} {v:V} {l:List (D × D)} {Q:VK} (st:Sta K Z ρ S H) (a:AX K (Wn Z ρ) ρ H x v) (h:dictOf S x=some l)
    (q:∀ ks:List (Key × V),KVR (AV K (Wn Z ρ) H) l ks→∀ p,H p=none→Q (.ref p) (upd H p (.dK ks))):X93 K [v] H Q:=by
  unfold dictOf at h
  cases hd:Y11 S x with
  | some kvs =>
    rw [hd] at h
    obtain ⟨p,ks,rfl,r,kv⟩:=Z81 st a hd
    exact .inl ⟨p,ks,rfl,r,q ks (X43 kv h)⟩
  | none =>
    rw [hd] at h
    have h:(if Z2q S x then ((items S x).bind Y63).map (X5d []) else none)=some l:=h
    split at h
    · rename_i hl
      obtain ⟨more,h1,rfl⟩:=Option.map_eq_some_iff.mp h
      obtain ⟨ys,h2,h3⟩:=Option.bind_eq_some_iff.mp h1
      obtain ⟨b,us,rfl,hq,hp⟩:=a.itemsL st h2 hl
      obtain ⟨ps,kvs,rfl,pr,kv⟩:=Y64 hp h3
      exact .inr ⟨b,ps,kvs,rfl, .inl (.inl hq),pr,q _ (KVR.merge kv .nil)⟩
    · cases h
theorem X44 {Z:Wd} {ρ:List Addr} {S:Sto} {H:Hp} {p:Addr} {ks0:List (Key × V)} (st:Sta K Z ρ S H) (hp:H p=none):∀ {l:List (D × D)} {ks:List (Key × V)},KVR (AV K (Wn Z ρ) H) l ks→KVR (AX K (Wn Z (ρ++[p])) (ρ++[p]) (upd H p (.dK ks0))) (l.map fun p=>(p.1,Bv.X.d p.2)) ks
  | _,_, .nil => .nil
  | _ :: _,_ :: _, .cons h t => .cons ⟨h.1, .d (h.2.mv (fun b o w z=>⟨fun y=>by
      rcases y with y | y
      · exact w (.inl y)
      · rcases List.mem_append.mp y with y | y
        · exact w (.inr y)
        · have e:b=p:=by simpa using y
          rw [e,hp] at z
          exact (by cases z),U3 hp b o z⟩))⟩ (X44 st hp t)
theorem X8x:X0t K (X93 K) Y7j:=fun Z ρ S H Wx σ xs vs Q st a h=>by
  unfold Y7j at h
  split at h
  · rename_i x
    cases a with
    | cons ha t =>
      cases t
      cases q:dictOf S x with
      | none=>rw [q] at h; exact h.elim
      | some l =>
        rw [q] at h
        refine X3k st ha q fun ks kv p hp=>?_
        have k:=U3 (o := .dK ks) hp
        have go:=X44 (ρ:=ρ) (ks0:=ks) st hp kv
        obtain ⟨s1,g1⟩:=st.push (o' := .dic (l.map fun p=>(p.1, .d p.2))) hp k ⟨ks,upd_same,go⟩
        exact h _ _ _ s1 g1 (.r (by rw [st.len]; simp))
  · exact h.elim
end
section
variable {X:Cx} {Wx:WX} {pos p:Pos} {x:Str} {e:Expr} {es:List Expr} {ms:MG (List Bv.X)}
theorem X62 (hcm:X.calm=true) (hg:Gl X x) (hm:X.mg x=none) (ha:MA X Wx (e :: es) ms) (hv:bootBuiltins x=some (.type "dict"):=by rfl) (hn:x ≠ "__name__" := by decide) (hdb:(x == ("__debug__" : Str))=false:=by decide)
    (he:starEach (e :: es) X.env=(false,eval e X.env) :: starEach es X.env:=by rfl) (hpl:(backTo pos (starEach es X.env)).any (·.1)=false:=by rfl):ME X Wx (.Call (.Name x p) (e :: es) [] pos) (Z9 Y7j ms):=Z2v (W02 hcm) X8x hg hm ha hv hn hdb he hpl
end
end Bv
namespace Bv
open PySem PySem.Spec L2
open PyProof.Rows hiding St
variable [HasW]
def X89 (S:Sto) (x:Bv.X):R Bv.X:=if Z2q S x then (match (items S x).bind ds? with
  | some ds => .ok (.d (.lst ds.reverse)) S
  | none => .bad) else .bad
def W1q (m:M):M:=fun e S=>(m e S).bind fun x S1=>X89 S1 x
theorem AVs.rev {K:PySem.W.Frag} {W:Wd} {H:Hp} {ds:List D} {vs:List V} (h:AVs K W H ds vs):AVs K W H ds.reverse vs.reverse:=by
  induction ds generalizing vs with
  | nil=>cases h; exact .nil
  | cons d r ih =>
    cases h with
    | cons a t =>
      rw [List.reverse_cons,List.reverse_cons]
      exact (ih t).append (.cons a .nil)
section
variable {X:Cx} {Wx:WX} {pos p1 p2 p3:Pos} {o e:Expr} {mo m:M} {n:Nat}
theorem W1v (h:ME X Wx e m):ME X Wx (.Subscript e (.Slice none none (some (.UnaryOp .USub (.Constant (.int 1) n p1) p2)) p3) pos) (W1q m):=PE.of (pe_revL h) fun σ H Q ⟨Z,ρ,e,S,st,ev,p⟩=>X9 (rel:=AX X.K) st ev p fun ρ1 H1 v x S1 s1 g1 ev1 a1 q1=>by
  have q1:W1 (AX X.K) X.K Z ρ1 H1 Wx σ Q (X89 S1 x):=q1
  unfold X89 at q1
  split at q1
  · rename_i hl
    cases q:(items S1 x).bind ds? with
    | none=>rw [q] at q1; exact q1.elim
    | some ds =>
      rw [q] at q1
      obtain ⟨ys,h1,h2⟩:=Option.bind_eq_some_iff.mp q
      obtain ⟨b,us,rfl,hq,hp⟩:=a1.itemsL s1 h1 hl
      exact ⟨b,us,rfl, .inl (.inl hq),fun l hl=>W1.ret q1 s1 (U3 hl) (.d (Z69 (fun z hz=>s1.thereW hz) hl (AVs.rev (AXs.ds hp h2))))⟩
  · exact q1.elim
end
section
variable {X:Cx} {Wx:WX} {k j:Nat} {C f:Str} {fa:Addr} {fd:FuncData} {ps:List Str} {sp:Sp} {e:Expr} {pos:Pos} {g:List D→PR} {mo:M}
end
end Bv
namespace Bv
open PySem PySem.Spec L2
open PyProof.Rows hiding St
variable [HasW]
section
variable {X:Cx} {Wx:WX} {k:Nat}
end
section
variable {X:Cx} {Wx:WX} {pos p:Pos} {x:Str} {C:Str} {g:List Bv.X→Sto→R Bv.X}
end
end Bv
namespace Bv
open PySem PySem.Spec L2
open PyProof.Rows hiding St
variable [HasW]
section
variable {X:Cx} {Wx:WX} {pos:Pos} {a b c:Expr} {ms:MG (List Bv.X)}
end
end Bv
namespace Bv
open PySem PySem.Spec L2
open PyProof.Rows hiding St
variable [HasW]
def X4s:List Bv.X→Sto→R Bv.X
  | [.d (.str a)],S=>if decide (a.length ≤ 640) then (match PySem.intText? a with
    | some n => .ok (.d (.int n)) S
    | none => .bad) else .bad
  | _,_ => .bad
theorem W0z {K:PySem.W.Frag}:X0t K (fun xs H Q=>∃ a n,xs=[.str a]∧PySem.intText? a=some n∧a.length ≤ 640∧Q (.int n) H) X4s:=fun Z ρ S H Wx σ xs vs Q st a h=>by
  unfold X4s at h
  split at h
  · rename_i z
    split at h
    · rename_i hl
      obtain ⟨v,rfl,b⟩:=Y9u a
      have e:v = .str z:=by cases b; rfl
      cases q:PySem.intText? z with
      | none=>rw [q] at h; exact h.elim
      | some n =>
        rw [q] at h
        exact ⟨z,n,by rw [e],q,of_decide_eq_true hl,W1.ret0 h st (.d (.int _))⟩
    · exact h.elim
  · exact h.elim
end Bv
namespace Bv
open PySem PySem.Spec L2
open PyProof.Rows hiding St
variable [HasW]
def lfV:Leaf→V→Prop
  | .none,v=>v = .non
  | .num i,v=>v = .int i ∨ ∃ b,v = .bl b∧(if b=true then (1:Int) else 0)=i
  | .text x,v=>v = .str x
theorem W28 {k:Leaf} {v:V} {u:Value} (h:lfV k v) (r:RelV v u):Leaf.isOf k u=true:=by
  cases k with
  | none =>
    have h:v = .non:=h
    subst h
    cases (show u=Value.none from r)
    rfl
  | num i =>
    rcases (show v = .int i ∨ ∃ b,v = .bl b∧(if b=true then (1:Int) else 0)=i from h) with h | ⟨b,h,e⟩
    · subst h
      obtain ⟨t,rfl⟩:=(show ∃ t,u=Value.int i t from r)
      exact decide_eq_true rfl
    · subst h
      cases (show u=Value.bool b from r)
      exact decide_eq_true e
  | text x =>
    have h:v = .str x:=h
    subst h
    obtain ⟨t,rfl⟩:=(show ∃ t,u=Value.str x t from r)
    show (x == x)=true
    simp
abbrev LVs:List Leaf→List V→Prop:=Paired lfV
theorem X2r {P:Program} {w:World}:∀ {ks:List Leaf} {vs:List V} {us:List Value},LVs ks vs→Vals vs us→ItemsAre (leafKind P w) ks us
  | _,_,_, .nil,r=>by cases r; exact .nil
  | _,_,_, .cons h t,r=>by
    cases r with
    | cons a b=>exact .cons (W28 h a) (X2r t b)
def X0r (K:PySem.W.Frag) (H:Hp) (b:Addr) (ks:List Leaf):Prop:=∃ vs,SqT K H b vs∧LVs ks vs
abbrev TX:=List Leaf × Addr × V
structure DTat (K:PySem.W.Frag) (H:Hp) (a:Addr) (xs:List TX):Prop where
  at_:Rd H a (TDo a xs)
  keys:∀ q ∈ xs,X0r K H q.2.1 q.1
abbrev KTx:List TX→List (List Leaf × Addr × Value)→Prop:=Paired fun p q=>p.1=q.1∧p.2.1=q.2.1∧RelV p.2.2 q.2.2
def atT (xs:List TX) (k:List Leaf):Option V:=(xs.find? fun x=>decide (x.1=k)).map (·.2.2)
def Y9v (xs:List TX) (k:List Leaf) (b:Addr) (v:V):List TX:=if (xs.any fun x=>decide (x.1=k))=true then xs.map (fun x=>if x.1=k then (x.1,x.2.1,v) else x) else xs++[(k,b,v)]
theorem KTx.val {xs:List TX} {ys:List (List Leaf × Addr × Value)} (r:KTx xs ys) (k:List Leaf):RelO (atT xs k) ((atKey ys k).map (·.2)):=by
  induction r with
  | nil=>exact True.intro
  | @cons p q ps qs h t ih =>
    obtain ⟨h1,_,h2⟩:=h
    by_cases e:p.1=k
    · have e':q.1=k:=h1.symm.trans e
      have b:atKey (q :: qs) k=some q.2:=by simp [atKey,List.find?_cons,e']
      have a:atT (p :: ps) k=some p.2.2:=by simp [atT,List.find?_cons,e]
      rw [a,b]; exact h2
    · have e':¬ q.1=k:=fun z=>e (h1.trans z)
      have b:atKey (q :: qs) k=atKey qs k:=by simp [atKey,List.find?_cons,e']
      have a:atT (p :: ps) k=atT ps k:=by simp [atT,List.find?_cons,e]
      rw [a,b]; exact ih
theorem KTx.any {xs:List TX} {ys:List (List Leaf × Addr × Value)} (r:KTx xs ys) (k:List Leaf):(xs.any fun x=>decide (x.1=k))=(atKey ys k).isSome:=by
  induction r with
  | nil=>rfl
  | @cons p q ps qs h t ih =>
    obtain ⟨h1,_,h2⟩:=h
    rw [List.any_cons,ih]
    by_cases e:p.1=k
    · have e':q.1=k:=h1.symm.trans e
      have b:atKey (q :: qs) k=some q.2:=by simp [atKey,List.find?_cons,e']
      rw [b,decide_eq_true e]; rfl
    · have e':¬ q.1=k:=fun z=>e (h1.trans z)
      have b:atKey (q :: qs) k=atKey qs k:=by simp [atKey,List.find?_cons,e']
      rw [b,decide_eq_false e]; rfl
theorem KTx.put {xs:List TX} {ys:List (List Leaf × Addr × Value)} (r:KTx xs ys) (k:List Leaf) (b:Addr) {v:V} {u:Value} (ru:RelV v u):KTx (Y9v xs k b v) (storedH ys k b u):=by
  unfold Y9v storedH
  rw [r.any k]
  split
  · have g:∀ {xs:List TX} {ys:List (List Leaf × Addr × Value)},KTx xs ys→KTx (xs.map fun x=>if x.1=k then (x.1,x.2.1,v) else x) (ys.map (putAt k u)):=by
      intro xs ys r
      induction r with
      | nil=>exact .nil
      | @cons p q ps qs h t ih =>
        obtain ⟨h1,h2,h3⟩:=h
        rw [List.map_cons,List.map_cons]
        refine .cons ?_ ih
        unfold putAt
        by_cases e:p.1=k
        · rw [if_pos e,if_pos (h1.symm.trans e)]; exact ⟨h1,h2,ru⟩
        · rw [if_neg e,if_neg (fun z=>e (h1.trans z))]; exact ⟨h1,h2,h3⟩
    exact g r
  · exact Paired.append r (.cons ⟨rfl,rfl,ru⟩ .nil)
theorem X2j {P:Program} {w:World} (hw:w=HasW.w) (x:List Leaf × Addr × Value):entryOfKey (tupleKind (leafKind P w)) x=(⟨X6w x.1, .ref x.2.1,x.2.2⟩:DictEntry):=by
  subst hw
  rfl
section
variable {X:Cx} {pins:List (Addr × Obj)} {σ:L2.St} {H:Hp} {s:Shared} {a b:Addr} {y v:V} {u r:Value} {A:Around} {E:Value→Shared→Prop} {xs:List TX} {k:List Leaf}
theorem Y5e (I:Inv X pins σ H s) (t:X0r X.K H b k):(tupleKind (leafKind X.prog X.w)).is s.heap k b:=by
  obtain ⟨vs,q,l⟩:=t
  obtain ⟨its,rv,⟨o,ho,hc,n,hd⟩,_⟩:=I.tuple q
  exact ⟨o,its.toArray,n,ho,hc,hd,by simpa using X2r l rv⟩
theorem Y8t (hw:X.w=HasW.w) (I:Inv X pins σ H s) (d:DTat X.K H a xs):(a == sysModules)=false∧∃ ys,KTx xs ys∧s.heap.DictOfH (tupleKind (leafKind X.prog X.w)) a ys:=by
  have ok:ObjOk X.prog X.w H s.heap a (TDo a xs):=d.at_.ok I.hok
  obtain ⟨⟨hd,ys,rel,o,es,ep,h1,h2,h3,h4,h5⟩,_⟩:=ok
  refine ⟨hd,ys,rel,o,es,ep,h1,h2,h3,?_,fun x hx=>?_,h5⟩
  · rw [h4]
    exact List.map_congr_left fun x _=>(X2j hw x).symm
  · have all:∀ {l:List TX} {m:List (List Leaf × Addr × Value)},KTx l m→(∀ q ∈ l,X0r X.K H q.2.1 q.1)→∀ x ∈ m,(tupleKind (leafKind X.prog X.w)).is s.heap x.1 x.2.1:=by
      intro l m q
      induction q with
      | nil=>intro _ x hx; exact nomatch hx
      | @cons p q ps qs hq t ih =>
        intro hk x hx
        rcases List.mem_cons.mp hx with e | hx
        · subst e
          rw [← hq.1,← hq.2.1]
          exact Y5e I (hk p (List.mem_cons_self ..))
        · exact ih (fun z hz=>hk z (List.mem_cons_of_mem _ hz)) x hx
    exact all rel d.keys x hx
theorem X58 {Q:Value→Shared→Prop} (hw:X.w=HasW.w) (hu:A.units + 1 < cLine) (I:Inv X pins σ H s) (d:DTat X.K H a xs) (t:X0r X.K H b k) (l:atT xs k=some v) (h:∀ w' s',Inv X pins σ H s'→RelV v w'→Q w' s') :
    wpAny (model X.prog X.w) A (getItem (.ref a) (.ref b)) Q E s:=by
  obtain ⟨hd,ys,rel,dd⟩:=Y8t hw I d
  obtain ⟨w',hw',rw'⟩:=RelO.some_of (v:=v) (o:=(atKey ys k).map (·.2)) (by rw [← l]; exact rel.val k)
  obtain ⟨p,hp,hp2⟩:=Option.map_eq_some_iff.mp hw'
  refine wpAny_getItem_heap (tupleKind_room_in1 hu) (Y5e I t) dd hp ?_
  rw [hp2]
  exact h w' _ (I.tok _) rw'
theorem W0c {Q:Value→Shared→Prop} (hw:X.w=HasW.w) (hu:A.units + 1 < cLine) (I:Inv X pins σ H s) (d:DTat X.K H a xs) (t:X0r X.K H b k) (h:∀ s',Inv X pins σ H s'→Q (.bool (!(atT xs k).isSome)) s') :
    wpAny (model X.prog X.w) A (compareOp .NotIn (.ref b) (.ref a)) Q E s:=by
  obtain ⟨hd,ys,rel,dd⟩:=Y8t hw I d
  refine wpAny_notIn_heap (tupleKind_room_in1 hu) (Y5e I t) hd dd ?_
  have q:=(rel.val k).isSome_eq
  rw [Option.isSome_map] at q
  rw [← q]
  exact h _ (I.tok _)
theorem X6b {H':Hp} {h':Heap} {ys:List (List Leaf × Addr × Value)} (hw:X.w=HasW.w) (hd:(a == sysModules)=false) (rel:KTx xs ys) (dd:h'.DictOfH (tupleKind (leafKind X.prog X.w)) a ys):ObjOk X.prog X.w H' h' a (TDo a xs):=by
  obtain ⟨o,es,ep,h1,h2,h3,h4,_,h5⟩:=dd
  have e4:es.toList=ys.map (fun x=>(⟨X6w x.1, .ref x.2.1,x.2.2⟩:DictEntry)):=by
    rw [h4]
    exact List.map_congr_left fun x _=>X2j hw x
  exact ⟨⟨hd,ys,rel,o,es,ep,h1,h2,h3,e4,h5⟩,⟨o,h1⟩,fun g1 g2 ⟨hd,ys,rel,o,es,ep,h1,h2,h3,h4,h5⟩ st=>⟨hd,ys,rel,o,es,ep,st o h1,h2,h3,h4,h5⟩⟩
theorem X59 {Q:Unit→Shared→Prop} (hw:X.w=HasW.w) (hu:A.units + 1 < cLine) (I:Inv X pins σ H s) (e:H a=some (TDo a xs)) (hk:∀ q ∈ xs,X0r X.K H q.2.1 q.1) (t:X0r X.K H b k) (hl:xs.length < sizeLine) (rv:RelV v r)
    (h:∀ s',Inv X pins σ (upd H a (TDo a (Y9v xs k b v))) s'→Q () s'):wpAny (model X.prog X.w) A (setItem (.ref a) (.ref b) r) Q E s:=by
  obtain ⟨hd,ys,rel,dd⟩:=Y8t hw I ⟨.inl e,hk⟩
  have hz:ys.length ≤ sizeLine:=by rw [← Paired.length rel]; omega
  refine wpAny_setItem_heap (hsz:=hz) (tupleKind_room_in1 hu) (Y5e I t) dd fun h' dd' hs=>h _ ?_
  have he:∃ q,h'.get? a=some q:=let ⟨q,_,_,hq,_⟩:=dd'; ⟨q,hq⟩
  exact d_write I (by rw [e]; exact True.intro) hs he (X6b hw hd (rel.put k b rv) dd')
end
def W3s (K:PySem.W.Frag) (td ty:TE):TE:=fun σ H Q=>td σ H fun x H1=>ty σ H1 fun y H2=>∃ a b xs k v,x = .ref a∧y = .ref b∧DTat K H2 a xs∧X0r K H2 b k∧atT xs k=some v∧Q v H2
def W39 (K:PySem.W.Frag) (neg:Bool) (ty td:TE):TE:=fun σ H Q=>ty σ H fun y H1=>td σ H1 fun x H2=>∃ a b xs k,x = .ref a∧y = .ref b∧DTat K H2 a xs∧X0r K H2 b k∧Q (.bl ((atT xs k).isSome ^^ neg)) H2
def W3q (K:PySem.W.Frag) (td ty tv:TE):TS:=fun D σ H=>tv σ H fun v H1=>td σ H1 fun x H2=>ty σ H2 fun y H3=>∃ a b xs k,x = .ref a∧y = .ref b∧H3 a=some (TDo a xs)∧(∀ q ∈ xs,X0r K H3 q.2.1 q.1)∧X0r K H3 b k∧xs.length < sizeLine∧D.nx σ (upd H3 a (TDo a (Y9v xs k b v)))
def W3t:TE:=fun _ H Q=>∀ p,H p=none→Q (.ref p) (upd H p (TDo p []))
def W3u (K:PySem.W.Frag) (tk tv:TE):TE:=fun σ H Q=>∀ p,H p=none→tk σ (upd H p (TDo p [])) fun y H1=>tv σ H1 fun v H2=>∃ b k,y = .ref b∧H2 p=some (TDo p [])∧X0r K H2 b k∧Q (.ref p) (upd H2 p (TDo p [(k,b,v)]))
section
variable {X:Cx} {o i e f value:Expr} {pos pos' tpos apos cpos:Pos} {td ty tv tx:TE}
theorem X6l {pins:List (Addr × Obj)} {σ:L2.St} {H:Hp} {s:Shared} {a:Addr} {xs:List TX} (hw:X.w=HasW.w) (I:Inv X pins σ H s) (d:DTat X.K H a xs):s.TypeIs (.ref a) "dict" ∧ (∀ b,Value.ref a = .ref b→∃ ob,s.heap.get? b=some ob∧ob.dict=none):=by
  obtain ⟨_,ys,rel,dd⟩:=Y8t hw I d
  refine ⟨dd.typeIs,fun b q=>?_⟩
  cases q
  obtain ⟨ob,_,_,h1,h2,_⟩:=dd
  exact ⟨ob,h1,h2.2.1⟩
theorem X9y (hw:X.w=HasW.w) (hu:X.A.units + 1 < cLine) (ho:PE X o td) (hi:PE X i ty) (hs:NoSl i):PE X (.Subscript o i pos) (W3s X.K td ty):=by
  refine ⟨fun pins s σ H Q I h=>?_⟩
  refine subD_of PySem.F.slot_dict_getitem.lookup hs (thn (ho.run pins s σ H _ I h) fun u s1 ⟨x,H1,I1,rx,q1⟩=>thn (hi.run pins s1 σ H1 _ I1 q1) fun iv s2 ⟨y,H2,I2,ry,a,b,xs,k,v,ex,ey,d,t,l,q2⟩=>?_)
  subst ex ey
  obtain rfl:u=Value.ref a:=rx
  obtain rfl:iv=Value.ref b:=ry
  exact ⟨(X6l hw I2 d).1,X58 hw hu I2 d t l fun w' s3 I3 rw'=>⟨v,H2,I3,rw',q2⟩⟩
theorem X5u (hw:X.w=HasW.w) (hu:X.A.units + 1 < cLine) (hi:PE X i ty) (ho:PE X o td):PC X .NotIn i o (W39 X.K true ty td):=by
  refine ⟨fun pins s σ H Q I h=>?_⟩
  refine thn (hi.run pins s σ H _ I h) fun iv s1 ⟨y,H1,I1,ry,q1⟩=>thn (ho.run pins s1 σ H1 _ I1 q1) fun u s2 ⟨x,H2,I2,rx,a,b,xs,k,ex,ey,d,t,q2⟩=>?_
  subst ex ey
  obtain rfl:u=Value.ref a:=rx
  obtain rfl:iv=Value.ref b:=ry
  rw [Bool.xor_true] at q2
  exact W0c hw hu I2 d t fun s3 I3=>⟨.bl _,H2,I3,rfl,q2⟩
theorem X92 (hw:X.w=HasW.w) (hu:X.A.units + 1 < cLine) (ho:PE X o td) (hi:PE X i ty) (hv:PE X value tv) (hs:swapsWith value (some (.Subscript o i pos')) pos.line X.env=pure false) :
    PS X (.Assign [.Subscript o i pos'] value pos) (W3q X.K td ty tv):=by
  refine ⟨fun pins s σ H D I h=>?_⟩
  refine wpAny_Assign_Subscript (thn (hv.run pins s σ H _ I h) fun r s1 ⟨v,H1,I1,rv,q1⟩=>thn (ho.run pins s1 σ H1 _ I1 q1) fun u s2 ⟨x,H2,I2,rx,q2⟩=>thn (hi.run pins s2 σ H2 _ I2 q2) fun iv s3 ⟨y,H3,I3,ry,a,b,xs,k,ex,ey,ea,hk,t,hl,q3⟩=>?_) hs
  subst ex ey
  obtain rfl:u=Value.ref a:=rx
  obtain rfl:iv=Value.ref b:=ry
  exact X59 hw hu I3 ea hk t hl rv fun s4 I4=>⟨σ,_,I4,q3⟩
theorem X0m {H:Hp} {P:Program} {w:World} (h:Heap) (hb:sysModules < h.objs.size):ObjOk P w H (h.push { cls := .type "dict",data := .dict #[] }) h.objs.size (TDo h.objs.size []) :=
  ⟨⟨beq_eq_false_iff_ne.mpr (Ne.symm (Nat.ne_of_lt hb)),[], .nil,_,#[],0,Heap.get?_push_size _ rfl,⟨rfl,rfl,rfl⟩,rfl,rfl,List.nodup_nil⟩,⟨_,Heap.get?_push_size _ rfl⟩,fun g1 g2 ⟨hd,ys,rel,o,es,ep,h1,h2,h3,h4,h5⟩ st=>⟨hd,ys,rel,o,es,ep,st o h1,h2,h3,h4,h5⟩⟩
theorem X9z:PE X (.Dict [] [] pos) W3t:=⟨fun pins s σ H Q I h =>
  wpAny_Dict_empty ⟨.ref s.heap.objs.size,_,I.laid (a:=s.heap.objs.size) (o:=TDo s.heap.objs.size []) (t':=s.toks) (fun _ _ q=>Heap.get?_push_of_some _ q) (Nat.le_refl _) (X0m s.heap I.big),rfl,h _ (I.hok.fresh (Nat.le_refl _))⟩⟩
theorem X90 {kx:Expr} {tk:TE} (hw:X.w=HasW.w) (hu:X.A.units + 1 < cLine) (hk:PE X kx tk) (hv:PE X value tv):PE X (.Dict [some kx] [value] pos) (W3u X.K tk tv):=by
  refine ⟨fun pins s σ H Q I q=>?_⟩
  have hn:=I.hok.fresh (Nat.le_refl s.heap.objs.size)
  have I1:=I.laid (a:=s.heap.objs.size) (o:=TDo s.heap.objs.size []) (h':=s.heap.push { cls := .type "dict",data := .dict #[] }) (t':=s.toks) (fun _ _ q=>Heap.get?_push_of_some _ q) (Nat.le_refl _) (X0m s.heap I.big)
  refine wpAny_Dict_any rfl rfl (by simp) (by simp) (pairTrees_cons_walk (thn (hk.run pins _ σ _ _ I1 (q _ hn)) fun u s1 ⟨y,H1,J1,ry,q1⟩=>thn (hv.run pins s1 σ H1 _ J1 q1) fun w2 s2 ⟨v,H2,I2,rv,b,k,ey,e,t,q2⟩=>pairTrees_nil_walk ?_))
  subst ey
  obtain rfl:u=Value.ref b:=ry
  obtain ⟨hd,ys,rel,dd⟩:=Y8t hw I2 ⟨.inl e,fun _ h=>nomatch h⟩
  cases rel
  unfold storeAll
  rw [List.forIn_cons]
  refine wpAny_bind (wpAny_bind (wpAny_dictSet_heap (hsz:=Nat.zero_le _) (knd:=tupleKind (leafKind X.prog X.w)) (show X.A.units < cLine by omega) (Y5e I2 t) dd fun h' dd' hs=>wpAny_pure ?_))
  dsimp only
  rw [List.forIn_nil]
  refine wpAny_pure ⟨.ref s.heap.objs.size,_,?_,rfl,q2⟩
  have he:∃ q,h'.get? s.heap.objs.size=some q:=let ⟨q,_,_,hq,_⟩:=dd'; ⟨q,hq⟩
  exact d_write I2 (by rw [e]; exact True.intro) hs he (X6b hw hd (.cons ⟨rfl,rfl,rv⟩ .nil) dd')
end
end Bv
namespace Bv
open PySem PySem.Spec L2
open PyProof.Rows hiding St
variable [HasW]
section
variable {α:Type}
def Y82 (kvs:List (D × α)) (q:List Leaf):Option α:=(kvs.find? fun p=>decide (p.1.tkey?=some q)).map (·.2)
def W0r (kvs:List (D × α)) (k:D) (q:List Leaf) (v:α):List (D × α):=if (kvs.any fun p=>decide (p.1.tkey?=some q))=true then kvs.map (fun p=>if p.1.tkey?=some q then (p.1,v) else p) else kvs++[(k,v)]
end
def tdX (S:Sto):X→Option (List (D × X))
  | .d _=>none
  | .r n=>match S[n]? with
    | some (.tdc kvs)=>some kvs
    | some (.tfc kvs)=>some kvs
    | _=>none
def tkX (S:Sto) (x y:X):Option (List (D × X) × D × List Leaf):=(tdX S x).bind fun kvs=>match y with
  | .d k=>(k.tkey?).map fun q=>(kvs,k,q)
  | .r _=>none
def tdW (S:Sto):X→Option (List (D × X))
  | .d _=>none
  | .r n=>match S[n]? with
    | some (.tdc kvs)=>some kvs
    | _=>none
def tkW (S:Sto) (x y:X):Option (List (D × X) × D × List Leaf):=(tdW S x).bind fun kvs=>match y with
  | .d k=>(k.tkey?).map fun q=>(kvs,k,q)
  | .r _=>none
abbrev KVT (K:PySem.W.Frag) (W:Wd) (ρ:List Addr) (H:Hp):List (D × X)→List TX→Prop:=Paired fun (p:D × X) (q:TX)=>p.1.tkey?=some q.1∧AV K W H p.1 (.ref q.2.1)∧AX K W ρ H p.2 q.2.2
theorem X77 {K:PySem.W.Frag} {W:Wd} {H:Hp}:∀ {ds:List D} {vs:List V} {ks:List Leaf},AVs K W H ds vs→leafs? ds=some ks→LVs ks vs
  | _,_,_, .nil,e=>by cases e; exact .nil
  | d :: ds,v :: vs,ks, .cons h t,e=>by
    have e:(match d.leaf?,leafs? ds with
      | some k,some l=>some (k :: l)
      | _,_=>none)=some ks:=e
    cases q:d.leaf? with
    | none=>rw [q] at e; cases e
    | some k =>
      cases q2:leafs? ds with
      | none=>rw [q,q2] at e; cases e
      | some l =>
        rw [q,q2] at e
        cases e
        refine .cons ?_ (X77 t q2)
        cases h with
        | non=>cases q; rfl
        | bl b=>cases q; exact .inr ⟨b,rfl,rfl⟩
        | int i=>cases q; exact .inl rfl
        | str _=>cases q; rfl
        | _=>cases q
theorem Y8b {K:PySem.W.Frag} {W:Wd} {H:Hp} {k:D} {q:List Leaf} {v:V} (h:k.tkey?=some q) (a:AV K W H k v):∃ b,v = .ref b∧X0r K H b q:=by
  cases k with
  | tup ds =>
    cases a with
    | tup t hs=>exact ⟨_,rfl,_,t.sq,X77 hs h⟩
  | _=>cases h
section
variable {K:PySem.W.Frag} {W W':Wd} {ρ ρ':List Addr} {H H':Hp} {kvs:List (D × X)} {xs:List TX} {q:List Leaf}
theorem KVT.mv (m:Mv W H W' H') (p:ρ <+: ρ') (h:KVT K W ρ H kvs xs):KVT K W' ρ' H' kvs xs:=Paired.mapP h fun _ _ z=>⟨z.1,z.2.1.mv m,z.2.2.mv m p⟩
theorem KVT.keys (h:KVT K W ρ H kvs xs):∀ t ∈ xs,X0r K H t.2.1 t.1:=by
  induction h with
  | nil=>intro t ht; exact nomatch ht
  | @cons p x ps ys h1 _ ih =>
    intro t ht
    rcases List.mem_cons.mp ht with e | ht
    · subst e
      obtain ⟨b,e,tk⟩:=Y8b h1.1 h1.2.1
      cases e
      exact tk
    · exact ih t ht
theorem X6c {p:D × X} {x:TX} (h:p.1.tkey?=some x.1):decide (p.1.tkey?=some q)=decide (x.1=q):=by
  rw [h]
  by_cases e:x.1=q
  · rw [decide_eq_true e,decide_eq_true (by rw [e])]
  · rw [decide_eq_false e,decide_eq_false fun z=>e (Option.some.inj z)]
theorem KVT.look (h:KVT K W ρ H kvs xs) (q:List Leaf):(∃ d v,Y82 kvs q=some d∧atT xs q=some v∧AX K W ρ H d v) ∨ (Y82 kvs q=none∧atT xs q=none):=by
  induction h with
  | nil=>exact .inr ⟨rfl,rfl⟩
  | @cons p x ps ys h1 _ ih =>
    have e:=X6c (q:=q) h1.1
    unfold Y82 atT at *
    rw [List.find?_cons,List.find?_cons,e]
    cases c:decide (x.1=q) with
    | true=>exact .inl ⟨_,_,rfl,rfl,h1.2.2⟩
    | false=>exact ih
theorem KVT.put {k:D} {b:Addr} {d:X} {v:V} (h:KVT K W ρ H kvs xs) (hk:k.tkey?=some q) (ak:AV K W H k (.ref b)) (av:AX K W ρ H d v):KVT K W ρ H (W0r kvs k q d) (Y9v xs q b v):=by
  have ha:(kvs.any fun p=>decide (p.1.tkey?=some q))=(xs.any fun x=>decide (x.1=q)):=by
    induction h with
    | nil=>rfl
    | @cons p x ps ys h1 _ ih=>rw [List.any_cons,List.any_cons,ih,X6c h1.1]
  unfold W0r Y9v
  rw [ha]
  split
  · have g:∀ {kvs:List (D × X)} {xs:List TX},KVT K W ρ H kvs xs→KVT K W ρ H (kvs.map fun p=>if p.1.tkey?=some q then (p.1,d) else p) (xs.map fun x=>if x.1=q then (x.1,x.2.1,v) else x):=by
      intro kvs xs h
      induction h with
      | nil=>exact .nil
      | @cons p x ps ys h1 _ ih =>
        rw [List.map_cons,List.map_cons]
        refine .cons ?_ ih
        have e:=X6c (q:=q) h1.1
        by_cases c:x.1=q
        · rw [if_pos c,if_pos (of_decide_eq_true (e.trans (decide_eq_true c)))]; exact ⟨h1.1,h1.2.1,av⟩
        · rw [if_neg c,if_neg (of_decide_eq_false (e.trans (decide_eq_false c)))]; exact h1
    exact g h
  · exact Paired.append h (.cons ⟨hk,ak,av⟩ .nil)
end
theorem W0g {S:Sto} {x y:X} {p:List (D × X) × D × List Leaf} (h:tkX S x y=some p):∃ n,x = .r n∧(S[n]?=some (.tdc p.1) ∨ S[n]?=some (.tfc p.1))∧y = .d p.2.1∧p.2.1.tkey?=some p.2.2:=by
  obtain ⟨kvs,h1,h2⟩:=Option.bind_eq_some_iff.mp h
  cases y with
  | r _=>cases h2
  | d k =>
    obtain ⟨q,hq,e⟩:=Option.map_eq_some_iff.mp (show (k.tkey?).map (fun q=>(kvs,k,q))=some p from h2)
    subst e
    cases x with
    | d _=>cases h1
    | r n =>
      refine ⟨n,rfl,?_,rfl,hq⟩
      unfold tdX at h1
      cases q2:S[n]? with
      | none=>simp only [q2] at h1; cases h1
      | some o =>
        simp only [q2] at h1
        cases o with
        | tdc kvs'=>cases h1; exact .inl rfl
        | tfc kvs'=>cases h1; exact .inr rfl
        | _=>cases h1
theorem W2o {K:PySem.W.Frag} {Z:Wd} {ρ:List Addr} {S:Sto} {H:Hp} {x y:Bv.X} {v u:V} {p:List (D × Bv.X) × D × List Leaf} (st:Sta K Z ρ S H) (a:AX K (Wn Z ρ) ρ H x v) (b:AX K (Wn Z ρ) ρ H y u) (h:tkX S x y=some p) :
    ∃ n c d xs,x = .r n∧ρ[n]?=some c∧(S[n]?=some (.tdc p.1) ∨ S[n]?=some (.tfc p.1))∧v = .ref c∧u = .ref d∧Rd H c (TDo c xs)∧KVT K (Wn Z ρ) ρ H p.1 xs∧X0r K H d p.2.2∧AV K (Wn Z ρ) H p.2.1 (.ref d)∧p.2.1.tkey?=some p.2.2:=by
  obtain ⟨n,rfl,hS,rfl,hq⟩:=W0g h
  cases a with
  | r e =>
    rename_i c
    cases b with
    | d b =>
      obtain ⟨d,rfl,tk⟩:=Y8b hq b
      rcases hS with hS | hS
      · obtain ⟨xs,h1,kv⟩:=st.ob n _ _ hS e
        exact ⟨n,c,d,xs,rfl,e, .inl hS,rfl,rfl, .inl h1,kv,tk,b,hq⟩
      · obtain ⟨ob,xs,h1,kv⟩:=st.ob n _ _ hS e
        exact ⟨n,c,d,xs,rfl,e, .inr hS,rfl,rfl, .inr ⟨ob,h1⟩,kv,tk,b,hq⟩
theorem W0f {S:Sto} {x y:X} {p:List (D × X) × D × List Leaf} (h:tkW S x y=some p):∃ n,x = .r n∧S[n]?=some (.tdc p.1)∧y = .d p.2.1∧p.2.1.tkey?=some p.2.2:=by
  obtain ⟨kvs,h1,h2⟩:=Option.bind_eq_some_iff.mp h
  cases y with
  | r _=>cases h2
  | d k =>
    obtain ⟨q,hq,e⟩:=Option.map_eq_some_iff.mp (show (k.tkey?).map (fun q=>(kvs,k,q))=some p from h2)
    subst e
    cases x with
    | d _=>cases h1
    | r n =>
      refine ⟨n,rfl,?_,rfl,hq⟩
      unfold tdW at h1
      cases q2:S[n]? with
      | none=>simp only [q2] at h1; cases h1
      | some o =>
        simp only [q2] at h1
        cases o with
        | tdc kvs'=>cases h1; rfl
        | _=>cases h1
theorem W2n {K:PySem.W.Frag} {Z:Wd} {ρ:List Addr} {S:Sto} {H:Hp} {x y:Bv.X} {v u:V} {p:List (D × Bv.X) × D × List Leaf} (st:Sta K Z ρ S H) (a:AX K (Wn Z ρ) ρ H x v) (b:AX K (Wn Z ρ) ρ H y u) (h:tkW S x y=some p) :
    ∃ n c d xs,x = .r n∧ρ[n]?=some c∧S[n]?=some (.tdc p.1)∧v = .ref c∧u = .ref d∧H c=some (TDo c xs)∧KVT K (Wn Z ρ) ρ H p.1 xs∧X0r K H d p.2.2∧AV K (Wn Z ρ) H p.2.1 (.ref d)∧p.2.1.tkey?=some p.2.2:=by
  obtain ⟨n,rfl,hS,rfl,hq⟩:=W0f h
  cases a with
  | r e =>
    rename_i c
    obtain ⟨xs,h1,kv⟩:=st.ob n _ _ hS e
    cases b with
    | d b =>
      obtain ⟨d,rfl,tk⟩:=Y8b hq b
      exact ⟨n,c,d,xs,rfl,e,hS,rfl,rfl,h1,kv,tk,b,hq⟩
def X2u (mo mi:M):M:=fun e S=>(mo e S).bind fun x S1=>(mi e S1).bind fun y S2=>Y3b ((tkX S2 x y).bind fun p=>Y82 p.1 p.2.2) S2
def X48 (neg:Bool) (mi mo:M):M:=fun e S=>(mi e S).bind fun y S1=>(mo e S1).bind fun x S2=>Y3b ((tkX S2 x y).map fun p => .d (.bl ((Y82 p.1 p.2.2).isSome ^^ neg))) S2
def X49:M:=fun _ S => .ok (.r S.length) (S++[.tdc []])
def W2u (y v:X) (S:Sto):R X:=match y with
  | .d k=>if k.tkey?.isSome then .ok (.r S.length) (S++[.tdc [(k,v)]]) else .bad
  | .r _ => .bad
def X1a (mk mv:M):M:=fun e S=>(mk e S).ne.bind fun y S1=>(mv e S1).ne.bind fun v S2=>W2u y v S2
def W0h (S:Sto) (x y:X):Option (Nat × List (D × X) × D × List Leaf):=match x with
  | .r n=>(tkW S x y).bind fun p=>if decide (p.1.length < sizeLine) then some (n,p) else none
  | .d _=>none
def X28 (mo mi mv:M):MS:=fun e S=>(mv e S).so e fun z S1=>(mo e S1).so e fun x S2=>(mi e S2).so e fun y S3=>match W0h S3 x y with
  | some p => .go (.nx e) (S3.set p.1 (.tdc (W0r p.2.1 p.2.2.1 p.2.2.2 z)))
  | none => .bad
section
variable {X:Cx} {Wx:WX} {pos pos' apos cpos:Pos} {o i e f value kx:Expr} {mo mi mx mv mk:M}
theorem X1b (hw:X.w=HasW.w) (hu:X.A.units + 1 < cLine) (ho:ME X Wx o mo) (hi:ME X Wx i mi) (hs:NoSl i:=by intro _ _; rfl):ME X Wx (.Subscript o i pos) (X2u mo mi) :=
  PE.of (X9y hw hu ho hi hs) fun σ H Q ⟨Z,ρ,e,S,st,ev,p⟩=>X9 (rel:=AX X.K) st ev p fun ρ1 H1 v x S1 st1 g1 ev1 a1 p1=>X9 (rel:=AX X.K) st1 ev1 p1 fun ρ2 H2 u y S2 st2 g2 ev2 a2 p2=>by
    have ax:=a1.mv (g2.mv st1) g2.pre
    obtain ⟨d,hl,p3⟩:=(show Z43 X.K Z ρ2 H2 Wx σ Q (Y3b ((tkX S2 x y).bind fun p=>Y82 p.1 p.2.2) S2) from p2).opt
    obtain ⟨p,h1,h2⟩:=Option.bind_eq_some_iff.mp hl
    obtain ⟨n,c,b,xs,rfl,_,_,rfl,rfl,hc,kv,tk,_,_⟩:=W2o st2 ax a2 h1
    rcases kv.look p.2.2 with ⟨d2,w,e1,e2,aw⟩ | ⟨e1,_⟩
    · rw [h2] at e1; cases e1
      exact ⟨c,b,xs,p.2.2,w,rfl,rfl,⟨hc,kv.keys⟩,tk,e2,W1.ret0 p3 st2 aw⟩
    · rw [h2] at e1; cases e1
theorem W0e {neg:Bool} {σ:L2.St} {H:Hp} {Q:VK} (h:RE X.K Wx (X48 neg mi mo) σ H Q):W39 X.K neg (RE X.K Wx mi) (RE X.K Wx mo) σ H Q:=by
  obtain ⟨Z,ρ,e,S,st,ev,p⟩:=h
  refine X9 (rel:=AX X.K) st ev p fun ρ1 H1 u y S1 st1 g1 ev1 a1 p1=>X9 (rel:=AX X.K) st1 ev1 p1 fun ρ2 H2 v x S2 st2 g2 ev2 a2 p2=>?_
  have ay:=a1.mv (g2.mv st1) g2.pre
  obtain ⟨d,hl,p3⟩:=(show Z43 X.K Z ρ2 H2 Wx σ Q (Y3b ((tkX S2 x y).map fun p => .d (.bl ((Y82 p.1 p.2.2).isSome ^^ neg))) S2) from p2).opt
  obtain ⟨p,h1,rfl⟩:=Option.map_eq_some_iff.mp hl
  obtain ⟨n,c,b,xs,rfl,_,_,rfl,rfl,hc,kv,tk,_,_⟩:=W2o st2 a2 ay h1
  have e:(Y82 p.1 p.2.2).isSome=(atT xs p.2.2).isSome:=by rcases kv.look p.2.2 with ⟨d2,w,e1,e2,_⟩ | ⟨e1,e2⟩ <;> rw [e1,e2] <;> rfl
  rw [e] at p3
  exact ⟨c,b,xs,p.2.2,rfl,rfl,⟨hc,kv.keys⟩,tk,W1.ret0 p3 st2 (.d (.bl _))⟩
theorem X7d (hw:X.w=HasW.w) (hu:X.A.units + 1 < cLine) (hi:ME X Wx i mi) (ho:ME X Wx o mo):PC X .NotIn i o (RE X.K Wx (X48 true mi mo)):=⟨fun pins s σ H Q I h=>(X5u hw hu hi ho).run pins s σ H Q I (W0e h)⟩
theorem X5h (hw:X.w=HasW.w) (hu:X.A.units + 1 < cLine) (hi:ME X Wx i mi) (ho:ME X Wx o mo) (hb:behindInMarks .NotIn o=false:=by rfl):MT X Wx (.Compare i [.NotIn] [o] pos) (Q0 (X48 true mi mo)):=W1y (X7d hw hu hi ho) hb
theorem X63:ME X Wx (.Dict [] [] pos) X49:=PE.of X9z fun σ H Q ⟨Z,ρ,e,S,st,ev,p⟩=>fun a ha=>by
  have k:=U3 (o:=TDo a []) ha
  obtain ⟨s1,g1⟩:=st.push (o' := .tdc []) ha k ⟨[],upd_same, .nil⟩
  exact p _ _ _ s1 g1 (.r (by rw [st.len]; simp))
theorem X1c (hw:X.w=HasW.w) (hu:X.A.units + 1 < cLine) (ho:ME X Wx o mo) (hi:ME X Wx i mi) (hv:ME X Wx value mv) (hs:swapsWith value (some (.Subscript o i pos')) pos.line X.env=pure false:=by rfl):MP X Wx (.Assign [.Subscript o i pos'] value pos) (X28 mo mi mv) :=
  PS.of (X92 hw hu ho hi hv hs) fun D σ H ⟨Z,ρ,e,S,st,ev,q⟩=>by
    refine Z1r (rel:=AX X.K) st ev q fun ρ1 H1 w z S1 s1 g1 ev1 a1 q1=>Z1r (rel:=AX X.K) s1 ev1 q1 fun ρ2 H2 v x S2 s2 g2 ev2 a2 q2=>Z1r (rel:=AX X.K) s2 ev2 q2 fun ρ3 H3 u y S3 s3 g3 ev3 a3 q3=>?_
    have az:=(a1.mv (g2.mv s1) g2.pre).mv (g3.mv s2) g3.pre
    have ax:=a2.mv (g3.mv s2) g3.pre
    have q3:Z28 X.K Z ρ3 H3 Wx D (match W0h S3 x y with
      | some p => .go (.nx e) (S3.set p.1 (.tdc (W0r p.2.1 p.2.2.1 p.2.2.2 z)))
      | none => .bad):=q3
    cases h:W0h S3 x y with
    | none=>rw [h] at q3; exact q3.elim
    | some p =>
      rw [h] at q3
      have q9:Z28 X.K Z ρ3 H3 Wx D (.go (.nx e) (S3.set p.1 (.tdc (W0r p.2.1 p.2.2.1 p.2.2.2 z)))):=q3
      cases x with
      | d _=>cases h
      | r n =>
        obtain ⟨p2,h1,h2⟩:=Option.bind_eq_some_iff.mp (show (tkW S3 (.r n) y).bind (fun p=>if decide (p.1.length < sizeLine) then some (n,p) else none)=some p from h)
        obtain ⟨h3,h4⟩:=Z5k h2
        cases h4
        obtain ⟨n',c,b,xs,e0,ha,hS,rfl,rfl,hc,kv,tk,ak,hk⟩:=W2n s3 ax a3 h1
        cases e0
        have kv2:=kv.put hk ak az
        have inρ:c ∈ ρ3:=List.mem_of_getElem? ha
        have m:Mv (Wn Z ρ3) H3 (Wn Z ρ3) (upd H3 c (TDo c (Y9v xs p2.2.2 b w))):=fun b o hb z=>⟨hb,by rw [upd_ne (fun y=>hb (.inr (by rw [y]; exact inρ)))]; exact z⟩
        obtain ⟨s4,g4⟩:=s3.put (o' := .tdc (W0r p2.1 p2.2.1 p2.2.2 z)) (u:=TDo c (Y9v xs p2.2.2 b w)) ha (fun _ _ z=>by rw [hc] at z; cases z) ⟨_,upd_same,KVT.mv m (List.prefix_refl _) kv2⟩
        exact ⟨c,b,xs,p2.2.2,rfl,rfl,hc,kv.keys,tk,by rw [← Paired.length kv]; exact of_decide_eq_true h3,q9 ρ3 _ _ s4 g4 (ev3.mv (g4.mv s3) (List.prefix_refl _))⟩
theorem X2y (hw:X.w=HasW.w) (hu:X.A.units + 1 < cLine) (hk:ME X Wx kx mk) (hv:ME X Wx value mv):ME X Wx (.Dict [some kx] [value] pos) (X1a mk mv) :=
  PE.of (X90 hw hu hk hv) fun σ H Q ⟨Z,ρ,e,S,st,ev,p⟩=>fun a ha=>by
    have na:¬ Wn Z ρ a:=st.fresh ha
    have m0:Mv (Wn Z ρ) H (Wn (fun c=>Z c ∨ c=a) ρ) (upd H a (TDo a [])):=fun c o hc q=>by
      have ne:c ≠ a:=fun z=>by rw [z,ha] at q; cases q
      exact ⟨fun z=>z.elim (fun z=>z.elim (fun z=>hc (.inl z)) ne) fun z=>hc (.inr z),by rw [upd_ne ne]; exact q⟩
    have k0:=U3 (o:=TDo a []) ha
    have st0:Sta X.K (fun c=>Z c ∨ c=a) ρ S (upd H a (TDo a [])):=⟨st.nd,fun c hc=>by
      rcases hc with hc | rfl
      · obtain ⟨h1,o,h2⟩:=st.z c hc
        exact ⟨h1,o,k0 c o h2⟩
      · exact ⟨fun z=>na (.inr z),_,upd_same⟩,st.len,fun n o c e1 e2=>AO.mv m0 (List.prefix_refl _) (k0 c) (st.ob n o c e1 e2)⟩
    refine ⟨_,ρ,e,S,st0,ev.mv m0 (List.prefix_refl _),?_⟩
    have p:Z43 X.K Z ρ H Wx σ Q ((mk e S).ne.bind fun y S1=>(mv e S1).ne.bind fun v S2=>W2u y v S2):=p
    cases hm:mk e S with
    | err C fs S1=>rw [hm] at p; exact p.elim
    | bad=>rw [hm] at p; exact p.elim
    | ok y S1 =>
      rw [hm] at p
      have p:Z43 X.K Z ρ H Wx σ Q ((mv e S1).ne.bind fun v S2=>W2u y v S2):=p
      intro ρ1 H1 yv s1 g1 a1
      obtain ⟨n1,h1a⟩:=g1.keep a _ (fun z=>na (.inr z)) upd_same
      refine ⟨_,ρ1,e,S1,s1,(ev.mv m0 (List.prefix_refl _)).mv (g1.mv st0) g1.pre,?_⟩
      cases hm2:mv e S1 with
      | err C fs S2=>rw [hm2] at p; exact p.elim
      | bad=>rw [hm2] at p; exact p.elim
      | ok v S2 =>
        rw [hm2] at p
        have p:Z43 X.K Z ρ H Wx σ Q (W2u y v S2):=p
        intro ρ2 H2 w s2 g2 a2
        obtain ⟨n2,h2a⟩:=g2.keep a _ n1 h1a
        cases y with
        | r _=>exact p.elim
        | d k =>
          have p:Z43 X.K Z ρ H Wx σ Q (if k.tkey?.isSome then .ok (.r S2.length) (S2++[.tdc [(k,v)]]) else .bad):=p
          by_cases c:k.tkey?.isSome=true
          case neg=>rw [if_neg c] at p; exact p.elim
          rw [if_pos c] at p
          obtain ⟨q,hq⟩:=Option.isSome_iff_exists.mp c
          have a1':=a1.mv (g2.mv s1) g2.pre
          cases a1' with
          | d ak =>
            obtain ⟨b,rfl,tk⟩:=Y8b hq ak
            refine ⟨b,q,rfl,h2a,tk,?_⟩
            have nZ:∀ c,Z c→c ≠ a:=fun c hc z=>by
              obtain ⟨_,o,h2⟩:=st.z c hc
              rw [z,ha] at h2; cases h2
            have m2:Mv (Wn (fun c=>Z c ∨ c=a) ρ2) H2 (Wn Z (ρ2++[a])) (upd H2 a (TDo a [(q,b,w)])):=fun c o hc z=>by
              have ne:c ≠ a:=fun y=>hc (.inl (.inr y))
              refine ⟨fun y=>y.elim (fun y=>hc (.inl (.inl y))) fun y=>?_,by rw [upd_ne ne]; exact z⟩
              rcases List.mem_append.mp y with y | y
              · exact hc (.inr y)
              · exact ne (by simpa using y)
            have sN:Sta X.K Z (ρ2++[a]) (S2++[.tdc [(k,v)]]) (upd H2 a (TDo a [(q,b,w)])):=by
              refine ⟨?_,fun c hc=>⟨fun z=>?_,?_⟩,by rw [List.length_append,List.length_append,s2.len]; rfl,fun n o c e1 e2=>?_⟩
              · rw [List.nodup_append]
                exact ⟨s2.nd,by simp,fun x hx y hy z=>by
                  have:y=a:=by simpa using hy
                  subst this; subst z; exact n2 hx⟩
              · rcases List.mem_append.mp z with z | z
                · exact (s2.z c (.inl hc)).1 z
                · exact nZ c hc (by simpa using z)
              · obtain ⟨o,h2⟩:=(s2.z c (.inl hc)).2
                exact ⟨o,by rw [upd_ne (nZ c hc)]; exact h2⟩
              · by_cases hn:n < ρ2.length
                · rw [List.getElem?_append_left hn] at e2
                  rw [List.getElem?_append_left (by rw [s2.len]; exact hn)] at e1
                  have ne:c ≠ a:=fun z=>n2 (by rw [← z]; exact List.mem_of_getElem? e2)
                  exact AO.mv m2 (List.prefix_append _ _) (fun u z=>by rw [upd_ne ne]; exact z) (s2.ob n o c e1 e2)
                · rw [List.getElem?_append_right (by omega)] at e2
                  rw [List.getElem?_append_right (by rw [s2.len]; omega)] at e1
                  have hz:n - ρ2.length=0:=by
                    have:=(List.getElem?_eq_some_iff.mp e2).1
                    simp at this; omega
                  rw [hz] at e2
                  rw [s2.len,hz] at e1
                  cases e1; cases e2
                  exact ⟨_,upd_same, .cons ⟨hq,ak.mv m2,a2.mv m2 (List.prefix_append _ _)⟩ .nil⟩
            have gN:Go ρ H (ρ2++[a]) (upd H2 a (TDo a [(q,b,w)])):=by
              refine ⟨(g1.pre.trans g2.pre).trans (List.prefix_append _ _),fun c o hc z=>?_,fun c ob u z=>?_⟩
              · have ne:c ≠ a:=fun y=>by rw [y,ha] at z; cases z
                obtain ⟨h3,h4⟩:=g1.keep c o hc (k0 c o z)
                obtain ⟨h5,h6⟩:=g2.keep c o h3 h4
                exact ⟨fun y=>by
                  rcases List.mem_append.mp y with y | y
                  · exact h5 y
                  · exact ne (by simpa using y),by rw [upd_ne ne]; exact h6⟩
              · have ne:c ≠ a:=fun y=>by rw [y,ha] at z; cases z
                rw [upd_ne ne]
                exact g2.fz c ob u (g1.fz c ob u (k0 c _ z))
            exact p _ _ _ sN gN (.r (by rw [s2.len]; simp))
end
end Bv
namespace Bv
open PySem PySem.Spec L2
open PyProof.Rows hiding St
variable [HasW]
section
variable {P:Program} {w:World} {κ:Type} [DecidableEq κ] {knd:PySem.KeyKind P w κ} {A:Around} {E:Value→Shared→Prop} {s:Shared} {a:Addr} {xs:List κ} {k:κ} {x:Value}
def W2w (knd:PySem.KeyKind P w κ) (e:Int × Value) (k:κ):Prop:=knd.is k e.2=true∧e.1=knd.hash k∧e.2.scannable=true
structure TabOk (knd:PySem.KeyKind P w κ) (es:Array (Int × Value)) (t:SetTable) (ks xs:List κ):Prop where
  good:Paired (W2w knd) es.toList ks
  perm:ks.Perm xs
  nd:xs.Nodup
  few:es.size < scanBound
  fits:t.fits es.size=true
  ris:Ris t.place.toList
  led:w.params.followText "set-order" = true ∨ t.led=true
end
section
variable {P:Program} {w:World} {A:Around} {E:Value→Shared→Prop} {s:Shared} {a:Addr} {xs:List Str}
end
end Bv
namespace Bv
open PySem PySem.Spec L2
open PyProof.Rows hiding St
variable [HasW]
section
variable {X:Cx}
end
end Bv
namespace Bv
open PySem PySem.Spec L2
open PyProof.Rows hiding St
variable [HasW]
section
variable {X:Cx}
end
end Bv
namespace Bv
open PySem PySem.Spec L2
open PyProof.Rows hiding St
variable [HasW]
section
variable {X:Cx} {Wx:WX} {pos p:Pos} {tg iter elt c:Expr} {ifs:List Expr} {mi:MIt} {mt:MG Bool} {me:M} {t:Tg} {vs:List Nat}
end
end Bv
namespace Bv
open PySem PySem.Spec L2
open PyProof.Rows hiding St
section
variable [HasW] {X:Cx} {Wx:WX} {k j n:Nat} {f:Addr} {dxs:List D}
theorem Here.callED {g:List Bv.X→Sto→R Bv.X} (h:Here X Wx k) (c:KeptD X.prog X.w X.K X.mg X.base j f (spE X.K (n + dxs.length) g) dxs) (hj:j ≤ k:=by decide):X37 X Wx (.ref f) n (X5 dxs g):=by
  obtain ⟨fd,ps,dvs,ds,F,b,d⟩:=c.ex
  have e:=AVs.len_d d
  have q:=W04 h.tk h.gu F (h.room.mono hj) b d (by rw [e]; omega)
  rw [e,Nat.add_sub_cancel] at q
  exact q
end
end Bv
namespace Bv
open PySem PySem.Spec L2
open PyProof.Rows hiding St
variable [HasW]
end Bv
namespace Bv
open PySem PySem.Spec L2
open PyProof.Rows hiding St
variable [HasW]
section
variable {X:Cx} {Wx:WX} {pos pt p2:Pos} {es tgs:List Expr} {k1 k2} {ms:MG (List Bv.X)} {ts:List Tg}
end
end Bv
namespace Bv
open PySem PySem.Spec L2
open PyProof.Rows hiding St
variable [HasW]
section
variable {X:Cx} {Wx:WX} {pos p1 p2:Pos} {n1 n2:Nat} {k1 k2:Str} {v1 v2:Expr} {m1 m2:M}
end
end Bv
namespace Bv
open PySem PySem.Spec L2
open PyProof.Rows hiding St
section
open Builtin Builtin.Int
end
section
variable {prog:Program} {w:World} {A:Around} {E:Value→Shared→Prop} {s:Shared} {t:Tok}
end
variable [HasW]
section
variable {X:Cx} {Wx:WX} {e:Expr} {te:TE} {pos p1 p2:Pos} {n:Nat} {m:M}
inductive MJ (X:Cx) (Wx:WX):List Expr→List M→Prop where
  | nil:MJ X Wx [] []
  | cons {e:Expr} {m:M} {es:List Expr} {ms:List M} (h:ME X Wx e m) (r:MJ X Wx es ms):MJ X Wx (e :: es) (m :: ms)
end
end Bv
namespace Bv
open PySem PySem.Spec L2
open PyProof.Rows hiding St
variable [HasW]
section
variable {K:PySem.W.Frag}
end
section
variable {K:PySem.W.Frag}
end
section
variable {X:Cx} {Wx:WX} {apos cpos tpos pos p1 p2 p3 p:Pos} {e tg:Expr} {m:M} {n:Nat}
end
end Bv
namespace Bv
open PySem PySem.Spec L2
open PyProof.Rows hiding St
variable [HasW]
section
variable {X:Cx} {Wx:WX} {tg a b c:Expr} {p pos:Pos} {ms:MG (List Bv.X)}
end
end Bv
namespace Bv
open PySem PySem.Spec L2
open PyProof.Rows hiding St
variable [HasW]
end Bv
namespace Bv
open PySem PySem.Spec L2
open PyProof.Rows hiding St
variable [HasW]
end Bv
namespace Bv
open PySem PySem.Spec L2
open PyProof.Rows hiding St
variable [HasW]
section
variable {X:Cx} {Wx:WX} {pos pt:Pos} {k1:Nat} {a:Expr} {tgs:List Expr} {ts:List Tg} {ma:M}
end
end Bv
namespace Bv
open PySem PySem.Spec L2
open PyProof.Rows hiding St
variable [HasW]
section
variable {X:Cx} {Wx:WX} {pos p1 p2 p3 p4:Pos} {e:Expr} {m:M} {n n2:Nat}
end
end Bv
namespace L2
open PySem PySem.Spec PyProof.Rows
section
variable {X:Cx}
end
end L2
namespace Bv
open PySem PySem.Spec L2
open PyProof.Rows hiding St
variable [HasW]
section
variable {X:Cx} {Wx:WX} {o e elt tg iter a:Expr} {ifs:List Expr} {st:Stmt} {rest:List Stmt} {mo m me:M} {mi:MIt} {mt:MG Bool} {t:Tg} {m1 m2:MS} {pos apos c0 c1:Pos} {y z:Str} {j k:Nat}
end
end Bv
namespace ZlL
open PySem PySem.Calls PySem.Spec PyProof.Rows PySem.W
section
variable {prog:Program} {w:World} {A:Around} {E:Value→Shared→Prop} {s:Shared} {z TI TO i1 i2 l1 l2 S:Addr} {xs ys:Array Value} {i:Nat}
end
structure ZG (xs ys:Array Value) (lo:Addr) (h:Heap) (as:List Addr):Prop where
  rise:as.Pairwise (· < ·)
  above:∀ a ∈ as,lo < a
  pairs:∀ (j:Nat) (a:Addr),as[j]?=some a→∃ x y,xs[j]?=some x∧ys[j]?=some y∧IsPair h a x y
section
variable {prog:Program} {w:World} {A:Around} {s:Shared} {R:Result→Shared→Prop} {z TI TO i1 i2 l1 l2 S:Addr} {xs ys:Array Value}
end
section
variable {prog:Program} {w:World} {A:Around} {E:Value→Shared→Prop} {s:Shared} {z TI TO i1 i2 l1 l2 S:Addr} {xs ys:Array Value}
end
end ZlL
namespace ZlL
open PySem PySem.Spec PyProof.Rows L2 LiI
section
variable {X:Cx} {e e2:Expr} {ta:TA} {p p2 pz pos:Pos}
end
end ZlL
namespace Bv
open PySem PySem.Spec L2
open PyProof.Rows hiding St
variable [HasW]
end Bv
namespace Bv
open PySem PySem.Spec L2
open PyProof.Rows hiding St
variable [HasW]
section
variable {X:Cx} {Wx:WX} {pos:Pos} {tg iter elt c:Expr} {ifs:List Expr} {mi:MIt} {mt:MG Bool} {me:M} {t:Tg} {vs:List Nat}
end
end Bv
namespace Bv
open PySem PySem.Spec L2
open PyProof.Rows hiding St
variable [HasW]
end Bv
namespace Bv
open PySem PySem.Spec L2
open PyProof.Rows hiding St
variable [HasW]
section
variable {X:Cx} {Wx:WX} {o i a b:Expr} {mo mi:M} {ms:MG (List Bv.X)} {pos p1 p2 pt pt2:Pos} {kt k2:Nat} {j:Nat} {y:Str}
end
end Bv
namespace Bv
open PySem PySem.Spec L2
open PyProof.Rows hiding St
variable [HasW]
end Bv
namespace Bv
open PySem PySem.Spec L2
open PyProof.Rows hiding St
variable [HasW]
section
variable {prog:Program} {w:World} {A:Around} {R:Result→Shared→Prop} {it:Addr} {fp wr:List Addr} {G:Array GenState→Array GenState→Prop} {n:Nat} {P:Nat→Value→Prop} {St:Nat→Shared→Prop}
end
section
variable {prog:Program} {w:World} {A:Around} {E:Value→Shared→Prop} {s:Shared}
end
section
variable {prog:Program} {w:World} {A:Around} {E:Value→Shared→Prop} {s:Shared}
end
section
variable {X:Cx}
end
section
variable {X:Cx} {Wx:WX} {p p2 q pos:Pos} {a:Expr} {m:M}
end
end Bv
namespace Bv
open PySem PySem.Spec L2
open PyProof.Rows hiding St
variable [HasW]
section
variable {X:Cx} {Wx:WX} {pos:Pos} {a b:Expr} {ma mb:M}
end
end Bv
namespace Bv
open PySem PySem.Spec L2
open PyProof.Rows hiding St
variable [HasW]
section
variable {X:Cx} {Wx:WX} {st1 st2:Stmt} {rest:List Stmt} {m1 m2 m3:MS}
end
end Bv
namespace Bv
open PySem PySem.Spec L2
open PyProof.Rows hiding St
variable [HasW]
section
variable {X:Cx} {Wx:WX} {pos p1 p2 p3 p4:Pos} {n1 n2 n3 n4:Nat} {k1 k2 k3 k4:Str} {v1 v2 v3 v4:Expr} {m1 m2 m3 m4:M}
end
end Bv
namespace Bv
open PySem PySem.Spec L2
open PyProof.Rows hiding St
variable [HasW]
section
variable {X:Cx} {Wx:WX} {pos pt p2 q1 q2:Pos} {es:List Expr} {o1 i1 o2 i2:Expr} {k1 k2} {ms:MG (List Bv.X)} {mo1 mi1 mo2 mi2:M}
end
end Bv
namespace Bv
open PySem PySem.Spec L2
open PyProof.Rows hiding St
variable [HasW]
section
variable {X:Cx} {Wx:WX} {pos p apos cpos:Pos} {a o e:Expr} {m mo mi:M}
end
def Y17:List X→Sto→R X
  | [x],S=>match (Y11 S x).bind fun kvs=>ints? (kvs.map fun p=>X.d p.1) with
    | some l=>if decide (l.length < 1000) then .ok (.d (.lst ((PySem.W.sortI l).map .int))) S else .bad
    | none => .bad
  | _,_ => .bad
def Y9w:List V→Hp→VK→Prop:=fun xs H Q=>∃ (a:Addr) (kvs:List (Key × V)) (ns:List Int),xs=[.ref a]∧Rd H a (.dK kvs)∧kvs.map (·.1)=ns.map Sum.inl∧ns.length < 1000 ∧
    ∀ (ys:List Int) (p:Addr),ys.Perm ns→ys.Pairwise (· ≤ ·)→H p=none→Q (.ref p) (upd H p (.lst (ys.map V.int)))
theorem X2o:∀ {us:List Value} {ks:List Int},us.length=ks.length→(∀ (j:Nat) (v:Value),us[j]?=some v→∃ (x:Int) (t:Tok),ks[j]?=some x∧v=Value.int x t)→IntsAre us ks
  | [],[],_,_ => .nil
  | u :: us,k :: ks,hl,h=>by
    obtain ⟨x,t,e1,e2⟩:=h 0 u rfl
    have e1':k=x:=Option.some.inj e1
    subst e1'
    subst e2
    exact .cons _ _ (X2o (by simpa using hl) fun j v e=>by simpa using h (j + 1) v (by simpa using e))
  | [],_ :: _,hl,_=>by simp at hl
  | _ :: _,[],hl,_=>by simp at hl
theorem X0y {X:Cx} (hcalm:X.calm=true):CallR X (.builtin "sorted") Y9w:=by
  intro pins s σ H xs us Q I r q
  obtain ⟨a,kvs,ks,ex,hd,hks,h64,q⟩:=q
  subst ex
  rw [Vals.ref1 r]
  obtain ⟨z,lo,vs,rel,dd⟩:=dk_rd I.hok hd
  obtain ⟨ep,hat⟩:=dd.dictAt
  have hkeys:vs.map (·.1)=ks.map Sum.inl:=rel.keys.symm.trans hks
  have hl:vs.length=ks.length:=by
    have e:=congrArg List.length hkeys
    rw [List.length_map,List.length_map] at e
    exact e
  have h16:vs.length ≤ sizeLine:=by rw [hl,sizeLine_eq]; omega
  refine Calls.call_function_entry PyProof.Rows.kind_sorted PyProof.Rows.plain_sorted PyProof.Rows.entry_sorted (PyProof.Rows.args_sorted1 _) ?_
  unfold Builtin.«sorted»
  refine wpAny_bind (m:=checkCount "sorted" 1 1 _) (wpAny_pure ?_)
  refine wpAny_bind (PySem.W.kdu_collect (A:=X.A.in1) (PySem.W.kdl_dict (knd:=mixKind X.prog X.w) (kvs:=vs) (ep:=ep) lo) (I.ok.hd hcalm) hat h16 fun h' tk acc hk hacc=>?_)
  have hal:acc.toList.length=ks.length:=by rw [Array.length_toList,hacc.1,hl]
  have hS:IntsAre acc.toList ks:=X2o hal fun j v e=>by
    obtain ⟨k,x,e1,e2⟩:=hacc.2 j v (by rw [← Array.getElem?_toList]; exact e)
    have e3:(vs.map (·.1))[j]?=some k:=by rw [List.getElem?_map,e1]; all_goals rfl
    rw [hkeys,List.getElem?_map] at e3
    cases e4:ks[j]? with
    | none=>rw [e4] at e3; cases e3
    | some y =>
      rw [e4] at e3
      have e5:Sum.inl y=k:=Option.some.inj e3
      subst e5
      obtain ⟨t,ev⟩:=Value.isInt_shape (k:=y) (v:=v) e2
      exact ⟨y,t,rfl,ev⟩
  have I1:Inv X pins σ H { s with heap:=h',toks:=tk }:=I.kept hk
  refine wpAny_bind (wpAny_newList ?_ (by rw [hal,sizeLine_eq]; omega))
  have hoL:(h'.push (seqObj "list" acc.toList.toArray 0)).get? h'.objs.size=some (seqObj "list" acc.toList.toArray 0):=Heap.get?_push_size _ rfl
  show wpAny _ _ _ _ _ { s with heap:=h'.push (seqObj "list" acc.toList.toArray 0),toks:=tk }
  refine wpAny_bind (wpAny_holding (wpAny_call_entry PyProof.Rows.slot_list_sort ⟨_,hoL,rfl⟩ PyProof.Rows.entry_list_sort
    (SrtO.list_sort_ord (s:={ s with heap:=h'.push (seqObj "list" acc.toList.toArray 0),toks:=tk }) SrtO.swo_int hoL (by rw [hal,sizeLine_eq]; omega) (fun h2=>SrtO.ints_sortable hS h2) fun out h1 h2=>⟨.none,rfl,?_⟩)
    (PyProof.Rows.args_list_sort _)))
  obtain ⟨k1,k2,k3⟩:=SrtO.ints_out hS h1 h2
  obtain ⟨e',he'⟩:=PyProof.Rows.sortedHeap_at (vs:=acc.toList) (out:=out.toArray) hoL
  have hlen:((out.map SrtO.iv).map V.int).length ≤ sizeLine:=by
    rw [List.length_map,k2.length_eq,sizeLine_eq]
    omega
  refine wpAny_pure ⟨_,rfl, .ref h'.objs.size,upd H h'.objs.size (.lst ((out.map SrtO.iv).map V.int)),I1.laid (t':=tk) (fun b u e=>?_) (Nat.le_refl _)
    (show ObjOk X.prog X.w _ _ _ (.lst ((out.map SrtO.iv).map V.int)) from ⟨hlen,out,e',vals_of_ints k1,he'⟩),rfl,q _ _ k2 k3 (I1.hok.fresh (Nat.le_refl _))⟩
  have hb:b < h'.objs.size:=Heap.lt_size e
  rw [PyProof.Rows.sortedHeap_old (Nat.ne_of_lt hb) (by rw [size_push']; exact Nat.lt_succ_of_lt hb)]
  exact Heap.get?_push_of_some _ e
section
variable {K:PySem.W.Frag}
theorem Y80 {W:Wd} {ρ:List Addr} {H:Hp}:∀ {kvs:List (D × X)} {ks:List (Key × V)} {l:List Int},KVR (AX K W ρ H) kvs ks→ints? (kvs.map fun p=>X.d p.1)=some l→ks.map (·.1)=l.map Sum.inl
  | _,_,l, .nil,e=>by cases e; rfl
  | p :: kvs,r :: ks,l, .cons h t,e=>by
    rw [List.map_cons] at e
    unfold ints? at e
    have hp:=h.1
    generalize hk:p.1=k at e hp
    cases k with
    | int i =>
      cases q:ints? (kvs.map fun p=>X.d p.1) with
      | none=>rw [q] at e; simp [X6r] at e
      | some l2 =>
        rw [q] at e
        have e:some (i :: l2)=some l:=e
        cases e
        have hi:some (Sum.inl i:Key)=some r.1:=hp
        rw [List.map_cons,List.map_cons,Y80 t q,← Option.some.inj hi]
    | _=>simp [X6r] at e
theorem X3h:X0t K Y9w Y17:=fun Z ρ S H Wx σ xs vs Q st a h=>by
  unfold Y17 at h
  split at h
  · rename_i x
    cases a with
    | cons ha t =>
      cases t
      cases q:(Y11 S x).bind fun kvs=>ints? (kvs.map fun p=>X.d p.1) with
      | none=>rw [q] at h; exact h.elim
      | some l =>
        rw [q] at h
        have h:W1 (AX K) K Z ρ H Wx σ Q (if decide (l.length < 1000) then .ok (.d (.lst ((PySem.W.sortI l).map .int))) S else .bad):=h
        by_cases c:l.length < 1000
        · rw [if_pos (decide_eq_true c)] at h
          obtain ⟨kvs,h1,h2⟩:=Option.bind_eq_some_iff.mp q
          obtain ⟨p,ks,rfl,r,kv⟩:=Z81 st ha h1
          refine ⟨p,ks,l,rfl,r,Y80 kv h2,c,fun ys p2 hp hs hn=>?_⟩
          rw [PySem.W.eq_sortI hp hs]
          exact W1.ret h st (U3 hn) (.d (Z69 (fun z hz=>st.thereW hz) hn X0x))
        · rw [if_neg (by simpa using c)] at h; exact h.elim
  · exact h.elim
end
end Bv
namespace L2
open PySem PySem.Spec PyProof.Rows
section
variable {X:Cx} {e:Expr} {td:TE} {p apos cpos pos:Pos}
def rUpd:V→List V→Hp→VK→Prop:=fun x xs H Q=>∃ (a b:Addr) (o:Obj) (kvs ks:List (Key × V)),x = .ref a∧xs=[.ref b]∧H a=some (.dK kvs)∧H b=some (.frz o (.dK ks))∧kvs.length + ks.length ≤ sizeLine∧Q .non (upd H a (.dK (mergeK kvs ks)))
theorem mt_upd:MtR X "dict.update" rUpd:=by
  intro pins s σ H x xs v us Q I rx rxs h
  obtain ⟨a,b,o,kvs,ks,rfl,rfl,ha,hb,hz,q⟩:=h
  cases rx
  obtain ⟨u,rfl,ru⟩:=vals1 rxs
  cases ru
  obtain ⟨z,hd,vs,rel,dd⟩:=dk_of I.hok ha
  obtain ⟨z2,hd2,vs2,rel2,dd2⟩:=dk_rd I.hok (.inr ⟨o,hb⟩)
  have hne:a ≠ b:=fun e=>by
    rw [e,hb] at ha
    cases ha
  refine call_meetsIn PySem.F.slot_dict_update dd.typeIs PySem.F.entry_dict_update (PySem.F.args_dict_update_2 _ _) (meets_dict_update (mixKind X.prog X.w) a b hne hd2) ⟨vs,vs2,dd,dd2,by rw [← rel.length,← rel2.length]; exact hz,fun h' d1 d2 hs=>?_⟩
  have he:∃ q,h'.get? a=some q:=let ⟨q,_,_,hq,_⟩:=d1; ⟨q,hq⟩
  exact ⟨.non,_,d_write (t':=s.toks) I (by rw [ha]; exact True.intro) hs he (dk_new (Nat.le_trans (length_mergeK ks kvs) hz) hd (KV.merge rel2 rel) d1),rfl,q⟩
end
end L2
namespace Bv
open PySem PySem.Spec L2
open PyProof.Rows hiding St
variable [HasW]
section
variable {X:Cx} {Wx:WX} {p apos cpos pos:Pos} {e o:Expr} {es:List Expr} {m mo:M} {ms:MG (List Bv.X)}
def X6t (S:Sto):Bv.X→Bool
  | .r n=>match S[n]? with
    | some (.dic _)=>true
    | _=>false
  | _=>false
theorem X6u {Z:Wd} {ρ:List Addr} {S:Sto} {H:Hp} {x:Bv.X} {v:V} (st:Sta X.K Z ρ S H) (a:AX X.K (Wn Z ρ) ρ H x v) (h:X6t S x=true):tyV X.K "dict" v H:=by
  cases a with
  | d a=>cases h
  | r e =>
    rename_i n q
    have h:(match S[n]? with
      | some (.dic _)=>true
      | _=>false)=true:=h
    cases z:S[n]? with
    | none=>rw [z] at h; cases h
    | some ob =>
      rw [z] at h
      cases ob with
      | dic kvs =>
        obtain ⟨ks,e1,_⟩:=st.ob n _ _ z e
        exact .inr (.inr (.inl ⟨rfl, .inl ⟨ks,e1⟩⟩))
      | _=>cases h
variable {id:String} {name:Str} {r:V→List V→Hp→VK→Prop} {g:Bv.X→List Bv.X→Sto→R Bv.X}
theorem W3a (slot:Slot "dict" name id) (hty:typeOf (.builtin id)=pure (.type "method_descriptor")) (hm:MtR X id r) (h:MtX X.K r g) (ho:ME X Wx o mo) (ha:MA X Wx (e :: es) ms) (hbase:attributeBase o name X.env (eval o X.env)=eval o X.env:=by rfl)
    (hfew:((backTo cpos (starEach (e :: es) X.env)).all (fun x => !x.1) && (backToKw cpos (keywordEach [] X.env)).all (fun x=>x.1.isSome)
      && decide ((e :: es).length + ([]:List Keyword).length + (if ([]:List Keyword).isEmpty then 0 else 1) < 30))=true:=by rfl)
    (hline:(apos.endLine == cpos.line)=true:=by rfl) (hs:starEach (e :: es) X.env=(false,eval e X.env) :: starEach es X.env:=by rfl) (hplain:(backTo cpos (starEach es X.env)).any (·.1)=false:=by rfl) :
    ME X Wx (.Call (.Attribute o name apos) (e :: es) [] cpos) (Z9l X6t g mo ms):=PE.of (pe_bm PySem.F.plainAttrs_dict slot hty hm ho ha hbase hfew hline hs hplain) fun σ H Q ⟨Z,ρ,e,S,st,ev,p⟩=>X9 st ev p fun ρ1 H1 v x S1 s1 g1 ev1 a1 p1=>by
  have p1:W1 (AX X.K) X.K Z ρ1 H1 Wx σ Q (if X6t S1 x then (ms e S1).bind fun xs S2=>g x xs S2 else .bad):=p1
  split at p1
  · rename_i hl
    exact ⟨X6u s1 a1 hl,X9 s1 ev1 p1 fun ρ2 H2 vs xs S2 s2 g2 ev2 a2 p2=>h Z ρ2 S2 H2 Wx σ x v xs vs Q s2 (a1.mv (g2.mv s1) g2.pre) a2 p2⟩
  · exact p1.elim
end
def X2z (kvs:List (D × X)) (more:List (D × D)):List (D × X):=more.foldl (fun acc p=>Y8d acc p.1 (X.d p.2)) kvs
def X4r (x:X) (xs:List X) (S:Sto):R X:=match x,xs with
  | .r n,[.d (.dic ks)]=>(match S[n]? with
    | some (.dic kvs)=>if decide (kvs.length + ks.length ≤ sizeLine) then .ok (.d .non) (S.set n (.dic (X2z kvs ks))) else .bad
    | _ => .bad)
  | _,_ => .bad
theorem Y6x {K:PySem.W.Frag} {W:Wd} {ρ:List Addr} {H:Hp}:∀ {more:List (D × D)} {ms:List (Key × V)} {kvs:List (D × X)} {ks:List (Key × V)},KVR (AV K W H) more ms→KVR (AX K W ρ H) kvs ks→KVR (AX K W ρ H) (X2z kvs more) (mergeK ks ms)
  | _,_,_,_, .nil,z=>z
  | (k,d) :: r,(q,v) :: s,kvs,ks, .cons h t,z=>Y6x (more:=r) (ms:=s) (kvs:=Y8d kvs k (X.d d)) (ks:=putK ks q v) t (KVR.put h.1 (.d h.2) z)
theorem W0y {K:PySem.W.Frag}:MtX K rUpd X4r:=fun Z ρ S H Wx σ x v xs vs Q st a as h=>by
  unfold X4r at h
  split at h
  · rename_i n ks0
    cases a with
    | r ha =>
      rename_i p
      cases as with
      | cons a1 t =>
        cases t
        cases a1 with
        | d a1 =>
          cases a1 with
          | dic w e hs =>
            rename_i c od ks
            cases z:S[n]? with
            | none=>rw [z] at h; exact h.elim
            | some ob =>
              rw [z] at h
              cases ob with
              | dic kvs =>
                have h:W1 (AX K) K Z ρ H Wx σ Q (if decide (kvs.length + ks0.length ≤ sizeLine) then .ok (.d .non) (S.set n (.dic (X2z kvs ks0))) else .bad):=h
                by_cases cl:kvs.length + ks0.length ≤ sizeLine
                · rw [if_pos (decide_eq_true cl)] at h
                  obtain ⟨ks1,e1,kv⟩:=st.ob _ _ _ z ha
                  have kv2:=Y6x (AVk.kvr hs) kv
                  have mm:Mv (Wn Z ρ) H (Wn Z ρ) (upd H p (.dK (mergeK ks1 ks))):=fun b o hb z=>⟨hb,by rw [upd_ne (fun y=>hb (.inr (by rw [y]; exact List.mem_of_getElem? ha)))]; exact z⟩
                  obtain ⟨s4,g4⟩:=st.put (o' := .dic (X2z kvs ks0)) (u := .dK (mergeK ks1 ks)) ha (fun _ _ z=>by rw [e1] at z; cases z) ⟨_,upd_same,KVR.mv mm (List.prefix_refl _) kv2⟩
                  exact ⟨p,_,_,ks1,ks,rfl,rfl,e1,e,by rw [← KVR.len kv,← KVR.len (AVk.kvr hs)]; exact cl,h ρ _ _ s4 g4 (.d .non)⟩
                · rw [if_neg (by simpa using cl)] at h; exact h.elim
              | _=>exact h.elim
  · exact h.elim
section
variable {K:PySem.W.Frag}
end
end Bv
namespace Bv
open PySem PySem.Spec L2
open PyProof.Rows hiding St
variable [HasW]
def Y5g (d:D):PyData:=d.py.getD .none
def X74:PyData→Bool
  | .tuple (_ :: _)=>true
  | _=>false
def Y9h (ds:List D):Bool:=(ds.all fun d=>d.py.isSome && (X74 (Y5g d) && decide ((Y5g d).depth ≤ 60))) && ((ds.all fun d=>ds.all fun e=>PySem.W.alike (Y5g d) (Y5g e)) && decide (ds.length ≤ 4000))
def Y5b (ds:List D):List D:=ds.mergeSort (PySem.W.dataLe false Y5g)
def Z83:List Bv.X→Sto→R Bv.X
  | [x],S=>if Z2q S x then (match (items S x).bind ds? with
    | some ds=>if Y9h ds then .ok (.d (.lst (Y5b ds))) S else .bad
    | none => .bad) else .bad
  | _,_ => .bad
def Y4l (a b:V × D):Bool:=PySem.W.dataLe false (fun c:V × D=>Y5g c.2) a b
def X27 (K:PySem.W.Frag):List V→Hp→VK→Prop:=fun vs H Q=>∃ (a:Addr) (bs:List (V × D)),vs=[V.ref a]∧SqL K H a (bs.map Prod.fst)∧(∀ b ∈ bs,Dp K H b.1 (Y5g b.2))∧Y9h (bs.map Prod.snd)=true ∧
  ∀ p:Addr,H p=none→Q (.ref p) (upd H p (.lst ((bs.mergeSort Y4l).map Prod.fst)))
theorem Y8u:∀ {bs:List (V × D)} {us:List Value},Vals (bs.map Prod.fst) us→PySem.W.EachIs (fun u (b:V × D)=>RelV b.1 u) us bs
  | [],_,h=>by cases h; exact .nil
  | _ :: _,_,h=>by
    cases h with
    | cons h1 h2=>exact .cons h1 (Y8u h2)
theorem X0o:∀ {bs:List (V × D)} {us:List Value},PySem.W.EachIs (fun u (b:V × D)=>RelV b.1 u) us bs→Vals (bs.map Prod.fst) us
  | _,_, .nil => .nil
  | _,_, .cons h1 h2 => .cons h1 (X0o h2)
theorem X4m {R R2:Value→V × D→Prop}:∀ {bs:List (V × D)} {us:List Value},PySem.W.EachIs R us bs→(∀ u b,b ∈ bs→R u b→R2 u b)→PySem.W.EachIs R2 us bs
  | _,_, .nil,_ => .nil
  | _,_, .cons h1 h2,k => .cons (k _ _ (by simp) h1) (X4m h2 fun u b hb=>k u b (List.mem_cons_of_mem _ hb))
theorem Y60 {ds:List D} (h:Y9h ds=true):(∀ d ∈ ds,d.py=some (Y5g d)∧X74 (Y5g d)=true∧(Y5g d).depth ≤ 60)∧(∀ d ∈ ds,∀ e ∈ ds,PySem.W.alike (Y5g d) (Y5g e)=true)∧ds.length ≤ 4000:=by
  unfold Y9h at h
  rw [Bool.and_eq_true,Bool.and_eq_true,List.all_eq_true,List.all_eq_true,decide_eq_true_eq] at h
  obtain ⟨h1,h2,h3⟩:=h
  refine ⟨fun d hd=>?_,fun d hd e he=>List.all_eq_true.mp (h2 d hd) e he,h3⟩
  have q:=h1 d hd
  rw [Bool.and_eq_true,Bool.and_eq_true,decide_eq_true_eq] at q
  obtain ⟨q1,q2,q3⟩:=q
  refine ⟨?_,q2,q3⟩
  unfold Y5g
  cases e:d.py with
  | none=>rw [e] at q1; cases q1
  | some p=>rfl
theorem X3j {X:Cx} (hu:X.A.units + 65 < cLine):CallR X (.builtin "sorted") (X27 X.K):=by
  intro pins s σ H vs us Q I r ⟨a,bs,e,hs,hd,hk,q⟩
  subst e
  obtain ⟨its,rv,hl,hz⟩:=I.list hs
  rw [Vals.ref1 r]
  obtain ⟨k1,k2,k3⟩:=Y60 hk
  rw [List.length_map] at k3
  have ev:=Y8u rv
  have er:PySem.W.EachIs (fun u (b:V × D)=>∃ as,Reads s.heap u (Y5g b.2) as) its bs:=X4m ev fun u b hb hr=>Dp.reads I (Y5g b.2) b.1 u (hd b hb) hr
  have hm1:∀ {d:PyData},d ∈ bs.map (fun b=>Y5g b.2)→∃ b ∈ bs,d=Y5g b.2:=fun h=>by
    obtain ⟨b,hb,e⟩:=List.mem_map.mp h
    exact ⟨b,hb,e.symm⟩
  have hsn:∀ {b:V × D},b ∈ bs→b.2 ∈ bs.map Prod.snd:=fun h=>List.mem_map.mpr ⟨_,h,rfl⟩
  refine PySem.W.sorted_data (R:=fun u (b:V × D)=>RelV b.1 u) (enc:=fun b=>Y5g b.2) hl.isList ev er (fun d hd1 d' hd2=>?_) (.inl fun d hd1=>?_) (by rw [sizeLine_eq]; omega) (fun b hb=>?_) fun out ho eo=>?_
  · obtain ⟨b,hb,rfl⟩:=hm1 hd1
    obtain ⟨b',hb',rfl⟩:=hm1 hd2
    exact k2 _ (hsn hb) _ (hsn hb')
  · obtain ⟨b,hb,rfl⟩:=hm1 hd1
    have t:=(k1 _ (hsn hb)).2.1
    cases e:Y5g b.2 with
    | tuple l =>
      cases l with
      | nil=>rw [e] at t; cases t
      | cons x r=>exact ⟨x,r,rfl⟩
    | _=>rw [e] at t; cases t
  · have:=(k1 _ (hsn hb)).2.2
    show X.A.units + 2 + (Y5g b.2).depth < cLine
    omega
  · obtain ⟨ep,he'⟩:=PyProof.Rows.sortedAll_at s.heap its out.toArray
    have hv:Vals ((bs.mergeSort Y4l).map Prod.fst) out:=X0o eo
    have hm:((bs.mergeSort Y4l).map Prod.fst).length ≤ sizeLine:=by
      rw [List.length_map,List.length_mergeSort,sizeLine_eq]; omega
    exact ⟨.ref _,upd H (s.heap.objs.size + 1) (.lst ((bs.mergeSort Y4l).map Prod.fst)),I.laid (t':=s.toks) (fun _ _=>PyProof.Rows.sortedAll_old) (Nat.le_succ _) ⟨hm,out,ep,hv,he'⟩,rfl,q _ (I.hok.fresh (Nat.le_succ _))⟩
section
variable {K:PySem.W.Frag} {W:Wd} {H:Hp}
theorem X15:∀ {ds:List D} {vs:List V},AVs K W H ds vs→(vs.zip ds).map Prod.fst=vs∧(vs.zip ds).map Prod.snd=ds∧∀ b ∈ vs.zip ds,AV K W H b.2 b.1
  | _,_, .nil=>⟨rfl,rfl,fun _ h=>(nomatch h)⟩
  | _,_, .cons h1 h2=>by
    obtain ⟨a,b,c⟩:=X15 h2
    refine ⟨by rw [List.zip_cons_cons,List.map_cons,a],by rw [List.zip_cons_cons,List.map_cons,b],fun x hx=>?_⟩
    rw [List.zip_cons_cons] at hx
    rcases List.mem_cons.mp hx with rfl | hx
    · exact h1
    · exact c x hx
theorem X7y:∀ {bs:List (V × D)},(∀ b ∈ bs,AV K W H b.2 b.1)→AVs K W H (bs.map Prod.snd) (bs.map Prod.fst)
  | [],_ => .nil
  | b :: bs,h => .cons (h b (by simp)) (X7y fun x hx=>h x (List.mem_cons_of_mem _ hx))
theorem X4d:X0t K (X27 K) Z83:=fun Z ρ S H Wx σ xs vs Q st a h=>by
  unfold Z83 at h
  split at h
  · rename_i x
    split at h
    · rename_i hl
      cases a with
      | cons ha t =>
        cases t
        cases q:(items S x).bind ds? with
        | none=>rw [q] at h; exact h.elim
        | some ds =>
          rw [q] at h
          have h:W1 (AX K) K Z ρ H Wx σ Q (if Y9h ds then .ok (.d (.lst (Y5b ds))) S else .bad):=h
          by_cases c:Y9h ds=true
          · rw [if_pos c] at h
            obtain ⟨ys,h1,h2⟩:=Option.bind_eq_some_iff.mp q
            obtain ⟨b,us,rfl,hq,hp⟩:=ha.itemsL st h1 hl
            have av:=hp.ds h2
            obtain ⟨z1,z2,z3⟩:=X15 av
            refine ⟨b,us.zip ds,rfl, .inl (.inl (by rw [z1]; exact hq)),fun x hx=>?_,by rw [z2]; exact c,fun p hn=>?_⟩
            · have hx2:x.2 ∈ ds:=by rw [← z2]; exact List.mem_map.mpr ⟨x,hx,rfl⟩
              exact ((z3 x hx).dp ((Y60 c).1 _ hx2).1).1
            · have hs:(List.mergeSort (us.zip ds) Y4l).map Prod.snd=Y5b ds:=by
                have:=PySem.W.sort_maps (r:=Y4l) (s:=PySem.W.dataLe false Y5g) Prod.snd (l:=us.zip ds) fun _ _ _ _=>rfl
                rw [this,z2]
                rfl
              have av2:=X7y (bs:=List.mergeSort (us.zip ds) Y4l) fun x hx=>z3 x ((List.mergeSort_perm _ _).mem_iff.mp hx)
              rw [hs] at av2
              exact W1.ret h st (U3 hn) (.d (Z69 (fun z hz=>st.thereW hz) hn av2))
          · rw [if_neg c] at h; exact h.elim
    · exact h.elim
  · exact h.elim
end
end Bv
namespace Bv
open PySem PySem.Spec L2
open PyProof.Rows hiding St
variable [HasW]
section
variable {X:Cx} {pins:List (Addr × Obj)} {σ:L2.St} {H:Hp} {s:Shared} {d:Addr} {o:Obj}
theorem Y7i {xs:List TX} (I:Inv X pins σ H s) (h:H d=some (.frz o (TDo d xs))) :
    (d == sysModules)=false∧s.heap.get? d=some o∧o.ExactDict∧∃ (es:Array DictEntry) (ep:Nat),o.data = .dict es ep∧es.size=xs.length∧∀ (i:Nat) (q:TX),xs[i]?=some q→∃ en:DictEntry,es[i]?=some en∧en.key = .ref q.2.1:=by
  obtain ⟨hd,⟨hs,ys,rel,o',es,ep,ho,hx,hdt,he,hn⟩,_⟩:=I.hok d _ h
  rw [hd] at ho
  cases ho
  refine ⟨hs,hd,hx,es,ep,hdt,?_,fun i q e=>?_⟩
  · have l1:=congrArg List.length he
    rw [List.length_map,Array.length_toList] at l1
    rw [l1,← Paired.length rel]
  · obtain ⟨y,hy,e1,e2,_⟩:=paired_get rel e
    have e3:es.toList[i]?=some ⟨X6w y.1, .ref y.2.1,y.2.2⟩:=by rw [he,List.getElem?_map,hy]; rfl
    refine ⟨_,by rw [← Array.getElem?_toList]; exact e3,?_⟩
    rw [e2]
end
def Itx (d:Addr) (o:Obj) (xs:List TX):It :=
  ⟨fun i H=>H d=some (.frz o (TDo d xs))∧i < xs.length,fun i H x H'=>H'=H∧∃ q:TX,xs[i]?=some q∧x = .ref q.2.1,fun i H=>H d=some (.frz o (TDo d xs))∧xs.length ≤ i⟩
theorem X33 {P:Program} {w:World} {K:PySem.W.Frag} {tg:Expr} {d:Addr} {o:Obj} {es:Array DictEntry} {ep:Nat} {xs:List TX} (it:Addr) (hod:o.data = .dict es ep):Turn P w K tg (Itx d o xs) [it] it (fun i h=>h.IsKeyIter it d i xs.length ep) where
  mem:=by simp
  obj:=fun i h st b hb=>by
    have e:b=it:=by simpa using hb
    subst e
    obtain ⟨oi,e,c,dd⟩:=st
    exact ⟨oi,e,fun v z=>by rw [dd] at z; cases z⟩
  keep:=fun i h h' st k=>st.at fun oi e=>k it (by simp) oi e
  item:=by
    intro X hP hw hK hc i pins s σ H E I hf st hg
    subst hP hw hK
    obtain ⟨hd,hi⟩:=hg
    obtain ⟨f0,f1,f2,f3,f4,f5⟩:=hf it (by simp)
    obtain ⟨hs,hgd,hx,es',ep',hdt,hsz,ent⟩:=Y7i I hd
    obtain ⟨rfl,rfl⟩:=dict_ep hod hdt
    obtain ⟨q,hq⟩:∃ p,xs[i]?=some p:=⟨xs[i],List.getElem?_eq_getElem hi⟩
    obtain ⟨en,hen,hkey⟩:=ent i q hq
    refine next_key_item st hgd hdt hsz hen fun h' st' sb=>?_
    have I1:Inv X pins σ H { s with heap:=h' }:=I.turned (t':=s.toks) (fun b ob hb e=>(sb.2 b hb).trans e) f0 f1 f3 f4 f5
    obtain ⟨oi,e,c,dd⟩:=id st'
    exact ⟨en.key,rfl,go_of (s:={ s with heap:=h' }) e c dd (by decide) ⟨.ref q.2.1,H,I1,hkey,⟨rfl,q,hq,rfl⟩,st',fun b hb=>(hf b hb).1⟩⟩
  done:=by
    intro X hP hw hK hc i pins s σ H E I hf st hg
    subst hP hw hK
    obtain ⟨hd,hi⟩:=hg
    obtain ⟨f0,f1,f2,f3,f4,f5⟩:=hf it (by simp)
    obtain ⟨hs,hgd,hx,es',ep',hdt,hsz,ent⟩:=Y7i I hd
    obtain ⟨rfl,rfl⟩:=dict_ep hod hdt
    exact next_key_end (I.ok.hd hc) st hgd hdt hsz hi fun h' eb=>⟨rfl,I.turned (t':=s.toks) (fun b ob hb e=>eb b ob hb e) f0 f1 f3 f4 f5⟩
  self:=fun A i s Q E st h=>wpAny_pyIter_keyiter st h
def W1g (td:TE):TI:=fun σ H R=>td σ H fun x H1=>∃ d o xs,x = .ref d∧H1 d=some (.frz o (TDo d xs))∧R (Itx d o xs) H1
theorem X7g {X:Cx} {tg e:Expr} {td:TE} (he:PE X e td):PI X tg e (W1g td):=by
  refine ⟨fun pins s σ H R I h=>?_⟩
  refine thn (he.run pins s σ H _ I h) fun u s1 ⟨x,H1,I1,rx,d,o,xs,ex,hd,q⟩=>?_
  subst ex
  obtain rfl:u=Value.ref d:=rx
  obtain ⟨hs,hgd,hx,es,ep,hdt,hsz,ent⟩:=Y7i I1 hd
  refine iter_keys hs hgd hx hdt (pi_one (tk:=s1.toks) I1 _ (X33 _ hdt) ⟨_,Heap.get?_push_size _ rfl,rfl,?_⟩ q)
  rw [hsz] <;> rfl
def frzT (S:Sto):Bv.X→Option (List (D × Bv.X) × Sto)
  | .d _=>none
  | .r n=>match S[n]? with
    | some (.tdc kvs)=>some (kvs,S.set n (.tfc kvs))
    | some (.tfc kvs)=>some (kvs,S)
    | _=>none
def X42 (kvs:List (D × Bv.X)):List Bv.X:=kvs.map fun p => .d p.1
def X4v (m:M):MIt:=fun e S=>(m e S).bind fun x S1=>match frzT S1 x with
  | some p => .ok (X42 p.1, .free) p.2
  | none => .bad
theorem KVT.at_ {K:PySem.W.Frag} {W:Wd} {ρ:List Addr} {H:Hp} {kvs:List (D × Bv.X)} {xs:List TX} {j:Nat} {q:TX} (h:KVT K W ρ H kvs xs) (e:xs[j]?=some q):∃ p,kvs[j]?=some p∧AV K W H p.1 (.ref q.2.1):=by
  obtain ⟨p,h1,h2⟩:=Y43 h e
  exact ⟨p,h1,h2.2.1⟩
theorem X0g {K:PySem.W.Frag} {W:Wd} {ρ:List Addr} {H:Hp} {kvs:List (D × Bv.X)} {xs:List TX} {c:Addr} {od:Obj} (kv:KVT K W ρ H kvs xs) (hc:H c=some (.frz od (TDo c xs))):Srv K W ρ H (X42 kvs, .free) (Itx c od xs):=by
  refine ⟨fun H=>H c=some (.frz od (TDo c xs)),fun i H x H'=>H'=H∧∃ q:TX,xs[i]?=some q∧x = .ref q.2.1,?_,fun Z2 ρ2 S2 H2 st m p fz _=>⟨fz _ _ _ hc,fun i x H3 y=>?_⟩⟩
  · have e:(X42 kvs,Lk.free).1.length=xs.length:=by
      show (kvs.map _).length=_
      rw [List.length_map]; exact Paired.length kv
    rw [e]
    exact ⟨fun i _ hi g=>⟨g,hi⟩,fun _ g=>⟨g,Nat.le_refl _⟩,fun _ _ _ _ _ _ y=>y⟩
  · obtain ⟨rfl,q,hq,rfl⟩:=y
    obtain ⟨p2,h1,h2⟩:=kv.at_ hq
    exact ⟨Same.rfl', .d p2.1,by simp [X42,h1], .d (h2.mv m)⟩
theorem X6d {K:PySem.W.Frag} {Z:Wd} {ρ:List Addr} {H:Hp} {S:Sto} {Wx:WX} {σ:L2.St} {R:It→Hp→Prop} {x:Bv.X} {v:V} (st:Sta K Z ρ S H) (a:AX K (Wn Z ρ) ρ H x v) (p:W1 (Srv K) K Z ρ H Wx σ R (match frzT S x with
    | some p => .ok (X42 p.1, .free) p.2
    | none => .bad)) :
    (∃ c od xs,v = .ref c∧H c=some (.frz od (TDo c xs))∧R (Itx c od xs) H) ∨ ∃ c xs,v = .ref c∧H c=some (TDo c xs)∧∀ od,R (Itx c od xs) (upd H c (.frz od (TDo c xs))):=by
  cases a with
  | d a=>exact p.elim
  | r e =>
    rename_i n a
    cases q:S[n]? with
    | none=>simp only [frzT,q] at p; exact p.elim
    | some o =>
      cases o with
      | tfc kvs =>
        simp only [frzT,q] at p
        obtain ⟨ob,xs,e2,r⟩:=st.ob n _ _ q e
        exact .inl ⟨_,ob,xs,rfl,e2,W1.ret0 p st (X0g r e2)⟩
      | tdc kvs =>
        simp only [frzT,q] at p
        obtain ⟨xs,e2,r⟩:=st.ob n _ _ q e
        refine .inr ⟨_,xs,rfl,e2,fun od=>?_⟩
        have inρ:a ∈ ρ:=List.mem_of_getElem? e
        have m:Mv (Wn Z ρ) H (Wn Z ρ) (upd H a (.frz od (TDo a xs))):=fun b o hb z=>⟨hb,by rw [upd_ne (fun y=>hb (.inr (by rw [y]; exact inρ)))]; exact z⟩
        obtain ⟨s4,g4⟩:=st.put (o' := .tfc kvs) (u := .frz od (TDo a xs)) e (fun _ _ z=>by rw [e2] at z; cases z) ⟨od,xs,upd_same,KVT.mv m (List.prefix_refl _) r⟩
        exact p ρ _ _ s4 g4 (X0g (KVT.mv m (List.prefix_refl _) r) upd_same)
      | _=>simp only [frzT,q] at p; exact p.elim
theorem X64 {X:Cx} {Wx:WX} {e tg:Expr} {m:M} (h:ME X Wx e m):MI X Wx tg e (X4v m):=PI.of (X7g (X7e h)) fun σ H R ⟨Z,ρ,e,S,st,ev,p⟩=>X9 (rel:=AX X.K) st ev p fun ρ1 H1 v x S1 st1 g1 ev1 a1 p1=>by
  rcases X6d st1 a1 p1 with ⟨c,od,xs,rfl,hc,r⟩ | ⟨c,xs,rfl,hc,r⟩
  · exact .inl ⟨c,od,xs,rfl,hc,r⟩
  · exact .inr ⟨c,_,hc,trivial,fun od=>⟨c,od,xs,rfl,upd_same,r od⟩⟩
end Bv
namespace Bv
open PySem PySem.Spec L2
open PyProof.Rows hiding St
variable [HasW]
end Bv
namespace Xq
open PySem PySem.Spec PyProof.Rows L2
abbrev HdL:=Value × Option Nat × (Addr→Value→Option Addr→TS)
inductive HdsQ (X:Cx):List ExceptHandler→List HdL→Prop
  | nil:HdsQ X [] []
  | as_ {x n:Str} {c:Value} {i:Nat} {ts:Addr→Value→Option Addr→TS} {b₀:Stmt} {suite:List Stmt} {np pos':Pos} {hds:List ExceptHandler} {l:List HdL} (hi:X.N[i]?=some n) (hln:X.env.kindOf n=some .local) (hc:Names X x c)
      (hsu:∀ (a:Addr) (oe:Obj) (cls:Value) (d:Option Addr) (pn:List (Addr × Obj)) (xe:Value→Shared→Prop),Zc cls d oe→(∃ vs,oe.data = .fields vs)→PSs (suiteQ X a ((a,oe) :: pn) xe) (b₀ :: suite) (ts a cls d)) (r:HdsQ X hds l) :
      HdsQ X (.ExceptHandler (some (.Name x np)) (some n) (b₀ :: suite) pos' :: hds) ((c,some i,ts) :: l)
  | on {x:Str} {c:Value} {ts:Addr→Value→Option Addr→TS} {b₀:Stmt} {suite:List Stmt} {np pos':Pos} {hds:List ExceptHandler} {l:List HdL} (hc:Names X x c)
      (hsu:∀ (a:Addr) (oe:Obj) (cls:Value) (d:Option Addr) (pn:List (Addr × Obj)) (xe:Value→Shared→Prop),Zc cls d oe→(∃ vs,oe.data = .fields vs)→PSs (suiteQ X a ((a,oe) :: pn) xe) (b₀ :: suite) (ts a cls d)) (r:HdsQ X hds l) :
      HdsQ X (.ExceptHandler (some (.Name x np)) none (b₀ :: suite) pos' :: hds) ((c,none,ts) :: l)
section
variable {X:Cx} {body:List Stmt} {h₀:ExceptHandler} {hds:List ExceptHandler} {l:List HdL} {pos:Pos} {tb:WX→TS} {Wout:WX}
end
end Xq
namespace Bv
open PySem PySem.Spec L2
open PyProof.Rows hiding St
variable [HasW]
inductive Hd where
  | as_ (tab:List (Str × Bool)) (i j:Nat) (m:SX)
  | on (tab:List (Str × Bool)) (j:Nat) (z:Str)
inductive HdsD (X:Cx):List ExceptHandler→List Hd→Prop
  | nil:HdsD X [] []
  | as_ {i j:Nat} {n y x:Str} {c:Value} {np yp apos pos':Pos} {ex:Expr} {m:SX} {tab:List (Str × Bool)} {hds:List ExceptHandler} {l:List Hd} (hi:X.N[i]?=some n) (hln:X.env.kindOf n=some .local) (hj:X.N[j]?=some y) (hy:Loc X.env.scope y) (hij:i ≠ j) (hc:Names X x c) (ht:X3e X.K c tab) (hse:SE [] X i ex m) (r:HdsD X hds l)
      (hsw:swapsWith ex (some (.Name y yp)) apos.line X.env=pure false:=by rfl) (hfn:X.fn y=true ∨ X.env.scope.names.lookup y=some .local:=by first | exact .inl rfl | exact .inr rfl) :
      HdsD X (.ExceptHandler (some (.Name x np)) (some n) [.Assign [.Name y yp] ex apos] pos' :: hds) (.as_ tab i j m :: l)
  | on {j:Nat} {y x z:Str} {c:Value} {np yp apos pos' cp:Pos} {kk:Nat} {tab:List (Str × Bool)} {hds:List ExceptHandler} {l:List Hd} (hj:X.N[j]?=some y) (hy:Loc X.env.scope y) (hc:Names X x c) (ht:X3e X.K c tab) (r:HdsD X hds l) (hz:PyData.strOk z=true:=by decide +kernel)
      (hsw:swapsWith (.Constant (.str z) kk cp) (some (.Name y yp)) apos.line X.env=pure false:=by rfl) (hfn:X.fn y=true ∨ X.env.scope.names.lookup y=some .local:=by first | exact .inl rfl | exact .inr rfl) :
      HdsD X (.ExceptHandler (some (.Name x np)) none [.Assign [.Name y yp] (.Constant (.str z) kk cp) apos] pos' :: hds) (.on tab j z :: l)
section
variable {X:Cx} {Wx:WX} {k:Nat} {body:List Stmt} {pos:Pos} {mb:MS} {h0:ExceptHandler} {hds:List ExceptHandler} {l:List Hd}
end
end Bv
namespace Bv
open PySem PySem.Spec L2
open PyProof.Rows hiding St
variable [HasW]
section
variable {X:Cx} {Wx:WX} {k i j:Nat} {n y x:Str} {c:Value} {body:List Stmt} {np yp ip sp apos pos pos':Pos} {ix:Nat} {ex:Expr} {mb:MS} {m:SX} {tab:List (Str × Bool)} {kx:Int}
end
end Bv
namespace Bv
open PySem PySem.Spec L2
open PyProof.Rows hiding St
variable [HasW]
def W0n (C:Str) (f:Str) (S:Sto):Bv.X→Option Bv.X
  | .r n=>match S[n]? with
    | some (.ins C' fs)=>if ([C]:List Str).contains C' then fs.lookup f else none
    | _=>none
  | .d _=>none
def Y3n (C f:Str) (fn:D→D→Option D) (mo m:M):MS:=fun e S=>(mo e S).so e fun o S1=>match W0n C f S1 o with
  | some y=>(m e S1).so e fun z S2=>(op2 fn S2 y z).so e fun r S3=>match X02 [C] f S3 o r with
    | some S4 => .go (.nx e) S4
    | none => .bad
  | none => .bad
section
variable {X:Cx} {Wx:WX} {pos tpos:Pos} {o e:Expr} {mo m:M}
theorem Y4r {C f:Str} {fn:D→D→Option D} {op:Operator} {ti:TIp} (T:Z0x X.K [C] f) (ho:ME X Wx o mo) (he:ME X Wx e m) (hop:PIp X op ti) (hf:Op2 X.K ti fn):MP X Wx (.AugAssign (.Attribute o f tpos) op e pos) (Y3n C f fn mo m) :=
  PS.of (ps_fldaug ho he hop) fun D σ H ⟨Z,ρ,ee,S,st,ev,p⟩ =>
  Z1r st ev p fun ρ1 H1 v x S1 st1 g1 ev1 a1 p1=>by
    have p1:Z28 X.K Z ρ1 H1 Wx D (match W0n C f S1 x with
      | some y=>(m ee S1).so ee fun z S2=>(op2 fn S2 y z).so ee fun r S3=>match X02 [C] f S3 x r with
        | some S4 => .go (.nx ee) S4
        | none => .bad
      | none => .bad):=p1
    cases q:W0n C f S1 x with
    | none=>rw [q] at p1; exact p1.elim
    | some y =>
      rw [q] at p1
      cases a1 with
      | d _=>cases q
      | r h1 =>
        rename_i n c p0
        cases z:S1[n]? with
        | none=>simp [W0n,z] at q
        | some oo =>
          cases oo with
          | ins C' fs =>
            obtain ⟨hc,hl⟩:=Z5k (show (if ([C]:List Str).contains C' then fs.lookup f else none)=some y by simpa [W0n,z] using q)
            have e0:C'=C:=by simpa using hc
            subst e0
            obtain ⟨dx,vs,h2,h3⟩:=st1.ob n _ c z h1
            obtain ⟨v0,h4,h5⟩:=Y2h h3 hl
            obtain ⟨t1,t2⟩:=T C' (by simp)
            refine ⟨_,_,_,vs,v0,rfl,h2,t1,t2,h4,Z1r st1 ev1 (show Z28 X.K Z ρ1 H1 Wx D ((m ee S1).so ee fun z S2=>(op2 fn S2 y z).so ee fun r S3=>match X02 [C'] f S3 (.r n) r with
        | some S4 => .go (.nx ee) S4
        | none => .bad) from p1) fun ρ2 H2 u w S2 st2 g2 ev2 a2 p2=>?_⟩
            have b1:=h5.mv (g2.mv st1) g2.pre
            have hn2:ρ2[n]?=some c:=by
              obtain ⟨t,rfl⟩:=g2.pre
              rw [List.getElem?_append_left (List.getElem?_eq_some_iff.mp h1).1]
              exact h1
            have p2:Z28 X.K Z ρ2 H2 Wx D ((op2 fn S2 y w).so ee fun r S3=>match X02 [C'] f S3 (.r n) r with
        | some S4 => .go (.nx ee) S4
        | none => .bad):=p2
            unfold op2 at p2
            cases e1:y.get S2 with
            | none=>rw [e1] at p2; exact p2.elim
            | some d1 =>
              cases e2:w.get S2 with
              | none=>rw [e1,e2] at p2; exact p2.elim
              | some d2 =>
                rw [e1,e2] at p2
                cases e3:fn d1 d2 with
                | none=>simp only [e3] at p2; exact p2.elim
                | some d =>
                  simp only [e3] at p2
                  refine hf (Wn Z ρ2) H2 d1 d2 v0 u d _ (fun _ h=>st2.thereW h) (b1.get st2 e1) (a2.get st2 e2) e3 fun H' v' k a=>?_
                  have st3:=st2.grow k
                  have ev3:=ev2.mv ((Go.grow k).mv st2) (List.prefix_refl _)
                  have p3:Z28 X.K Z ρ2 H' Wx D (match X02 [C'] f S2 (.r n) (.d d) with
                    | some S4 => .go (.nx ee) S4
                    | none => .bad):=Z28.shift (Go.grow k) st3 (show Z28 X.K Z ρ2 H2 Wx D (match X02 [C'] f S2 (.r n) (.d d) with
                    | some S4 => .go (.nx ee) S4
                    | none => .bad) from p2)
                  cases q3:X02 [C'] f S2 (.r n) (.d d) with
                  | none=>rw [q3] at p3; exact p3.elim
                  | some S4 =>
                    rw [q3] at p3
                    cases z2:S2[n]? with
                    | none=>simp [X02,z2] at q3
                    | some o2 =>
                      cases o2 with
                      | ins C2 fs2 =>
                        have q1:(if (([C']:List Str).contains C2 && decide (fs2.length < 1000))=true then some (S2.set n (.ins C2 (X8g f (.d d) fs2))) else none)=some S4:=by simpa [X02,z2] using q3
                        by_cases hc2:(([C']:List Str).contains C2 && decide (fs2.length < 1000))=true
                        case neg=>rw [if_neg hc2] at q1; cases q1
                        rw [if_pos hc2] at q1
                        cases q1
                        obtain ⟨hc3,hc4⟩:=Bool.and_eq_true_iff.mp hc2
                        have e5:C2=C':=by simpa using hc3
                        subst e5
                        obtain ⟨dx2,vs2,g5,g6⟩:=st3.ob n _ c z2 hn2
                        have hl2:vs2.length < 1000:=by rw [← Paired.length g6]; exact of_decide_eq_true hc4
                        have hin:c ∈ ρ2:=List.mem_of_getElem? hn2
                        have mm:Mv (Wn Z ρ2) H' (Wn Z ρ2) (upd H' c (.ins (He.ga X.K C2) dx2 (putF f v' vs2))):=fun b o hb hq=>⟨hb,by rw [upd_ne (fun z=>hb (.inr (by rw [z]; exact hin)))]; exact hq⟩
                        obtain ⟨st4,g4⟩:=st3.put (o' := .ins C2 (X8g f (.d d) fs2)) (u := .ins (He.ga X.K C2) dx2 (putF f v' vs2)) hn2 (fun _ _ q=>by rw [g5] at q; cases q) ⟨dx2,_,upd_same,Paired.mapP (Y71 (.d a) g6) fun _ _ w=>⟨w.1,w.2.mv mm (List.prefix_refl _)⟩⟩
                        exact ⟨dx2,vs2,g5,hl2,p3 _ _ σ st4 g4 (ev3.mv mm (List.prefix_refl _))⟩
                      | _=>simp [X02,z2] at q3
          | _=>simp [W0n,z] at q
end
end Bv
namespace Bv
open PySem PySem.Spec L2
open PyProof.Rows hiding St
def pick {α:Type} (p:List Nat) (l:List α):List α:=p.filterMap fun i=>l[i]?
theorem X26 {α β:Type} {R:α→β→Prop} (p:List Nat) {l:List α} {m:List β} (h:Paired R l m):Paired R (pick p l) (pick p m):=by
  unfold pick
  induction p with
  | nil=>exact .nil
  | cons i p ih =>
    have k:∀ {l:List α} {m:List β} (i:Nat),Paired R l m→(l[i]?=none∧m[i]?=none) ∨ ∃ a b,l[i]?=some a∧m[i]?=some b∧R a b:=by
      intro l m i h
      induction h generalizing i with
      | nil=>exact .inl ⟨rfl,rfl⟩
      | cons r t ih2 =>
        cases i with
        | zero=>exact .inr ⟨_,_,rfl,rfl,r⟩
        | succ i=>simpa using ih2 i
    rw [List.filterMap_cons,List.filterMap_cons]
    rcases k i h with ⟨e1,e2⟩ | ⟨a,b,e1,e2,r⟩
    · rw [e1,e2]; exact ih
    · rw [e1,e2]; exact .cons r ih
theorem X7h {α:Type} {p:List Nat} {l:List α} (h:∀ i ∈ p,i < l.length):(pick p l).length=p.length:=by
  unfold pick
  induction p with
  | nil=>rfl
  | cons i p ih =>
    have hi:=h i (List.mem_cons_self ..)
    rw [List.filterMap_cons,List.getElem?_eq_getElem hi]
    simpa using ih fun j hj=>h j (List.mem_cons_of_mem _ hj)
structure KeptN (P:Program) (w:World) (K:PySem.W.Frag) (mg:Str→Option Value) (base:Heap) (k:Nat) (f:Addr) (sp:Sp) (n:Nat) (ks:List Str) (p:List Nat):Prop where
  ex:∃ fd ps,FnG P w K mg base k f fd ps sp∧∀ (s:Shared) (us ws:List Value),K.In s.heap→us.length=n→ws.length=ks.length→BindsTo s fd ⟨us,ks.zip ws⟩ (ps.zip (pick p (us++ws)))
  kp:PySem.W.keepIn K (.ref f)=true
section
variable {P:Program} {w:World} {K:PySem.W.Frag} {mg:Str→Option Value} {base:Heap} {k:Nat} {sp:Sp} {x qual:Str} {pa:Arguments} {bd:List Stmt} {sc:Scope} {dl:List V} {f:Addr} {fd:FuncData} {ps:List Str}
theorem Y8y (n:Nat) (ks:List Str) (p:List Nat) (F:FunD K x qual pa bd sc [] [] f fd) (ok:FnG P w K mg base k f fd ps sp)
    (h:∀ (kV doc pm:Value) (an:Option Addr) (cdv ct:Value) (us ws:List Value),us.length=n→ws.length=ks.length→bindArgs (PySem.W.fnOf x qual pa bd sc .none kV doc pm an cdv ct) ⟨us,ks.zip ws⟩=pure (ps.zip (pick p (us++ws)))):KeptN P w K mg base k f sp n ks p:=by
  have kp:=F.kp
  obtain ⟨oc,od,dV,kV,doc,pm,an,cdv,ct,osl,rfl,lk,hcd,hD,hK⟩:=F.ex
  rcases hD with ⟨_,rfl⟩ | ⟨e,_⟩
  · exact ⟨⟨_,ps,ok,fun s us ws _ l1 l2 => .of_eq (h kV doc pm an cdv ct us ws l1 l2)⟩,kp⟩
  · exact absurd rfl e
end
variable [HasW]
def W30 (X:Cx) (Wx:WX) (fv:Value) (n:Nat) (ks:List Str) (g:List Bv.X→Sto→R Bv.X):Prop:=∀ (pins:List (Addr × Obj)) (s:Shared) (σ:St) (H:Hp) (Q:VK) (us ws:List Value) (vs zs:List V) (Z:Wd) (ρ:List Addr) (xs ys:List Bv.X) (S:Sto),
  Inv X pins σ H s→Vals vs us→Vals zs ws→Sta X.K Z ρ S H→AXs X.K (Wn Z ρ) ρ H xs vs→AXs X.K (Wn Z ρ) ρ H ys zs→vs.length=n→zs.length=ks.length→W1 (AX X.K) X.K Z ρ H Wx σ Q (g (xs++ys) S) →
    codeAny (model X.prog X.w) X.A (.call fv ⟨us,ks.zip ws⟩) (wants (EP X pins σ Q) X.xe) s
def Y2i (p:List Nat) (g:List X→Sto→R X):List X→Sto→R X:=fun xs S=>g (pick p xs) S
section
variable {X:Cx} {Wx:WX} {k j n m:Nat} {f:Addr} {ks:List Str} {p:List Nat}
theorem X4g {fd:FuncData} {ps:List Str} {sp:Sp} {E:St→XK} {pins:List (Addr × Obj)} {σ:St} {H:Hp} {s:Shared} {Q:VK} {us ws:List Value} {vs zs:List V} (F:FnG X.prog X.w X.K X.mg X.base k f fd ps sp) (gu:X.A.guards=some []) (room:Room k X.A)
    (hb:∀ (s:Shared) (us ws:List Value),X.K.In s.heap→us.length=n→ws.length=ks.length→BindsTo s fd ⟨us,ks.zip ws⟩ (ps.zip (pick p (us++ws)))) (hx:PassesAt (Xq.CQ X.prog X.w) X σ (E σ))
    (I:Inv X pins σ H s) (r:Vals vs us) (rz:Vals zs ws) (l1:vs.length=n) (l2:zs.length=ks.length) (h:sp (pick p (vs++zs)) H Q (E σ)):codeAny (model X.prog X.w) X.A (.call (.ref f) ⟨us,ks.zip ws⟩) (wants (EP X pins σ Q) X.xe) s:=by
  have rel:Vals (pick p (vs++zs)) (pick p (us++ws)):=X26 p (r.append rz)
  refine codeAny_mono (F.run X.A X.stack s H ⟨us,ks.zip ws⟩ (pick p (us++ws)) (pick p (vs++zs)) Q (E σ) gu room I.env0 (hb s us ws I.kIn (r.length.symm.trans l1) (rz.length.symm.trans l2)) rel h) fun y s' z=>?_
  cases y with
  | error e=>exact hx pins H s e s' I z
  | ok fl =>
    cases fl with
    | ret u=>exact I.after z
    | next=>exact z.elim
    | brk=>exact z.elim
    | cont=>exact z.elim
theorem Here.callNP {g:List D→PR} (h:Here X Wx k) (c:KeptN X.prog X.w X.K X.mg X.base j f (spP X.K m g) n ks p) (hj:j ≤ k:=by decide) (hp:(p.length=m∧∀ i ∈ p,i < n + ks.length):=by decide):W30 X Wx (.ref f) n ks (Y2i p (Bv.callP g)):=fun pins s σ H Q us ws vs zs Z ρ xs ys S I r rz st a az l1 l2 q=>by
  obtain ⟨fd,ps,F,b⟩:=c.ex
  refine X4g F h.gu (h.room.mono hj) b (Xq.passAt h.tk σ) I r rz l1 l2 (X8k st (X26 p (Paired.append a az)) ?_ q)
  rw [X7h (by rw [List.length_append,l1,l2]; exact hp.2)]; exact hp.1
abbrev MKw (X:Cx) (Wx:WX) (kws:List Keyword) (ms:MG (List Bv.X)):Prop:=PK X kws (RA X.K Wx ms)
theorem PK.of {X:Cx} {es:List Keyword} {t t':TA} (h:PK X es t) (w:∀ σ H Q,t' σ H Q→t σ H Q):PK X es t':=⟨fun pos pins s σ H Q I q=>h.run pos pins s σ H Q I (w σ H Q q)⟩
variable {a:Expr} {ma:M} {ms:MG (List Bv.X)} {nm:Option Str} {kpos pos q:Pos} {kws:List Keyword} {x:Str} {g:List Bv.X→Sto→R Bv.X}
theorem Y84:MKw X Wx [] Z7:=PK.of pk_nil fun σ H Q ⟨Z,ρ,e,S,st,ev,p⟩=>W1.ret0 p st .nil
theorem Z5e (h:ME X Wx a ma) (h2:MKw X Wx kws ms):MKw X Wx (⟨nm,a,kpos⟩ :: kws) (Z3 ma ms):=PK.of (pk_cons h h2) fun σ H Q ⟨Z,ρ,e,S,st,ev,p⟩=>by
  refine X9 st ev p fun ρ1 H1 v x S1 st1 g1 ev1 a1 p1=>?_
  refine X9 st1 ev1 p1 fun ρ2 H2 vs xs S2 st2 g2 ev2 a2 p2=>?_
  exact W1.ret0 p2 st2 (.cons (a1.mv (g2.mv st1) g2.pre) a2)
theorem Z86 (c:W30 X Wx (.ref f) 0 ks g) (hg:Gl X x) (hm:X.mg x=some (.ref f)) (hk:PySem.W.keepIn X.K (.ref f)=true) (ha:MKw X Wx kws ms) (hdb:(x == ("__debug__" : Str))=false:=by decide)
    (hall:(backToKw pos (keywordEach kws X.env)).all (·.1.isSome)=true:=by rfl) (hks:(backToKw pos (keywordEach kws X.env)).filterMap (·.1)=ks:=by rfl)
    (hpl:((backTo pos (starEach [] X.env)).any (·.1) || (backToKw pos (keywordEach kws X.env)).any (·.1.isNone))=false:=by rfl):ME X Wx (.Call (.Name x q) [] kws pos) (Z9 (Y7 ks.length g) ms):=⟨fun pins s σ H Q I ⟨Z,ρ,e,S,st,ev,p⟩=>by
  refine wpAny_Call_Name_kw (ld_glob I hg hm ?_ hdb)
  refine PySem.W.callWith_KW0 (h₀:=X.base) I.ok.mod.kin hk hall (thn (ha.run pos pins s σ H _ I (X9 (R':=fun vs H1=>∃ (ρ1:List Addr) (xs:List Bv.X) (S1:Sto),Sta X.K Z ρ1 S1 H1∧AXs X.K (Wn Z ρ1) ρ1 H1 xs vs∧W1 (AX X.K) X.K Z ρ1 H1 Wx σ Q (Y7 ks.length g xs S1)) st ev p fun ρ1 H1 v xs S1 s1 g1 ev1 a1 p1=>⟨ρ1,xs,S1,s1,a1,p1⟩))
    fun us s1 ⟨vs,H1,I1,r,ρ1,xs,S1,st1,a1,p1⟩=>⟨I1.kIn,?_⟩) hpl
  obtain ⟨hl,p2⟩:=ari (rel:=W1 (AX X.K) X.K Z ρ1 H1 Wx σ Q) (fun z=>z) p1
  rw [hks]
  exact wpAny_call (c pins s1 σ H1 Q [] us [] vs Z ρ1 [] xs S1 I1 .nil r st1 .nil a1 rfl (by rw [← Paired.length a1]; exact hl) p2)⟩
end
end Bv
namespace Bv
open PySem PySem.Spec L2
open PyProof.Rows hiding St
variable [HasW]
def atA (i:Nat) (f:Str) (e:Ev) (S:Sto):Option Nat:=match e[i]? with
  | some (some (.r k))=>match S[k]? with
    | some (.ins _ fs)=>match fs.lookup f with
      | some (.r n)=>some n
      | _=>none
    | _=>none
  | _=>none
def lkT (n:Nat) (S:Sto):Option (List (D × X)):=match S[n]? with
  | some (.tdc kvs)=>some kvs
  | _=>none
def W34 (i:Nat) (f:Str) (m:M):M:=fun e S=>match atA i f e S with
  | some n=>match lkT n S with
    | some kvs=>(m e (S.set n (.tfc kvs))).ne.bind fun x S1 => .ok x (S1.set n (.tdc kvs))
    | none => .bad
  | none => .bad
theorem Sta.putF {K:PySem.W.Frag} {Z:Wd} {ρ:List Addr} {S:Sto} {H:Hp} {n:Nat} {a:Addr} {o':O} {u:HO} (s:Sta K Z ρ S H) (hn:ρ[n]?=some a) (new:AO K (Wn Z ρ) ρ (upd H a u) o' a):Sta K Z ρ (S.set n o') (upd H a u):=by
  have ha:a ∈ ρ:=List.mem_of_getElem? hn
  have m:Mv (Wn Z ρ) H (Wn Z ρ) (upd H a u):=fun b o h q=>⟨h,by rw [upd_ne (fun z=>h (.inr (by rw [z]; exact ha)))]; exact q⟩
  refine ⟨s.nd,fun b h=>⟨(s.z b h).1,?_⟩,by rw [List.length_set]; exact s.len,fun k o b e1 e2=>?_⟩
  · obtain ⟨o,q⟩:=(s.z b h).2
    exact ⟨o,by rw [upd_ne (fun z=>(s.z b h).1 (by rw [z]; exact ha))]; exact q⟩
  · by_cases hk:n=k
    · subst hk
      rw [hn] at e2; cases e2
      have hl:n < S.length:=by
        have:=(List.getElem?_eq_some_iff.mp e1).1
        rwa [List.length_set] at this
      rw [List.getElem?_set_self hl] at e1
      cases e1
      exact new
    · rw [List.getElem?_set_ne hk] at e1
      have hb:b ≠ a:=fun z=>by
        subst z
        obtain ⟨h1,q1⟩:=List.getElem?_eq_some_iff.mp hn
        obtain ⟨h2,q2⟩:=List.getElem?_eq_some_iff.mp e2
        exact hk ((List.getElem_inj s.nd).mp (q1.trans q2.symm))
      exact AO.mv m (List.prefix_refl _) (fun w q=>by rw [upd_ne hb]; exact q) (s.ob k o b e1 e2)
section
variable {X:Cx} {Wx:WX} {e:Expr} {m:M}
theorem W3b (i:Nat) (f:Str) (h:ME X Wx e m):ME X Wx e (W34 i f m):=PE.of (pe_lock h) fun σ H Q ⟨Z,ρ,ee,S,st,ev,p⟩=>by
  have p:Z43 X.K Z ρ H Wx σ Q (match atA i f ee S with
    | some n=>match lkT n S with
      | some kvs=>(m ee (S.set n (.tfc kvs))).ne.bind fun x S1 => .ok x (S1.set n (.tdc kvs))
      | none => .bad
    | none => .bad):=p
  cases h1:atA i f ee S with
  | none=>rw [h1] at p; exact p.elim
  | some n =>
    rw [h1] at p
    have p:Z43 X.K Z ρ H Wx σ Q (match lkT n S with
      | some kvs=>(m ee (S.set n (.tfc kvs))).ne.bind fun x S1 => .ok x (S1.set n (.tdc kvs))
      | none => .bad):=p
    cases h2:lkT n S with
    | none=>rw [h2] at p; exact p.elim
    | some kvs =>
      rw [h2] at p
      have p:Z43 X.K Z ρ H Wx σ Q ((m ee (S.set n (.tfc kvs))).ne.bind fun x S1 => .ok x (S1.set n (.tdc kvs))):=p
      have h3:S[n]?=some (.tdc kvs):=by
        unfold lkT at h2
        cases z:S[n]? with
        | none=>simp only [z] at h2; cases h2
        | some o =>
          simp only [z] at h2
          cases o with
          | tdc kvs'=>cases h2; rfl
          | _=>cases h2
      have hn:n < ρ.length:=by
        have:=(List.getElem?_eq_some_iff.mp h3).1
        rwa [st.len] at this
      obtain ⟨a,ha⟩:∃ a,ρ[n]?=some a:=⟨ρ[n],List.getElem?_eq_getElem hn⟩
      obtain ⟨xs,e2,kv⟩:=st.ob n _ a h3 ha
      refine ⟨a,_,e2,trivial,fun od=>?_⟩
      have inρ:a ∈ ρ:=List.mem_of_getElem? ha
      have m0:Mv (Wn Z ρ) H (Wn Z ρ) (upd H a (.frz od (TDo a xs))):=fun b o hb z=>⟨hb,by rw [upd_ne (fun y=>hb (.inr (by rw [y]; exact inρ)))]; exact z⟩
      obtain ⟨st1,g1⟩:=st.put (o' := .tfc kvs) (u := .frz od (TDo a xs)) ha (fun _ _ z=>by rw [e2] at z; cases z) ⟨od,xs,upd_same,KVT.mv m0 (List.prefix_refl _) kv⟩
      refine ⟨Z,ρ,ee,S.set n (.tfc kvs),st1,ev.mv m0 (List.prefix_refl _),?_⟩
      cases h4:m ee (S.set n (.tfc kvs)) with
      | bad=>rw [h4] at p; exact p.elim
      | err _ _ _=>rw [h4] at p; exact p.elim
      | ok x S1 =>
        rw [h4] at p
        have p:Z43 X.K Z ρ H Wx σ Q (.ok x (S1.set n (.tdc kvs))):=p
        intro ρ2 H2 v st2 g2 a2
        have f2:H2 a=some (.frz od (TDo a xs)):=g2.fz a od _ upd_same
        refine ⟨f2,?_⟩
        have ha2:ρ2[n]?=some a:=by
          obtain ⟨t,rfl⟩:=g2.pre
          rw [List.getElem?_append_left (List.getElem?_eq_some_iff.mp ha).1]
          exact ha
        have in2:a ∈ ρ2:=List.mem_of_getElem? ha2
        have m2:Mv (Wn Z ρ2) H2 (Wn Z ρ2) (upd H2 a (TDo a xs)):=fun b o hb z=>⟨hb,by rw [upd_ne (fun y=>hb (.inr (by rw [y]; exact in2)))]; exact z⟩
        have kv2:=KVT.mv m2 (List.prefix_refl _) (KVT.mv (g2.mv st1) g2.pre (KVT.mv m0 (List.prefix_refl _) kv))
        have ne:∀ b ob u,H b=some (.frz ob u)→b ≠ a:=fun b ob u z y=>by rw [y,e2] at z; cases z
        refine p ρ2 _ v (st2.putF ha2 ⟨_,upd_same,kv2⟩) ⟨g2.pre,fun b o hb z=>?_,fun b ob u z=>?_⟩ (a2.mv m2 (List.prefix_refl _))
        · have hba:b ≠ a:=fun y=>hb (by rw [y]; exact inρ)
          obtain ⟨h5,h6⟩:=g2.keep b o hb (by rw [upd_ne hba]; exact z)
          exact ⟨h5,by rw [upd_ne hba]; exact h6⟩
        · rw [upd_ne (ne b ob u z)]
          exact g2.fz b ob u (by rw [upd_ne (ne b ob u z)]; exact z)
end
end Bv
namespace Bv
open PySem PySem.Spec L2
open PyProof.Rows hiding St
variable [HasW]
def W32 (kvs:List (D × D)) (S:Sto):R X := .ok (.r S.length) (S++[.dic (kvs.map fun p=>(p.1, .d p.2))])
def X9i (t:Tg) (mi:MIt) (mt:MG Bool) (mk mv:M) (vs:List Nat):M:=fun e S=>(mi e S).bind fun p S1=>(dcL t p.2 mt mk mv (U7 e vs) [] p.1 S1).bind W32
section
variable {X:Cx} {Wx:WX} {pos:Pos} {tg iter kx vx c:Expr} {ifs:List Expr} {mi:MIt} {mt:MG Bool} {mk mv:M} {t:Tg} {vs:List Nat}
theorem X81 (hs:∀ i ∈ t.slots,i ∈ vs) {σ:L2.St} {H:Hp} {Q:VK} (h:RE X.K Wx (X9i t mi mt mk mv vs) σ H Q):tDc (RG (Srv X.K) X.K Wx mi) (TGt X.K t) (RB X.K WX0 mt) (RE X.K WX0 mk) (RE X.K WX0 mv) vs σ H Q:=by
  obtain ⟨Z,ρ,e,S,st,ev,p⟩:=h
  refine X9 (rel:=Srv X.K) st ev p fun ρ1 H1 J p0 S1 st1 g1 ev1 srv p1=>?_
  obtain ⟨ys,l⟩:=p0
  obtain ⟨G,Y,w,sv⟩:=srv
  intro D0 hD
  let fin:List (D × D)→Sto→R Bv.X:=W32
  have p1:Z43 X.K Z ρ1 H1 Wx σ Q ((dcL t l mt mk mv (U7 e vs) [] ys S1).bind fin):=p1
  have sv:∀ (Z2:Wd) (ρ2:List Addr) (S2:Sto) (H2:Hp),Sta X.K Z2 ρ2 S2 H2→Mv (Wn Z ρ1) H1 (Wn Z2 ρ2) H2→ρ1 <+: ρ2→(∀ a ob u,H1 a=some (.frz ob u)→H2 a=some (.frz ob u))→l.ok S2=true→G H2 ∧
    ∀ i x H3,Y i H2 x H3→Same H2 H3∧∃ y,ys[i]?=some y∧AX X.K (Wn Z2 ρ2) ρ2 H3 y x:=sv
  have w:Walk J ys.length G Y:=w
  have evw:=ev1.wipe vs
  let Z':Wd:=fun a=>Z a ∨ a=D0
  let Pv:Nat→Hp→Prop:=fun i H=>∃ (ρ:List Addr) (S:Sto) (acc:List (D × D)) (ks:List (Key × V)),Sta X.K Z' ρ S H∧ρ1 <+: ρ∧(∀ a o,a ∉ ρ1→H1 a=some o→a ∉ ρ∧H a=some o)∧(∀ a ob u,H1 a=some (.frz ob u)→H a=some (.frz ob u))∧H D0=some (.dK ks)∧KVR (AV X.K (Wn Z' ρ) H) acc ks ∧
    EvOk X.K (Wn Z' ρ) ρ H (U7 e vs) (wipe σ vs)∧Z43 X.K Z ρ1 H1 Wx σ Q ((dcL t l mt mk mv (U7 e vs) acc (ys.drop i) S).bind fin)
  have mvOf:∀ {ρ:List Addr} {S:Sto} {H:Hp},Sta X.K Z' ρ S H→(∀ a o,a ∉ ρ1→H1 a=some o→a ∉ ρ∧H a=some o)→Mv (Wn Z ρ1) H1 (Wn Z' ρ) H:=fun {ρ S H} s k a o hn hq=>by
    obtain ⟨h2,h3⟩:=k a o (fun z=>hn (.inr z)) hq
    refine ⟨fun z=>?_,h3⟩
    rcases z with (z | z) | z
    · exact hn (.inl z)
    · rw [z,hD] at hq; cases hq
    · exact h2 z
  have okOf:∀ {xs:List Bv.X} {S:Sto} {acc:List (D × D)},Z43 X.K Z ρ1 H1 Wx σ Q ((dcL t l mt mk mv (U7 e vs) acc xs S).bind fin)→l.ok S=true:=fun {xs S acc} q=>by
    cases z:l.ok S with
    | true=>rfl
    | false=>cases xs <;> (simp only [dcL,z] at q; exact q.elim)
  refine W07 w Pv ?_ ?_ ?_ ?_
  · have k:=U3 (o := .dK []) hD
    have s0:=st1.grow k
    have hnw:¬ Wn Z ρ1 D0:=st1.fresh hD
    have m0:Mv (Wn Z ρ1) H1 (Wn Z' ρ1) (upd H1 D0 (.dK [])):=fun a o hn hq=>⟨fun z=>by
      rcases z with (z | z) | z
      · exact hn (.inl z)
      · rw [z,hD] at hq; cases hq
      · exact hn (.inr z),k a o hq⟩
    refine ⟨ρ1,S1,[],[],⟨st1.nd,fun a z=>?_,st1.len,fun n o a e1 e2=>AO.mv m0 (List.prefix_refl _) (fun u q=>k _ _ q) (st1.ob n o a e1 e2)⟩,List.prefix_refl _,fun a o hn hq=>⟨hn,k a o hq⟩,fun a _ _ q=>k a _ q,upd_same, .nil,evw.mv m0 (List.prefix_refl _),?_⟩
    · rcases z with z | z
      · exact ⟨(st1.z a z).1,let ⟨o,q⟩:=(st1.z a z).2; ⟨o,k a o q⟩⟩
      · exact ⟨fun z2=>hnw (.inr (by rw [← z]; exact z2)),⟨_,by rw [z]; exact upd_same⟩⟩
    · rw [List.drop_zero]
      exact p1
  · rintro i H2 _ ⟨ρ2,S2,acc,ks,st2,pr2,k2,f2,d2,a2,ev2,q2⟩
    exact (sv Z' ρ2 S2 H2 st2 (mvOf st2 k2) pr2 f2 (okOf q2)).1
  · rintro i x H2 H3 hi ⟨ρ2,S2,acc,ks,st2,pr2,k2,f2,d2,a2,ev2,q2⟩ hy
    have hk:=okOf q2
    obtain ⟨k,y,e3,a⟩:=(sv Z' ρ2 S2 H2 st2 (mvOf st2 k2) pr2 f2 hk).2 i x H3 hy
    have st3:=st2.grow k
    have m23:Mv (Wn Z' ρ2) H2 (Wn Z' ρ2) H3:=Z5h k
    have ev3:=ev2.mv m23 (List.prefix_refl _)
    rw [Z9i e3] at q2
    simp only [dcL,hk,if_true] at q2
    cases q4:t.asg S2 y (U7 e vs) with
    | none=>rw [q4] at q2; exact q2.elim
    | some e4 =>
      rw [q4] at q2
      refine ⟨Z',ρ2,U7 e vs,S2,y,e4,st3,ev3,a,q4,fun σ5 ev5 w5=>⟨?_,?_⟩⟩
      · rw [w5 vs hs,Z7n]
      have q2:Z43 X.K Z ρ1 H1 Wx σ Q (((mt e4 S2).ne.bind fun b S1=>if b then (mk e4 S1).ne.bind fun y S2=>(mv e4 S2).ne.bind fun z S3=>(match dcK acc y z with
          | some acc2=>dcL t l mt mk mv (U7 e vs) acc2 (ys.drop (i + 1)) S3
          | none => .bad) else dcL t l mt mk mv (U7 e vs) acc (ys.drop (i + 1)) S1).bind fin):=q2
      cases q5:(mt e4 S2).ne with
      | err _ _ _=>cases q6:mt e4 S2 <;> rw [q6] at q5 <;> cases q5
      | bad=>rw [q5] at q2; exact q2.elim
      | ok b S6 =>
        rw [q5] at q2
        refine Z52 (rel:=relB) st3 ev5 q5 fun ρ6 H6 v st6 g6 ev6 r6=>?_
        cases (show b=v from r6)
        have nD:D0 ∉ ρ2:=(st2.z D0 (.inr rfl)).1
        obtain ⟨nD6,d6⟩:=g6.keep D0 _ nD (k _ _ d2)
        have k6:∀ a o,a ∉ ρ1→H1 a=some o→a ∉ ρ6∧H6 a=some o:=fun a o h1 h2=>by
          obtain ⟨h3,h4⟩:=k2 a o h1 h2
          exact g6.keep a o h3 (k _ _ h4)
        have f6:∀ a ob u,H1 a=some (.frz ob u)→H6 a=some (.frz ob u):=fun a ob u q=>g6.fz a ob u (k _ _ (f2 a ob u q))
        have m36:=g6.mv st3
        have ev6':EvOk X.K (Wn Z' ρ6) ρ6 H6 (U7 e vs) (wipe σ vs):=ev3.mv m36 g6.pre
        have a6:KVR (AV X.K (Wn Z' ρ6) H6) acc ks:=Paired.mapP a2 fun _ _ q=>⟨q.1,(q.2.mv m23).mv m36⟩
        cases b with
        | false =>
          rw [if_neg Bool.false_ne_true]
          exact ⟨ρ6,S6,acc,ks,st6,pr2.trans g6.pre,k6,f6,d6,a6,ev6',q2⟩
        | true =>
          rw [if_pos rfl]
          have q2:Z43 X.K Z ρ1 H1 Wx σ Q (((mk e4 S6).ne.bind fun y S2=>(mv e4 S2).ne.bind fun z S3=>(match dcK acc y z with
            | some acc2=>dcL t l mt mk mv (U7 e vs) acc2 (ys.drop (i + 1)) S3
            | none => .bad)).bind fin):=q2
          cases q7:(mk e4 S6).ne with
          | err _ _ _=>cases q6:mk e4 S6 <;> rw [q6] at q7 <;> cases q7
          | bad=>rw [q7] at q2; exact q2.elim
          | ok y7 S7 =>
            rw [q7] at q2
            refine Z52 (rel:=AX X.K) st6 ev6 q7 fun ρ7 H7 v7 st7 g7 ev7 r7=>?_
            have q2:Z43 X.K Z ρ1 H1 Wx σ Q (((mv e4 S7).ne.bind fun z S3=>(match dcK acc y7 z with
              | some acc2=>dcL t l mt mk mv (U7 e vs) acc2 (ys.drop (i + 1)) S3
              | none => .bad)).bind fin):=q2
            cases q8:(mv e4 S7).ne with
            | err _ _ _=>cases q6:mv e4 S7 <;> rw [q6] at q8 <;> cases q8
            | bad=>rw [q8] at q2; exact q2.elim
            | ok z8 S8 =>
              rw [q8] at q2
              refine Z52 (rel:=AX X.K) st7 ev7 q8 fun ρ8 H8 v8 st8 g8 ev8 r8=>?_
              have q2:Z43 X.K Z ρ1 H1 Wx σ Q ((match dcK acc y7 z8 with
                | some acc2=>dcL t l mt mk mv (U7 e vs) acc2 (ys.drop (i + 1)) S8
                | none => .bad).bind fin):=q2
              cases q9:dcK acc y7 z8 with
              | none=>rw [q9] at q2; exact q2.elim
              | some acc2 =>
                rw [q9] at q2
                have r7':=r7.mv (g8.mv st7) g8.pre
                match y7,z8,r7',r8,q9 with
                | .r _,_,_,_,q9=>cases q9
                | .d _, .r _,_,_,q9=>cases q9
                | .d kk, .d vv, .d ak, .d av,q9 =>
                  have q9:(if kk.key?.isSome && (X5j kk && decide (acc.length < sizeLine)) then some (Y8d acc kk vv) else none)=some acc2:=q9
                  obtain ⟨c0,q9⟩:=Z5k q9
                  cases q9
                  obtain ⟨c1,c2⟩:=Bool.and_eq_true_iff.mp c0
                  obtain ⟨_,c3⟩:=Bool.and_eq_true_iff.mp c2
                  obtain ⟨qk,hqk⟩:=Option.isSome_iff_exists.mp c1
                  have hv7:=Y8z hqk ak
                  obtain ⟨nD7,d7⟩:=g7.keep D0 _ nD6 d6
                  obtain ⟨nD8,d8⟩:=g8.keep D0 _ nD7 d7
                  have m68:=fun a o h1 h2=>let ⟨h3,h4⟩:=(g7.mv st6) a o h1 h2; (g8.mv st7) a o h3 h4
                  have a8:KVR (AV X.K (Wn Z' ρ8) H8) acc ks:=Paired.mapP a6 fun _ _ q=>⟨q.1,(q.2.mv (g7.mv st6)).mv (g8.mv st7)⟩
                  have k8:∀ a o,a ∉ ρ1→H1 a=some o→a ∉ ρ8∧H8 a=some o:=fun a o h1 h2=>by
                    obtain ⟨h3,h4⟩:=k6 a o h1 h2
                    obtain ⟨h5,h6⟩:=g7.keep a o h3 h4
                    exact g8.keep a o h5 h6
                  have wD:Wn Z' ρ8 D0 := .inl (.inr rfl)
                  have m9:Mv (Wn Z' ρ8) H8 (Wn Z' ρ8) (upd H8 D0 (.dK (putK ks qk v8))):=fun a o hn hq=>⟨hn,by rw [upd_ne (fun z=>hn (by rw [z]; exact wD))]; exact hq⟩
                  have neD:∀ b,b ∈ ρ8→b ≠ D0:=fun b hb z=>nD8 (by rw [← z]; exact hb)
                  have kv9:KVR (AV X.K (Wn Z' ρ8) (upd H8 D0 (.dK (putK ks qk v8)))) (Y8d acc kk vv) (putK ks qk v8):=Paired.mapP (KVR.put hqk av a8) fun _ _ q=>⟨q.1,q.2.mv m9⟩
                  refine ⟨ks,qk,hv7,d8,by rw [← a8.len]; exact of_decide_eq_true c3,ρ8,S8,Y8d acc kk vv,putK ks qk v8,⟨st8.nd,fun a z=>⟨(st8.z a z).1,?_⟩,st8.len,fun n o a e1 e2=>AO.mv m9 (List.prefix_refl _) (fun u q=>by rw [upd_ne (neD a (List.mem_of_getElem? e2))]; exact q) (st8.ob n o a e1 e2)⟩,((pr2.trans g6.pre).trans g7.pre).trans g8.pre,fun a o h1 h2=>?_,fun a ob u q=>by rw [upd_ne (fun z=>by rw [z,hD] at q; cases q)]; exact g8.fz a ob u (g7.fz a ob u (f6 a ob u q)),upd_same,kv9,((ev6'.mv (g7.mv st6) g7.pre).mv (g8.mv st7) g8.pre).mv m9 (List.prefix_refl _),q2⟩
                  · by_cases hz:a=D0
                    · exact ⟨_,by rw [hz]; exact upd_same⟩
                    · obtain ⟨o,q⟩:=(st8.z a z).2
                      exact ⟨o,by rw [upd_ne hz]; exact q⟩
                  · obtain ⟨h3,h4⟩:=k8 a o h1 h2
                    exact ⟨h3,by rw [upd_ne (fun z=>by rw [z,hD] at h2; cases h2)]; exact h4⟩
  · rintro H2 ⟨ρ2,S2,acc,ks,st2,pr2,k2,f2,d2,a2,ev2,q2⟩
    have hk:=okOf q2
    rw [List.drop_length] at q2
    simp only [dcL,hk,if_true] at q2
    have q2:Z43 X.K Z ρ1 H1 Wx σ Q (.ok (.r S2.length) (S2++[.dic (acc.map fun p=>(p.1, .d p.2))])):=q2
    have nD:D0 ∉ ρ2:=(st2.z D0 (.inr rfl)).1
    have nZ0:∀ c,Z c→c ≠ D0:=fun c hc z=>by
      obtain ⟨_,o,h2⟩:=st1.z c hc
      rw [z,hD] at h2; cases h2
    have m:Mv (Wn Z' ρ2) H2 (Wn Z (ρ2++[D0])) H2:=fun a o hn hq=>⟨fun z=>by
      rcases z with z | z
      · exact hn (.inl (.inl z))
      · rcases List.mem_append.mp z with z | z
        · exact hn (.inr z)
        · exact hn (.inl (.inr (by simpa using z))),hq⟩
    have neD:∀ b,b ∈ ρ2→b ≠ D0:=fun b hb z=>nD (by rw [← z]; exact hb)
    have gen:∀ {l:List (D × D)} {k:List (Key × V)},KVR (AV X.K (Wn Z' ρ2) H2) l k→Paired (fun (p:D × Bv.X) (q:Key × V)=>p.1.key?=some q.1∧AX X.K (Wn Z (ρ2++[D0])) (ρ2++[D0]) H2 p.2 q.2) (l.map fun p=>(p.1,Bv.X.d p.2)) k:=by
      intro l k h
      induction h with
      | nil=>exact .nil
      | cons h _ ih=>exact .cons ⟨h.1, .d (h.2.mv m)⟩ ih
    have pr:=gen a2
    have sN:Sta X.K Z (ρ2++[D0]) (S2++[.dic (acc.map fun p=>(p.1, .d p.2))]) H2:=by
      refine ⟨?_,fun c hc=>⟨fun z=>?_,(st2.z c (.inl hc)).2⟩,by rw [List.length_append,List.length_append,st2.len]; rfl,fun n o c e1 e2=>?_⟩
      · rw [List.nodup_append]
        exact ⟨st2.nd,by simp,fun x hx y hy z=>by
          have:y=D0:=by simpa using hy
          subst this; subst z; exact nD hx⟩
      · rcases List.mem_append.mp z with z | z
        · exact (st2.z c (.inl hc)).1 z
        · exact nZ0 c hc (by simpa using z)
      · by_cases hn:n < ρ2.length
        · rw [List.getElem?_append_left hn] at e2
          rw [List.getElem?_append_left (by rw [st2.len]; exact hn)] at e1
          exact AO.mv m (List.prefix_append _ _) (fun u z=>z) (st2.ob n o c e1 e2)
        · rw [List.getElem?_append_right (by omega)] at e2
          rw [List.getElem?_append_right (by rw [st2.len]; omega)] at e1
          have hz:n - ρ2.length=0:=by
            have:=(List.getElem?_eq_some_iff.mp e2).1
            simp at this; omega
          rw [hz] at e2
          rw [st2.len,hz] at e1
          cases e1; cases e2
          exact ⟨_,d2,pr⟩
    refine q2 (ρ2++[D0]) H2 (.ref D0) sN ⟨pr2.trans (List.prefix_append _ _),fun a o h1 h2=>?_,f2⟩ (.r (by rw [st2.len]; simp))
    obtain ⟨h3,h4⟩:=k2 a o h1 h2
    refine ⟨fun z=>?_,h4⟩
    rcases List.mem_append.mp z with z | z
    · exact h3 z
    · rw [show a=D0 by simpa using z,hD] at h2; cases h2
theorem W1t {scope:Scope} {own:List (Str × Nat)} (hc:X.calm=true) (hN:X.N.Nodup) (hi:MI X Wx tg iter mi) (ok:BlkOk X.N X.env.scope scope own) (hsl:∀ i ∈ t.slots,i ∈ own.map (·.2))
    (hg:∀ (s:Shared) (H:Hp) (C:Addr) (cl:List (Str × Addr)) (fp:List Addr),PG (X.blk s H scope (compEnvC scope cl C X.env) fp) tg (TGt X.K t)) (ht:∀ (s:Shared) (H:Hp) (C:Addr) (cl:List (Str × Addr)) (fp:List Addr),MTs (X.blk s H scope (compEnvC scope cl C X.env) fp) WX0 ifs mt)
    (hk:∀ (s:Shared) (H:Hp) (C:Addr) (cl:List (Str × Addr)) (fp:List Addr),ME (X.blk s H scope (compEnvC scope cl C X.env) fp) WX0 kx mk) (he:∀ (s:Shared) (H:Hp) (C:Addr) (cl:List (Str × Addr)) (fp:List Addr),ME (X.blk s H scope (compEnvC scope cl C X.env) fp) WX0 vx mv)
    (hs:∀ x,foldedSetIterable iter X.env x=pure x:=by intro _; rfl):ME X Wx (.DictComp kx vx [⟨tg,iter,ifs,0⟩] scope pos) (X9i t mi mt mk mv (own.map (·.2))):=PE.of (pe_dc hc hN hi ok hg ht hk he hs) fun _ _ _ h=>X81 hsl h
end
end Bv
namespace Lw
open PySem PySem.Spec L2 Bv
open PyProof.Rows hiding St
structure Facts (K:PySem.W.Frag) (mg:Str→Option Value):Prop where
  f_abs:mg "abs" = none
  f_int:mg "int" = none
  g__law_number:mg "_law_number" = some (.ref (He.ga K "_law_number"))
  v_HEADS:Y0n "HEADS" ["marks", "shown", "asked"] K=true
  g_HEADS:mg "HEADS" = some (.ref (He.ga K "HEADS"))
  f_enumerate:mg "enumerate" = none
  f_len:mg "len" = none
  g_InvalidText:mg "InvalidText" = some (.ref (He.ga K "InvalidText"))
  f_isinstance:mg "isinstance" = none
  is_str:IsT K (.type "str") (Y6e "str") [("Row",false),("Tool",false),("Story",false)]
  f_str:mg "str" = none
  v_BARRED:Y0n "BARRED" ["any", "same", "take", "keep", "to"] K=true
  g_BARRED:mg "BARRED" = some (.ref (He.ga K "BARRED"))
  i_MOST_LETTERS:∃ t,mg "MOST_LETTERS" = some (.int 5 t)
  s_LETTERS_words:∃ t,mg "LETTERS_words" = some (.str "abcdefghijklmnopqrstuvwxyz" t)
  f_all:mg "all" = none
  g_is_name:mg "is_name" = some (.ref (He.ga K "is_name"))
  g_names_in:mg "names_in" = some (.ref (He.ga K "names_in"))
  catch_InvalidText:X3e K (.ref (He.ga K "InvalidText")) [("InvalidRow",false),("InvalidTool",false),("InvalidText",true),("InvalidEvent",false),("InvalidLets",false),("InvalidFault",false)]
  rs_InvalidText:W0x K [("InvalidRow",false),("InvalidTool",false),("InvalidText",true),("InvalidEvent",false),("InvalidLets",false),("InvalidFault",false)]
  v_TAKINGS:Y0n "TAKINGS" ["keep", "take"] K=true
  g_TAKINGS:mg "TAKINGS" = some (.ref (He.ga K "TAKINGS"))
  catch_InvalidRow:X3e K (.ref (He.ga K "InvalidRow")) [("InvalidRow",true),("InvalidTool",false),("InvalidText",false),("InvalidEvent",false),("InvalidLets",false),("InvalidFault",false)]
  rs_InvalidRow:W0x K [("InvalidRow",true),("InvalidTool",false),("InvalidText",false),("InvalidEvent",false),("InvalidLets",false),("InvalidFault",false)]
  v_HAPPENINGS:Y0n "HAPPENINGS" ["give", "carry", "drop", "back", "right", "wrong"] K=true
  g_HAPPENINGS:mg "HAPPENINGS" = some (.ref (He.ga K "HAPPENINGS"))
  g_is_word:mg "is_word" = some (.ref (He.ga K "is_word"))
  g_InvalidRow:mg "InvalidRow" = some (.ref (He.ga K "InvalidRow"))
  is_bool:IsT K (.type "bool") (Y6e "bool") [("Row",false),("Tool",false),("Story",false)]
  f_bool:mg "bool" = none
  at_Row_word:Z0x K ["Row"] "word"
  at_Row_old:Z0x K ["Row"] "old"
  at_Row_then:Z0x K ["Row"] "then"
  at_Row_take:Z0x K ["Row"] "take"
  M_Row:Mk K (He.ga K "Row") (He.ma K (He.ga K "Row") "__init__")
  g_Row:mg "Row" = some (.ref (He.ga K "Row"))
  cm_Row_read:ClsM K "Row" "read"
  iss_list_tuple:IsTs K [.type "list", .type "tuple"] (X6a ["list", "tuple"]) [("Row",false),("Tool",false),("Story",false)]
  f_list:mg "list" = none
  f_tuple:mg "tuple" = none
  g_is_sequence:mg "is_sequence" = some (.ref (He.ga K "is_sequence"))
  f_set:mg "set" = none
  g_are_unlike:mg "are_unlike" = some (.ref (He.ga K "are_unlike"))
  g_are_names:mg "are_names" = some (.ref (He.ga K "are_names"))
  g_InvalidTool:mg "InvalidTool" = some (.ref (He.ga K "InvalidTool"))
  is_Row:IsT K (.ref (He.ga K "Row")) X10 [("Row",true),("Tool",false),("Story",false)]
  f_any:mg "any" = none
  at_Tool_marks:Z0x K ["Tool"] "marks"
  at_Tool_shown:Z0x K ["Tool"] "shown"
  at_Tool_asked:Z0x K ["Tool"] "asked"
  at_Tool_rows:Z0x K ["Tool"] "rows"
  at_Tool_blank:Z0x K ["Tool"] "blank"
  M_Tool:Mk K (He.ga K "Tool") (He.ma K (He.ga K "Tool") "__init__")
  g_Tool:mg "Tool" = some (.ref (He.ga K "Tool"))
  cm_Tool_read:ClsM K "Tool" "read"
  v_LETS:Y0n "LETS" ["alike", "back", "late", "near"] K=true
  g_LETS:mg "LETS" = some (.ref (He.ga K "LETS"))
  e0_InvalidLets:Err0 K (He.ga K "InvalidLets")
  g_InvalidLets:mg "InvalidLets" = some (.ref (He.ga K "InvalidLets"))
  g_need_lets:mg "need_lets" = some (.ref (He.ga K "need_lets"))
  at_Closure_maker:Z0x K ["Closure"] "maker"
  at_Closure_lets:Z0x K ["Closure"] "lets"
  s_NOBODY:∃ t,mg "NOBODY" = some (.str "none" t)
  g_begun:mg "begun" = some (.ref (He.ga K "begun"))
  at_Closure_order:Z0x K ["Closure"] "order"
  at_Closure_ahead:Z0x K ["Closure"] "ahead"
  at_Closure_rows_done:Z0x K ["Closure"] "rows_done"
  at_Closure_resting:Z0x K ["Closure"] "resting"
  at_Step_row:Z0x K ["Step"] "row"
  at_Step_later:Z0x K ["Step"] "later"
  c_Closure:Cls K (He.ga K "Closure")
  m_Closure_note:Meth K (He.ga K "Closure") "note" (He.ma K (He.ga K "Closure") "note")
  c_Row:Cls K (He.ga K "Row")
  m_Row_fits:Meth K (He.ga K "Row") "fits" (He.ma K (He.ga K "Row") "fits")
  c_Tool:Cls K (He.ga K "Tool")
  m_Tool_row_for:Meth K (He.ga K "Tool") "row_for" (He.ma K (He.ga K "Tool") "row_for")
  m_Tool_becomes:Meth K (He.ga K "Tool") "becomes" (He.ma K (He.ga K "Tool") "becomes")
  at_Step_how:Z0x K ["Step"] "how"
  at_Step_source:Z0x K ["Step"] "source"
  M_Step:Mk K (He.ga K "Step") (He.ma K (He.ga K "Step") "__init__")
  g_Step:mg "Step" = some (.ref (He.ga K "Step"))
  s_MINE:∃ t,mg "MINE" = some (.str "mine" t)
  g_given_step:mg "given_step" = some (.ref (He.ga K "given_step"))
  s_THEIRS:∃ t,mg "THEIRS" = some (.str "theirs" t)
  s_OTHER:∃ t,mg "OTHER" = some (.str "other" t)
  g_delivery_steps:mg "delivery_steps" = some (.ref (He.ga K "delivery_steps"))
  g_looked_step:mg "looked_step" = some (.ref (He.ga K "looked_step"))
  g_look_steps:mg "look_steps" = some (.ref (He.ga K "look_steps"))
  g_is_let:mg "is_let" = some (.ref (He.ga K "is_let"))
  g_is_of_others:mg "is_of_others" = some (.ref (He.ga K "is_of_others"))
  g_whose_then:mg "whose_then" = some (.ref (He.ga K "whose_then"))
  g_movers:mg "movers" = some (.ref (He.ga K "movers"))
  g_carry_steps:mg "carry_steps" = some (.ref (He.ga K "carry_steps"))
  g_editions_to:mg "editions_to" = some (.ref (He.ga K "editions_to"))
  g_edition_steps:mg "edition_steps" = some (.ref (He.ga K "edition_steps"))
  at_Closure_Teller_maker:Z0x K ["Closure", "Teller"] "maker"
  at_Closure_Teller_lets:Z0x K ["Closure", "Teller"] "lets"
  g_all_steps:mg "all_steps" = some (.ref (He.ga K "all_steps"))
  m_Closure_go_from:Meth K (He.ga K "Closure") "go_from" (He.ma K (He.ga K "Closure") "go_from")
  M_Closure:Mk K (He.ga K "Closure") (He.ma K (He.ga K "Closure") "__init__")
  g_Closure:mg "Closure" = some (.ref (He.ga K "Closure"))
  v_FAULTS:Y0n "FAULTS" ["again", "fallen", "lost", "strange", "stuck", "vain"] K=true
  g_FAULTS:mg "FAULTS" = some (.ref (He.ga K "FAULTS"))
  g_shows_own:mg "shows_own" = some (.ref (He.ga K "shows_own"))
  g_is_stuck:mg "is_stuck" = some (.ref (He.ga K "is_stuck"))
  g_shows_fault:mg "shows_fault" = some (.ref (He.ga K "shows_fault"))
  g_steps_to_fault:mg "steps_to_fault" = some (.ref (He.ga K "steps_to_fault"))
  g_is_lost_from:mg "is_lost_from" = some (.ref (He.ga K "is_lost_from"))
  g_is_met:mg "is_met" = some (.ref (He.ga K "is_met"))
  g_faults:mg "faults" = some (.ref (He.ga K "faults"))
  f_sorted:mg "sorted" = none
  g_standings:mg "standings" = some (.ref (He.ga K "standings"))
  e0_InvalidFault:Err0 K (He.ga K "InvalidFault")
  g_InvalidFault:mg "InvalidFault" = some (.ref (He.ga K "InvalidFault"))
  g_need_fault:mg "need_fault" = some (.ref (He.ga K "need_fault"))
  g_happens:mg "happens" = some (.ref (He.ga K "happens"))
  at_Teller_maker:Z0x K ["Teller"] "maker"
  at_Teller_lets:Z0x K ["Teller"] "lets"
  at_Teller_closure:Z0x K ["Teller"] "closure"
  at_Teller_events:Z0x K ["Teller"] "events"
  at_Teller_at:Z0x K ["Teller"] "at"
  at_Teller_number:Z0x K ["Teller"] "number"
  at_Teller_many_keys:Z0x K ["Teller"] "many_keys"
  at_Teller_many_strangers:Z0x K ["Teller"] "many_strangers"
  at_Teller_seen:Z0x K ["Teller"] "seen"
  at_Teller_owner:Z0x K ["Teller"] "owner"
  M_Teller:Mk K (He.ga K "Teller") (He.ma K (He.ga K "Teller") "__init__")
  g_Teller:mg "Teller" = some (.ref (He.ga K "Teller"))
  s_LETTERS_tales:∃ t,mg "LETTERS_tales" = some (.str "bcdfghijklmnopqrstuvwxyz" t)
  c_Teller:Cls K (He.ga K "Teller")
  m_Teller_fresh_key:Meth K (He.ga K "Teller") "fresh_key" (He.ma K (He.ga K "Teller") "fresh_key")
  m_Teller_path_to:Meth K (He.ga K "Teller") "path_to" (He.ma K (He.ga K "Teller") "path_to")
  i_WATCHED:∃ t,mg "WATCHED" = some (.int 99 t)
  m_Teller_those_at:Meth K (He.ga K "Teller") "those_at" (He.ma K (He.ga K "Teller") "those_at")
  m_Teller_elder_stranger:Meth K (He.ga K "Teller") "elder_stranger" (He.ma K (He.ga K "Teller") "elder_stranger")
  at_Story_Teller_events:Z0x K ["Story", "Teller"] "events"
  m_Teller_give:Meth K (He.ga K "Teller") "give" (He.ma K (He.ga K "Teller") "give")
  m_Teller_check:Meth K (He.ga K "Teller") "check" (He.ma K (He.ga K "Teller") "check")
  m_Teller_fresh_stranger:Meth K (He.ga K "Teller") "fresh_stranger" (He.ma K (He.ga K "Teller") "fresh_stranger")
  m_Teller_wished:Meth K (He.ga K "Teller") "wished" (He.ma K (He.ga K "Teller") "wished")
  m_Teller_without:Meth K (He.ga K "Teller") "without" (He.ma K (He.ga K "Teller") "without")
  f_dict:mg "dict" = none
  m_Teller_tell:Meth K (He.ga K "Teller") "tell" (He.ma K (He.ga K "Teller") "tell")
  m_Teller_settle:Meth K (He.ga K "Teller") "settle" (He.ma K (He.ga K "Teller") "settle")
  m_Teller_change_to:Meth K (He.ga K "Teller") "change_to" (He.ma K (He.ga K "Teller") "change_to")
  m_Teller_stay:Meth K (He.ga K "Teller") "stay" (He.ma K (He.ga K "Teller") "stay")
  m_Teller_build:Meth K (He.ga K "Teller") "build" (He.ma K (He.ga K "Teller") "build")
  m_Teller_mover_from:Meth K (He.ga K "Teller") "mover_from" (He.ma K (He.ga K "Teller") "mover_from")
  m_Teller_stranger_near:Meth K (He.ga K "Teller") "stranger_near" (He.ma K (He.ga K "Teller") "stranger_near")
  m_Teller_come:Meth K (He.ga K "Teller") "come" (He.ma K (He.ga K "Teller") "come")
  m_Teller_go:Meth K (He.ga K "Teller") "go" (He.ma K (He.ga K "Teller") "go")
  m_Teller_lose:Meth K (He.ga K "Teller") "lose" (He.ma K (He.ga K "Teller") "lose")
  g_InvalidEvent:mg "InvalidEvent" = some (.ref (He.ga K "InvalidEvent"))
  s_DIGITS:∃ t,mg "DIGITS" = some (.str "0123456789" t)
  g_number_in:mg "number_in" = some (.ref (He.ga K "number_in"))
  g_is_key:mg "is_key" = some (.ref (He.ga K "is_key"))
  g_place_in:mg "place_in" = some (.ref (He.ga K "place_in"))
  g_places_in:mg "places_in" = some (.ref (He.ga K "places_in"))
  g_move_in:mg "move_in" = some (.ref (He.ga K "move_in"))
  g_keys_of:mg "keys_of" = some (.ref (He.ga K "keys_of"))
  g_is_possible:mg "is_possible" = some (.ref (He.ga K "is_possible"))
  at_Story_events:Z0x K ["Story"] "events"
  at_Story_editions:Z0x K ["Story"] "editions"
  at_Story_moves:Z0x K ["Story"] "moves"
  g_needs_of:mg "needs_of" = some (.ref (He.ga K "needs_of"))
  g_all_needs:mg "all_needs" = some (.ref (He.ga K "all_needs"))
  at_Story_asked_for:Z0x K ["Story"] "asked_for"
  M_Story:Mk K (He.ga K "Story") (He.ma K (He.ga K "Story") "__init__")
  g_Story:mg "Story" = some (.ref (He.ga K "Story"))
  g_story:mg "story" = some (.ref (He.ga K "story"))
  sp_Tool___len__:OwnSp K "Tool" "__len__" (He.ma K (He.ga K "Tool") "__len__")
  g_comes:mg "comes" = some (.ref (He.ga K "comes"))
  g_law:mg "law" = some (.ref (He.ga K "law"))
section
variable [HasW] {P:Program} {K:PySem.W.Frag} {mg:Str→Option Value} {base:Heap} {f:Addr} {fd:FuncData} {dl:List V} (Fx:Facts K mg)
def Z7t:List Str:=["_law_script", "_law_turn", "_law_zfound", "_law_zcell"]
theorem Z5o:Z7t.Nodup:=by decide +kernel
theorem Y57:FnScope Z7t ["_law_script", "_law_turn"] (defScope Z1y):=⟨rfl,rfl,rfl,Z5o,rfl,by decide +kernel,by decide +kernel⟩
def Z57:MS:=Y0 (V0 2 (Y3 Z7o (m_c (.int 43)) (Z4 1))) (Y0 (Z40 (.nm 3) (Z05 (Z17 (Z4 0) (Y5n) (Z34 (m_c (.int 50))))) (V0 2 (Y3 X20 (Z9 X38 (Z3 (Y3 Z7o (Y3 Z7o (Y3 W1z (Z4 2) (m_c (.int 31))) (Y3 X20 (Z9 X38 (Z3 (Z9 (X4x W2x) (Z3 (Z4 3) (Z7))) (Z7))) (m_c (.int 1000003)))) (Z4 1)) (Z7))) (m_c (.int 1000003))))) (W3 (Y3 X20 (Z9 X38 (Z3 (Y3 Y7h (Z4 2) (m_c (.int 7))) (Z7))) (m_c (.int 7)))))
def g__law_number:List D→PR:=Z53 4 Z57
include Fx in
theorem Y5u  (F:FunD K "_law_number" "_law_number" (defArgs Z1y) (defBody Z1y) (defScope Z1y) dl [] f fd):FnG P HasW.w K mg base 1 f fd ["_law_script", "_law_turn"] (spP K 2 g__law_number):=fnP F Y57 fun cdv A outer s H E gu room=>by
  have h:Here (cxB P HasW.w K mg base Z7t "_law_number" (defScope Z1y) f cdv A outer s H E) (wxE E) 0:=W0 gu room
  unfold Z57
  exact Z5 (W2 (i:=2) Z5o rfl (by first | exact Or.inl rfl | exact Or.inr rfl) (Z8p h.add (Y6) (Z0 1))) (Z5 (Z37 Z3h rfl (Q1 (Z16 (Z0 0) (Z3d) (Z3e (Y6)))) (Y2 (i:=3) Z5o rfl (by first | exact Or.inl rfl | exact Or.inr rfl)) (Z8 (W2 (i:=2) Z5o rfl (by first | exact Or.inl rfl | exact Or.inr rfl) (Z8p h.mod (Z2v call_int1 X3g rfl Fx.f_int (Z1 (Z8p h.add (Z8p h.add (Z8p h.mul (Z0 2) (Y6)) (Z8p h.mod (Z2v call_int1 X3g rfl Fx.f_int (Z1 (U8 call_abs W2y rfl Fx.f_abs (Z1 (Z0 3) (Z6))) (Z6))) (Y6))) (Z0 1)) (Z6))) (Y6))))) (Z8 (X7 (Z8p h.mod (Z2v call_int1 X3g rfl Fx.f_int (Z1 (Z8p h.fdiv (Z0 2) (Y6)) (Z6))) (Y6)))))
def Y0q:List Str:=["value", "sign"]
theorem Y2b:Y0q.Nodup:=by decide +kernel
theorem X3v:FnScope Y0q ["value"] (defScope Z30):=⟨rfl,rfl,rfl,Y2b,rfl,by decide +kernel,by decide +kernel⟩
def Y8g:MS:=Y0 (Z02 (Z5c (Z0e (X8 (Y5m (Y6e "str") [("Row",false),("Tool",false),("Story",false)] (Z4 0)))) (Z5c (Q0 (Y3 inD (Z4 0) (m_c (.tup ((["any", "same", "take", "keep", "to"]:List Str).map D.str))))) (Z0e (Q0 (Z76 leD leD (m_c (.int 1)) (Z9 Z9j (Z3 (Z4 0) (Z7))) (m_c (.int 5))))))) (W3 (m_c (.bl false))) (V3)) (W3 (Z9 (Y8l fun l=>l.all id) (Z3 (Z8m (.nm 1) (Z05 (Z4 0)) (Z2o) (Y3 inD (Z4 1) (m_c (.str "abcdefghijklmnopqrstuvwxyz"))) [1]) (Z7))))
def g_is_name:List D→PR:=Z53 2 Y8g
include Fx in
theorem X3p  (F:FunD K "is_name" "is_name" (defArgs Z30) (defBody Z30) (defScope Z30) dl [] f fd):FnG P HasW.w K mg base 1 f fd ["value"] (spP K 1 g_is_name):=fnP F X3v fun cdv A outer s H E gu room=>by
  have h:Here (cxB P HasW.w K mg base Y0q "is_name" (defScope Z30) f cdv A outer s H E) (wxE E) 0:=W0 gu room
  unfold Y8g
  exact Z5 (V2 (Z5m (Z5s (Z0o (X0 (Y4p rfl Fx.f_isinstance (Z0 0) (X8f rfl Fx.f_str) Fx.is_str (.ty _)))) (Z5s (W4 h.in_ (Z0 0) (Y1h rfl Fx.g_BARRED Fx.v_BARRED)) (Z38 (Z0o (X1y h.le h.le (Y6) (U8 Z35 Z36 rfl Fx.f_len (Z1 (Z0 0) (Z6))) (Z6q rfl Fx.i_MOST_LETTERS))))))) (Z8 (X7 (Z2r))) (X4)) (Z8 (X7 (U8 (cr_all rfl) Y5i rfl Fx.f_all (Z1 (Z5d (own:=[("sign",1)]) (t:=(.nm 1)) rfl Y2b (Q1 (Z0 0)) (blkOk_by (N:=Y0q) (sc:=defScope Z30) (by decide +kernel)) (by decide) (fun _ _ _ _ _=>Y2 (i:=1) Y2b rfl (by first | exact Or.inl rfl | exact Or.inr rfl)) (fun _ _ _ _ _=>Z08) (fun _ _ _ _ _=>Z2p (h.blk _ _ _ _ _).in_ (Z0 1) (Z1f rfl Fx.s_LETTERS_words))) (Z6)))))
def Z9g:List Str:=["line", "head", "words", "one"]
theorem Z78:Z9g.Nodup:=by decide +kernel
theorem X1u:FnScope Z9g ["line", "head"] (defScope Z27):=⟨rfl,rfl,rfl,Z78,rfl,by decide +kernel,by decide +kernel⟩
def Y6k:MS:=Y0 (V0 2 (Y4o Z84 (Z4 0) (m_c (.str " ")))) (Y0 (Z02 (Z5c (Q0 (Y3 neD (Z18 (Z4 2) (m_c (.int 0))) (Z4 1))) (Z0e (X8 (Z9 (Y8l fun l=>l.all id) (Z3 (Z8m (.nm 3) (Z05 (Z17 (Z4 2) (Z34 (m_c (.int 1))) (Y5n))) (Z2o) (Z9 (Y7 1 (X5 [] (callP g_is_name))) (Z3 (Z4 3) (Z7))) [3]) (Z7)))))) (W3 (m_c .non)) (V3)) (W3 (Y1k (Z0z (Q0 (Y3 eqD (Z4 1) (m_c (.str "marks")))) (Q0 (Y3 eqD (Z9 Z9j (Z3 (Z4 2) (Z7))) (m_c (.int 1))))) (m_c .non) (Z17 (Z4 2) (Z34 (m_c (.int 1))) (Y5n)))))
def g_names_in:List D→PR:=Z53 4 Y6k
include Fx in
theorem X1l (K_is_name:Kept P HasW.w K mg base 1 (He.ga K "is_name") (spP K 1 g_is_name)) (F:FunD K "names_in" "names_in" (defArgs Z27) (defBody Z27) (defScope Z27) dl [] f fd):FnG P HasW.w K mg base 2 f fd ["line", "head"] (spP K 2 g_names_in):=fnP F X1u fun cdv A outer s H E gu room=>by
  have h:Here (cxB P HasW.w K mg base Z9g "names_in" (defScope Z27) f cdv A outer s H E) (wxE E) 1:=W0 gu room
  unfold Y6k
  exact Z5 (W2 (i:=2) Z78 rfl (by first | exact Or.inl rfl | exact Or.inr rfl) (Y1l (Z0 0) (Y4))) (Z5 (V2 (Z5m (Z5s (W4 h.ne (U6 (Z0 2) (Y6)) (Z0 1)) (Z38 (Z0o (X0 (U8 (cr_all rfl) Y5i rfl Fx.f_all (Z1 (Z5d (own:=[("one",3)]) (t:=(.nm 3)) rfl Z78 (Q1 (Z16 (Z0 2) (Z3e (Y6)) (Z3d))) (blkOk_by (N:=Z9g) (sc:=defScope Z27) (by decide +kernel)) (by decide) (fun _ _ _ _ _=>Y2 (i:=3) Z78 rfl (by first | exact Or.inl rfl | exact Or.inr rfl)) (fun _ _ _ _ _=>Z08) (fun _ _ _ _ _=>Y8 ((h.blk _ _ _ _ _).callP K_is_name (by decide)) rfl Fx.g_is_name K_is_name.kp (Z1 (Z0 3) (Z6)))) (Z6)))))))) (Z8 (X7 (Z0j))) (X4)) (Z8 (X7 (Z44 (Z5m (Z03 (W4 h.eq (Z0 1) (Y4)) (Z0l (W4 h.eq (U8 Z35 Z36 rfl Fx.f_len (Z1 (Z0 2) (Z6))) (Y6))))) (Z0j) (Z16 (Z0 2) (Z3e (Y6)) (Z3d))))))
def Y3r:List Str:=["value", "words"]
theorem X3o:Y3r.Nodup:=by decide +kernel
theorem X3w:FnScope Y3r ["value", "words"] (defScope Z4m):=⟨rfl,rfl,rfl,X3o,rfl,by decide +kernel,by decide +kernel⟩
def Y8h:MS:=W3 (Z85 (Y5m (Y6e "str") [("Row",false),("Tool",false),("Story",false)] (Z4 0)) (Y3 inD (Z4 0) (Z4 1)))
def g_is_word:List D→PR:=Z53 2 Y8h
include Fx in
theorem X3q  (F:FunD K "is_word" "is_word" (defArgs Z4m) (defBody Z4m) (defScope Z4m) dl [] f fd):FnG P HasW.w K mg base 1 f fd ["value", "words"] (spP K 2 g_is_word):=fnP F X3w fun cdv A outer s H E gu room=>by
  have h:Here (cxB P HasW.w K mg base Y3r "is_word" (defScope Z4m) f cdv A outer s H E) (wxE E) 0:=W0 gu room
  unfold Y8h
  exact Z8 (X7 (Z6g (Y4p rfl Fx.f_isinstance (Z0 0) (X8f rfl Fx.f_str) Fx.is_str (.ty _)) (Z3g (Z2p h.in_ (Z0 0) (Z0 1)))))
def Y1u:List Str:=["self", "word", "old", "then", "take"]
theorem X1e:Y1u.Nodup:=by decide +kernel
theorem X1q:FnScope Y1u ["self", "word", "old", "then", "take"] (defScope Z3s):=⟨rfl,rfl,rfl,X1e,rfl,by decide +kernel,by decide +kernel⟩
def Y6g:MS:=Y0 (Z02 (Z0e (X8 (Z9 (Y7 2 (X5 [] (callP g_is_word))) (Z3 (Z4 1) (Z3 (m_c (.tup ((["give", "carry", "drop", "back", "right", "wrong"]:List Str).map D.str))) (Z7)))))) (Z3q "InvalidRow" "word" (Z3 (m_c (.str "word")) (Z7))) (V3)) (Y0 (Z02 (Z0z (Q0 (Y3 neD (Z4 2) (m_c (.str "any")))) (Z0e (X8 (Z9 (Y7 1 (X5 [] (callP g_is_name))) (Z3 (Z4 2) (Z7)))))) (Z3q "InvalidRow" "word" (Z3 (m_c (.str "old")) (Z7))) (V3)) (Y0 (Z02 (Z0z (Q0 (Y3 neD (Z4 3) (m_c (.str "same")))) (Z0e (X8 (Z9 (Y7 1 (X5 [] (callP g_is_name))) (Z3 (Z4 3) (Z7)))))) (Z3q "InvalidRow" "word" (Z3 (m_c (.str "then")) (Z7))) (V3)) (Y0 (Z02 (Z5c (Z0e (X8 (Y5m (Y6e "bool") [("Row",false),("Tool",false),("Story",false)] (Z4 4)))) (Z0z (Q0 (Y3 neD (Z4 1) (m_c (.str "give")))) (Z0e (X8 (Z4 4))))) (Z3q "InvalidRow" "word" (Z3 (m_c (.str "take")) (Z7))) (V3)) (Y0 (Z3p ["Row"] "word" (Z4 0) (Z4 1)) (Y0 (Z3p ["Row"] "old" (Z4 0) (Z4 2)) (Y0 (Z3p ["Row"] "then" (Z4 0) (Z4 3)) (Z3p ["Row"] "take" (Z4 0) (Z4 4))))))))
def Y14:List X→Sto→R X:=Y0p 5 Y6g
include Fx in
theorem X1h (X_InvalidRow:Xe.ErrOk P K (He.ga K "InvalidRow") (X03 "InvalidRow" K) "word") (K_is_word:Kept P HasW.w K mg base 1 (He.ga K "is_word") (spP K 2 g_is_word)) (K_is_name:Kept P HasW.w K mg base 1 (He.ga K "is_name") (spP K 1 g_is_name)) (F:FunD K "__init__" "Row.__init__" (defArgs Z3s) (defBody Z3s) (defScope Z3s) dl [] f fd):FnG P HasW.w K mg base 2 f fd ["self", "word", "old", "then", "take"] (spE K 5 Y14):=fnE F X1q fun cdv A outer s H E gu room=>by
  have h:Here (cxB P HasW.w K mg base Y1u "Row.__init__" (defScope Z3s) f cdv A outer s H E) (wxE E) 1:=W0 gu room
  unfold Y6g
  exact Z5 (V2 (Z0o (X0 (Y8 (h.callP K_is_word (by decide)) rfl Fx.g_is_word K_is_word.kp (Z1 (Z0 1) (Z1 (Y1h rfl Fx.g_HAPPENINGS Fx.v_HAPPENINGS) (Z6)))))) (Z8 (Z2s rfl h X_InvalidRow Fx.g_InvalidRow rfl (Z1 (Y4) (Z6)))) (X4)) (Z5 (V2 (Z5m (Z03 (W4 h.ne (Z0 2) (Y4)) (Z0l (Z0o (X0 (Y8 (h.callP K_is_name (by decide)) rfl Fx.g_is_name K_is_name.kp (Z1 (Z0 2) (Z6)))))))) (Z8 (Z2s rfl h X_InvalidRow Fx.g_InvalidRow rfl (Z1 (Y4) (Z6)))) (X4)) (Z5 (V2 (Z5m (Z03 (W4 h.ne (Z0 3) (Y4)) (Z0l (Z0o (X0 (Y8 (h.callP K_is_name (by decide)) rfl Fx.g_is_name K_is_name.kp (Z1 (Z0 3) (Z6)))))))) (Z8 (Z2s rfl h X_InvalidRow Fx.g_InvalidRow rfl (Z1 (Y4) (Z6)))) (X4)) (Z5 (V2 (Z5m (Z5s (Z0o (X0 (Y4p rfl Fx.f_isinstance (Z0 4) (X8f rfl Fx.f_bool) Fx.is_bool (.ty _)))) (Z38 (Z5m (Z03 (W4 h.ne (Z0 1) (Y4)) (Z0l (Z0o (X0 (Z0 4))))))))) (Z8 (Z2s rfl h X_InvalidRow Fx.g_InvalidRow rfl (Z1 (Y4) (Z6)))) (X4)) (Z5 (Z1o ["Row"] Fx.at_Row_word (Z0 0) (Z0 1)) (Z5 (Z1o ["Row"] Fx.at_Row_old (Z0 0) (Z0 2)) (Z5 (Z1o ["Row"] Fx.at_Row_then (Z0 0) (Z0 3)) (Z8 (Z1o ["Row"] Fx.at_Row_take (Z0 0) (Z0 4)))))))))
def Y1v:List Str:=["cls", "text", "words", "take", "error"]
theorem Z5f:Y1v.Nodup:=by decide +kernel
theorem X1r:FnScope Y1v ["cls", "text"] (defScope Z3t):=⟨rfl,rfl,rfl,Z5f,rfl,by decide +kernel,by decide +kernel⟩
def Y6h:MS:=Y0 (V0 2 (Y4o Z84 (Z4 1) (m_c (.str " ")))) (Y0 (V0 3 (m_c (.bl true))) (Y0 (Z02 (Z0z (Q0 (Y3 eqD (Z18 (Z4 2) (m_c (.int 0))) (m_c (.str "give")))) (Z0z (Q0 (Y3 eqD (Z9 Z9j (Z3 (Z4 2) (Z7))) (m_c (.int 5)))) (Q0 (Y3 inD (Z18 (Z4 2) (m_c (.int 2))) (m_c (.tup ((["keep", "take"]:List Str).map D.str))))))) (Y0 (V0 3 (Y3 eqD (Z18 (Z4 2) (m_c (.int 2))) (m_c (.str "take")))) (V0 2 (Z2b (Z4k (Z17 (Z4 2) (Y5n) (Z34 (m_c (.int 2)))) (Z4k (Z17 (Z4 2) (Z34 (m_c (.int 3))) (Y5n)) (Z7)))))) (Z02 (Q0 (Y3 eqD (Z18 (Z4 2) (m_c (.int 0))) (m_c (.str "give")))) (Z3q "InvalidText" "at" (Z3 (m_c (.int 0)) (Z7))) (V3))) (Y0 (Z02 (Z5c (Q0 (Y3 neD (Z9 Z9j (Z3 (Z4 2) (Z7))) (m_c (.int 4)))) (Q0 (Y3 neD (Z18 (Z4 2) (m_c (.int 2))) (m_c (.str "to"))))) (Z3q "InvalidText" "at" (Z3 (m_c (.int 0)) (Z7))) (V3)) (X29 [("InvalidRow",true),("InvalidTool",false),("InvalidText",false),("InvalidEvent",false),("InvalidLets",false),("InvalidFault",false)] (W3 (X06 0 "Row" (Y7 4 (X5 [] (made "Row" mkF Y14))) (Z3 (Z18 (Z4 2) (m_c (.int 0))) (Z3 (Z18 (Z4 2) (m_c (.int 1))) (Z3 (Z18 (Z4 2) (m_c (.int 3))) (Z3 (Z4 3) (Z7))))))) 4 "InvalidText" "at" (fun lv=>x_c (.int 0))))))
def Y15:List D→PR:=Z53 5 Y6h
include Fx in
theorem X1i (X_InvalidText:Xe.ErrOk P K (He.ga K "InvalidText") (X03 "InvalidText" K) "at") (K_Row_init:Kept P HasW.w K mg base 2 (He.ma K (He.ga K "Row") "__init__") (spE K 5 Y14)) (F:FunD K "read" "Row.read" (defArgs Z3t) (defBody Z3t) (defScope Z3t) dl [] f fd):FnG P HasW.w K mg base 4 f fd ["cls", "text"] (spP K 2 Y15):=fnP F X1r fun cdv A outer s H E gu room=>by
  have h:Here (cxB P HasW.w K mg base Y1v "Row.read" (defScope Z3t) f cdv A outer s H E) (wxE E) 3:=W0 gu room
  unfold Y6h
  exact Z5 (W2 (i:=2) Z5f rfl (by first | exact Or.inl rfl | exact Or.inr rfl) (Y1l (Z0 1) (Y4))) (Z5 (W2 (i:=3) Z5f rfl (by first | exact Or.inl rfl | exact Or.inr rfl) (Z2r)) (Z5 (V2 (Z5m (Z03 (W4 h.eq (U6 (Z0 2) (Y6)) (Y4)) (Z03 (W4 h.eq (U8 Z35 Z36 rfl Fx.f_len (Z1 (Z0 2) (Z6))) (Y6)) (Z0l (W4 h.in_ (U6 (Z0 2) (Y6)) (Y1h rfl Fx.g_TAKINGS Fx.v_TAKINGS)))))) (Z5 (W2 (i:=3) Z5f rfl (by first | exact Or.inl rfl | exact Or.inr rfl) (Z2p h.eq (U6 (Z0 2) (Y6)) (Y4))) (Z8 (W2 (i:=2) Z5f rfl (by first | exact Or.inl rfl | exact Or.inr rfl) (Z1g (Z25 (Z16 (Z0 2) (Z3d) (Z3e (Y6))) (Z25 (Z16 (Z0 2) (Z3e (Y6)) (Z3d)) (Z6))))))) (Z8 (V2 (W4 h.eq (U6 (Z0 2) (Y6)) (Y4)) (Z8 (Z2s rfl h X_InvalidText Fx.g_InvalidText rfl (Z1 (Y6) (Z6)))) (X4)))) (Z5 (V2 (Z5m (Z5s (W4 h.ne (U8 Z35 Z36 rfl Fx.f_len (Z1 (Z0 2) (Z6))) (Y6)) (Z38 (W4 h.ne (U6 (Z0 2) (Y6)) (Y4))))) (Z8 (Z2s rfl h X_InvalidText Fx.g_InvalidText rfl (Z1 (Y6) (Z6)))) (X4)) (Z8 (X5g h rfl rfl Z5f rfl rfl ⟨rfl,by decide, .inl Fx.g_InvalidRow⟩ Fx.catch_InvalidRow Fx.rs_InvalidRow.at X25 (fun W pn xe h=>Z8 (X7 (X2v 0 (h.make Y4q (n:=4) Fx.M_Row K_Row_init (by decide)) Fx.M_Row.kp (Z1 (U6 (Z0 2) (Y6)) (Z1 (U6 (Z0 2) (Y6)) (Z1 (U6 (Z0 2) (Y6)) (Z1 (Z0 3) (Z6)))))))) X_InvalidText Fx.g_InvalidText rfl (fun lv=>W2f))))))
def Z7x:List Str:=["value"]
theorem Y5p:Z7x.Nodup:=by decide +kernel
theorem Y6b:FnScope Z7x ["value"] (defScope Z10):=⟨rfl,rfl,rfl,Y5p,rfl,by decide +kernel,by decide +kernel⟩
def Y02:MS:=W3 (Y5m (X6a ["list", "tuple"]) [("Row",false),("Tool",false),("Story",false)] (Z4 0))
def g_is_sequence:List D→PR:=Z53 1 Y02
include Fx in
theorem Y5y  (F:FunD K "is_sequence" "is_sequence" (defArgs Z10) (defBody Z10) (defScope Z10) dl [] f fd):FnG P HasW.w K mg base 1 f fd ["value"] (spP K 1 g_is_sequence):=fnP F Y6b fun cdv A outer s H E gu room=>by
  have h:Here (cxB P HasW.w K mg base Z7x "is_sequence" (defScope Z10) f cdv A outer s H E) (wxE E) 0:=W0 gu room
  unfold Y02
  exact Z8 (X7 (X9l rfl Fx.f_isinstance (Z0 0) (X8f rfl Fx.f_list) (X8f rfl Fx.f_tuple) Fx.iss_list_tuple (.ty _) (.ty _)))
def Z8q:List Str:=["values"]
theorem Y7r:Z8q.Nodup:=by decide +kernel
theorem Y75:FnScope Z8q ["values"] (defScope Z2g):=⟨rfl,rfl,rfl,Y7r,rfl,by decide +kernel,by decide +kernel⟩
def Y2p:MS:=W3 (Y3 eqD (Y7n (Z4 0)) (Z9 Z9j (Z3 (Z4 0) (Z7))))
def g_are_unlike:List D→PR:=Z53 1 Y2p
include Fx in
theorem Y7w  (F:FunD K "are_unlike" "are_unlike" (defArgs Z2g) (defBody Z2g) (defScope Z2g) dl [] f fd):FnG P HasW.w K mg base 1 f fd ["values"] (spP K 1 g_are_unlike):=fnP F Y75 fun cdv A outer s H E gu room=>by
  have h:Here (cxB P HasW.w K mg base Z8q "are_unlike" (defScope Z2g) f cdv A outer s H E) (wxE E) 0:=W0 gu room
  unfold Y2p
  exact Z8 (X7 (Z2p h.eq (Y83 rfl rfl Fx.f_len rfl Fx.f_set (Z0 0)) (U8 Z35 Z36 rfl Fx.f_len (Z1 (Z0 0) (Z6)))))
def Z7v:List Str:=["value", "one"]
theorem Z9a:Z7v.Nodup:=by decide +kernel
theorem Y95:FnScope Z7v ["value"] (defScope Z2f):=⟨rfl,rfl,rfl,Z9a,rfl,by decide +kernel,by decide +kernel⟩
def Y3z:MS:=Y0 (Z02 (Z5c (Z0e (X8 (Z9 (Y7 1 (X5 [] (callP g_is_sequence))) (Z3 (Z4 0) (Z7))))) (Z0e (X8 (Z9 (Y8l fun l=>l.all id) (Z3 (Z8m (.nm 1) (Z05 (Z4 0)) (Z2o) (Z9 (Y7 1 (X5 [] (callP g_is_name))) (Z3 (Z4 1) (Z7))) [1]) (Z7)))))) (W3 (m_c (.bl false))) (V3)) (W3 (Z9 (Y7 1 (X5 [] (callP g_are_unlike))) (Z3 (Z4 0) (Z7))))
def g_are_names:List D→PR:=Z53 2 Y3z
include Fx in
theorem Y9o (K_is_sequence:Kept P HasW.w K mg base 1 (He.ga K "is_sequence") (spP K 1 g_is_sequence)) (K_is_name:Kept P HasW.w K mg base 1 (He.ga K "is_name") (spP K 1 g_is_name)) (K_are_unlike:Kept P HasW.w K mg base 1 (He.ga K "are_unlike") (spP K 1 g_are_unlike)) (F:FunD K "are_names" "are_names" (defArgs Z2f) (defBody Z2f) (defScope Z2f) dl [] f fd):FnG P HasW.w K mg base 2 f fd ["value"] (spP K 1 g_are_names):=fnP F Y95 fun cdv A outer s H E gu room=>by
  have h:Here (cxB P HasW.w K mg base Z7v "are_names" (defScope Z2f) f cdv A outer s H E) (wxE E) 1:=W0 gu room
  unfold Y3z
  exact Z5 (V2 (Z5m (Z5s (Z0o (X0 (Y8 (h.callP K_is_sequence (by decide)) rfl Fx.g_is_sequence K_is_sequence.kp (Z1 (Z0 0) (Z6))))) (Z38 (Z0o (X0 (U8 (cr_all rfl) Y5i rfl Fx.f_all (Z1 (Z5d (own:=[("one",1)]) (t:=(.nm 1)) rfl Z9a (Q1 (Z0 0)) (blkOk_by (N:=Z7v) (sc:=defScope Z2f) (by decide +kernel)) (by decide) (fun _ _ _ _ _=>Y2 (i:=1) Z9a rfl (by first | exact Or.inl rfl | exact Or.inr rfl)) (fun _ _ _ _ _=>Z08) (fun _ _ _ _ _=>Y8 ((h.blk _ _ _ _ _).callP K_is_name (by decide)) rfl Fx.g_is_name K_is_name.kp (Z1 (Z0 1) (Z6)))) (Z6)))))))) (Z8 (X7 (Z2r))) (X4)) (Z8 (X7 (Y8 (h.callP K_are_unlike (by decide)) rfl Fx.g_are_unlike K_are_unlike.kp (Z1 (Z0 0) (Z6)))))
def Z2m:List Str:=["self", "marks", "shown", "asked", "rows", "row", "one"]
theorem Q7:Z2m.Nodup:=by decide +kernel
theorem Y91:FnScope Z2m ["self", "marks", "shown", "asked", "rows"] (defScope Z0a):=⟨rfl,rfl,rfl,Q7,rfl,by decide +kernel,by decide +kernel⟩
def Y3v:MS:=Y0 (Z02 (Z5c (Z0e (X8 (Z9 (Y7 1 (X5 [] (callP g_are_names))) (Z3 (Z4 1) (Z7))))) (Q0 (Y3 eqD (Z9 Z9j (Z3 (Z4 1) (Z7))) (m_c (.int 0))))) (Z3q "InvalidTool" "word" (Z3 (m_c (.str "marks")) (Z7))) (V3)) (Y0 (Z02 (Z5c (Z0e (X8 (Z9 (Y7 1 (X5 [] (callP g_are_names))) (Z3 (Z4 2) (Z7))))) (Z0e (X8 (Z9 (Y8l fun l=>l.all id) (Z3 (Z8m (.nm 6) (Z05 (Z4 2)) (Z2o) (Y3 inD (Z4 6) (Z17 (Z4 1) (Z34 (m_c (.int 1))) (Y5n))) [6]) (Z7)))))) (Z3q "InvalidTool" "word" (Z3 (m_c (.str "shown")) (Z7))) (V3)) (Y0 (Z02 (Z5c (Z0e (X8 (Z9 (Y7 1 (X5 [] (callP g_are_names))) (Z3 (Z4 3) (Z7))))) (Z0e (X8 (Z9 (Y8l fun l=>l.all id) (Z3 (Z8m (.nm 6) (Z05 (Z4 3)) (Z2o) (Y3 inD (Z4 6) (Z4 1)) [6]) (Z7)))))) (Z3q "InvalidTool" "word" (Z3 (m_c (.str "asked")) (Z7))) (V3)) (Y0 (Z02 (Z5c (Z0e (X8 (Z9 (Y7 1 (X5 [] (callP g_is_sequence))) (Z3 (Z4 4) (Z7))))) (Z0e (X8 (Z9 (Y8l fun l=>l.all id) (Z3 (Z8m (.nm 5) (Z05 (Z4 4)) (Z2o) (Y5m X10 [("Row",true),("Tool",false),("Story",false)] (Z4 5)) [5]) (Z7)))))) (Z3q "InvalidTool" "word" (Z3 (m_c (.str "rows")) (Z7))) (V3)) (Y0 (Z02 (Z0e (X8 (Z9 (Y8l fun l=>l.all id) (Z3 (Z8m (.nm 5) (Z05 (Z4 4)) (Z2o) (Z85 (Y3 inD (X6 ["Row"] "old" (Z4 5)) (Z1n (Z3 (m_c (.str "any")) (Z4k (Z4 1) (Z7))))) (Y3 inD (X6 ["Row"] "then" (Z4 5)) (Z1n (Z3 (m_c (.str "same")) (Z4k (Z4 1) (Z7)))))) [5]) (Z7))))) (Z3q "InvalidTool" "word" (Z3 (m_c (.str "mark")) (Z7))) (V3)) (Y0 (Z02 (X8 (Z9 (Y8l fun l=>l.any id) (Z3 (Z8m (.nm 5) (Z05 (Z4 4)) (Z2o) (Z85 (Y3 neD (X6 ["Row"] "word" (Z4 5)) (m_c (.str "give"))) (Y3 eqD (X6 ["Row"] "old" (Z4 5)) (Z18 (Z4 1) (m_c (.int 0))))) [5]) (Z7)))) (Z3q "InvalidTool" "word" (Z3 (m_c (.str "blank")) (Z7))) (V3)) (Y0 (Z3p ["Tool"] "marks" (Z4 0) (Z9 X0n (Z3 (Z4 1) (Z7)))) (Y0 (Z3p ["Tool"] "shown" (Z4 0) (Z9 X0n (Z3 (Z8m (.nm 6) (Z05 (Z4 1)) (Q0 (Y3 inD (Z4 6) (Z4 2))) (Z4 6) [6]) (Z7)))) (Y0 (Z3p ["Tool"] "asked" (Z4 0) (Z9 X0n (Z3 (Z8m (.nm 6) (Z05 (Z4 1)) (Q0 (Y3 inD (Z4 6) (Z4 3))) (Z4 6) [6]) (Z7)))) (Y0 (Z3p ["Tool"] "rows" (Z4 0) (Z9 X0n (Z3 (Z4 4) (Z7)))) (Z3p ["Tool"] "blank" (Z4 0) (Z18 (Z4 1) (m_c (.int 0)))))))))))))
def Y0f:List X→Sto→R X:=Y0p 7 Y3v
include Fx in
theorem Y9k (X_InvalidTool:Xe.ErrOk P K (He.ga K "InvalidTool") (X03 "InvalidTool" K) "word") (K_are_names:Kept P HasW.w K mg base 2 (He.ga K "are_names") (spP K 1 g_are_names)) (K_is_sequence:Kept P HasW.w K mg base 1 (He.ga K "is_sequence") (spP K 1 g_is_sequence)) (F:FunD K "__init__" "Tool.__init__" (defArgs Z0a) (defBody Z0a) (defScope Z0a) dl [] f fd):FnG P HasW.w K mg base 3 f fd ["self", "marks", "shown", "asked", "rows"] (spE K 5 Y0f):=fnE F Y91 fun cdv A outer s H E gu room=>by
  have h:Here (cxB P HasW.w K mg base Z2m "Tool.__init__" (defScope Z0a) f cdv A outer s H E) (wxE E) 2:=W0 gu room
  unfold Y3v
  exact Z5 (V2 (Z5m (Z5s (Z0o (X0 (Y8 (h.callP K_are_names (by decide)) rfl Fx.g_are_names K_are_names.kp (Z1 (Z0 1) (Z6))))) (Z38 (W4 h.eq (U8 Z35 Z36 rfl Fx.f_len (Z1 (Z0 1) (Z6))) (Y6))))) (Z8 (Z2s rfl h X_InvalidTool Fx.g_InvalidTool rfl (Z1 (Y4) (Z6)))) (X4)) (Z5 (V2 (Z5m (Z5s (Z0o (X0 (Y8 (h.callP K_are_names (by decide)) rfl Fx.g_are_names K_are_names.kp (Z1 (Z0 2) (Z6))))) (Z38 (Z0o (X0 (U8 (cr_all rfl) Y5i rfl Fx.f_all (Z1 (Z5d (own:=[("one",6)]) (t:=(.nm 6)) rfl Q7 (Q1 (Z0 2)) (blkOk_by (N:=Z2m) (sc:=defScope Z0a) (by decide +kernel)) (by decide) (fun _ _ _ _ _=>Y2 (i:=6) Q7 rfl (by first | exact Or.inl rfl | exact Or.inr rfl)) (fun _ _ _ _ _=>Z08) (fun _ _ _ _ _=>Z2p (h.blk _ _ _ _ _).in_ (Z0 6) (Z16 (Z0 1) (Z3e (Y6)) (Z3d)))) (Z6)))))))) (Z8 (Z2s rfl h X_InvalidTool Fx.g_InvalidTool rfl (Z1 (Y4) (Z6)))) (X4)) (Z5 (V2 (Z5m (Z5s (Z0o (X0 (Y8 (h.callP K_are_names (by decide)) rfl Fx.g_are_names K_are_names.kp (Z1 (Z0 3) (Z6))))) (Z38 (Z0o (X0 (U8 (cr_all rfl) Y5i rfl Fx.f_all (Z1 (Z5d (own:=[("one",6)]) (t:=(.nm 6)) rfl Q7 (Q1 (Z0 3)) (blkOk_by (N:=Z2m) (sc:=defScope Z0a) (by decide +kernel)) (by decide) (fun _ _ _ _ _=>Y2 (i:=6) Q7 rfl (by first | exact Or.inl rfl | exact Or.inr rfl)) (fun _ _ _ _ _=>Z08) (fun _ _ _ _ _=>Z2p (h.blk _ _ _ _ _).in_ (Z0 6) (Z0 1))) (Z6)))))))) (Z8 (Z2s rfl h X_InvalidTool Fx.g_InvalidTool rfl (Z1 (Y4) (Z6)))) (X4)) (Z5 (V2 (Z5m (Z5s (Z0o (X0 (Y8 (h.callP K_is_sequence (by decide)) rfl Fx.g_is_sequence K_is_sequence.kp (Z1 (Z0 4) (Z6))))) (Z38 (Z0o (X0 (U8 (cr_all rfl) Y5i rfl Fx.f_all (Z1 (Z5d (own:=[("row",5)]) (t:=(.nm 5)) rfl Q7 (Q1 (Z0 4)) (blkOk_by (N:=Z2m) (sc:=defScope Z0a) (by decide +kernel)) (by decide) (fun _ _ _ _ _=>Y2 (i:=5) Q7 rfl (by first | exact Or.inl rfl | exact Or.inr rfl)) (fun _ _ _ _ _=>Z08) (fun _ _ _ _ _=>Y4p rfl Fx.f_isinstance (Z0 5) (W3j rfl Fx.g_Row) Fx.is_Row (.own _))) (Z6)))))))) (Z8 (Z2s rfl h X_InvalidTool Fx.g_InvalidTool rfl (Z1 (Y4) (Z6)))) (X4)) (Z5 (V2 (Z0o (X0 (U8 (cr_all rfl) Y5i rfl Fx.f_all (Z1 (Z5d (own:=[("row",5)]) (t:=(.nm 5)) rfl Q7 (Q1 (Z0 4)) (blkOk_by (N:=Z2m) (sc:=defScope Z0a) (by decide +kernel)) (by decide) (fun _ _ _ _ _=>Y2 (i:=5) Q7 rfl (by first | exact Or.inl rfl | exact Or.inr rfl)) (fun _ _ _ _ _=>Z08) (fun _ _ _ _ _=>Z6g (Z2p (h.blk _ _ _ _ _).in_ (Y5 ["Row"] Fx.at_Row_old (Z0 5)) (Z0k (Z1 (Y4) (Z25 (Z0 1) (Z6))))) (Z3g (Z2p (h.blk _ _ _ _ _).in_ (Y5 ["Row"] Fx.at_Row_then (Z0 5)) (Z0k (Z1 (Y4) (Z25 (Z0 1) (Z6)))))))) (Z6))))) (Z8 (Z2s rfl h X_InvalidTool Fx.g_InvalidTool rfl (Z1 (Y4) (Z6)))) (X4)) (Z5 (V2 (X0 (U8 (cr_any rfl) X8w rfl Fx.f_any (Z1 (Z5d (own:=[("row",5)]) (t:=(.nm 5)) rfl Q7 (Q1 (Z0 4)) (blkOk_by (N:=Z2m) (sc:=defScope Z0a) (by decide +kernel)) (by decide) (fun _ _ _ _ _=>Y2 (i:=5) Q7 rfl (by first | exact Or.inl rfl | exact Or.inr rfl)) (fun _ _ _ _ _=>Z08) (fun _ _ _ _ _=>Z6g (Z2p (h.blk _ _ _ _ _).ne (Y5 ["Row"] Fx.at_Row_word (Z0 5)) (Y4)) (Z3g (Z2p (h.blk _ _ _ _ _).eq (Y5 ["Row"] Fx.at_Row_old (Z0 5)) (U6 (Z0 1) (Y6)))))) (Z6)))) (Z8 (Z2s rfl h X_InvalidTool Fx.g_InvalidTool rfl (Z1 (Y4) (Z6)))) (X4)) (Z5 (Z1o ["Tool"] Fx.at_Tool_marks (Z0 0) (Z2v call_tuple_of Y1z rfl Fx.f_tuple (Z1 (Z0 1) (Z6)))) (Z5 (Z1o ["Tool"] Fx.at_Tool_shown (Z0 0) (Z2v call_tuple_of Y1z rfl Fx.f_tuple (Z1 (Z5d (own:=[("one",6)]) (t:=(.nm 6)) rfl Q7 (Q1 (Z0 1)) (blkOk_by (N:=Z2m) (sc:=defScope Z0a) (by decide +kernel)) (by decide) (fun _ _ _ _ _=>Y2 (i:=6) Q7 rfl (by first | exact Or.inl rfl | exact Or.inr rfl)) (fun _ _ _ _ _=>Z4g (W4 (h.blk _ _ _ _ _).in_ (Z0 6) (Z0 2))) (fun _ _ _ _ _=>Z0 6)) (Z6)))) (Z5 (Z1o ["Tool"] Fx.at_Tool_asked (Z0 0) (Z2v call_tuple_of Y1z rfl Fx.f_tuple (Z1 (Z5d (own:=[("one",6)]) (t:=(.nm 6)) rfl Q7 (Q1 (Z0 1)) (blkOk_by (N:=Z2m) (sc:=defScope Z0a) (by decide +kernel)) (by decide) (fun _ _ _ _ _=>Y2 (i:=6) Q7 rfl (by first | exact Or.inl rfl | exact Or.inr rfl)) (fun _ _ _ _ _=>Z4g (W4 (h.blk _ _ _ _ _).in_ (Z0 6) (Z0 3))) (fun _ _ _ _ _=>Z0 6)) (Z6)))) (Z5 (Z1o ["Tool"] Fx.at_Tool_rows (Z0 0) (Z2v call_tuple_of Y1z rfl Fx.f_tuple (Z1 (Z0 4) (Z6)))) (Z8 (Z1o ["Tool"] Fx.at_Tool_blank (Z0 0) (U6 (Z0 1) (Y6)))))))))))))
def Z98:List Str:=["cls", "text", "lines", "told", "at", "head", "rows", "line", "names", "error"]
theorem Z2c:Z98.Nodup:=by decide +kernel
theorem Y92:FnScope Z98 ["cls", "text"] (defScope Z2y):=⟨rfl,rfl,rfl,Z2c,rfl,by decide +kernel,by decide +kernel⟩
def Y3w:MS:=Y0 (Y1p 2 3 (Z3 (Y4o Z84 (Z4 1) (m_c (.str "\n"))) (Z3 (Z4j (Z7)) (Z7)))) (Y0 (Z40 (.tp [(.nm 4),(.nm 5)]) (Y8x (Z3 (m_c (.tup ((["marks", "shown", "asked"]:List Str).map D.str))) (Z7))) (Y0 (Z02 (Q0 (Y3 geD (Z4 4) (Z9 Z9j (Z3 (Z4 2) (Z7))))) (Z3q "InvalidText" "at" (Z3 (Z4 4) (Z7))) (V3)) (Y0 (V0 8 (Z9 (Y7 2 (X5 [] (callP g_names_in))) (Z3 (Z18 (Z4 2) (Z4 4)) (Z3 (Z4 5) (Z7))))) (Y0 (Z02 (Q0 (Y3 isD (Z4 8) (m_c .non))) (Z3q "InvalidText" "at" (Z3 (Z4 4) (Z7))) (V3)) (V9 (Z9l Z2q Z0f (Z4 3) (Z3 (Z4 8) (Z7)))))))) (Y0 (V0 6 (Z4j (Z7))) (Y0 (Z40 (.tp [(.nm 4),(.nm 7)]) (Y8x (Z3 (Z17 (Z4 2) (Z34 (Z9 Z9j (Z3 (m_c (.tup ((["marks", "shown", "asked"]:List Str).map D.str))) (Z7)))) (Y5n)) (Z7))) (X29 [("InvalidRow",false),("InvalidTool",false),("InvalidText",true),("InvalidEvent",false),("InvalidLets",false),("InvalidFault",false)] (V9 (Z9l Z2q Z0f (Z4 6) (Z3 (Y7m "Row" (Y7 2 (X5 [] (callP Y15))) (m_c (.gl "Row")) (Z3 (Z4 7) (Z7))) (Z7)))) 9 "InvalidText" "at" (fun lv=>W3z Z7o (W0l lv 4) (W0k (x_c (.tup ((["marks", "shown", "asked"]:List Str).map D.str))))))) (W3 (X06 0 "Tool" (Y7 4 (X5 [] (made "Tool" mkF Y0f))) (Z3 (Z18 (Z4 3) (m_c (.int 0))) (Z3 (Z18 (Z4 3) (m_c (.int 1))) (Z3 (Z18 (Z4 3) (m_c (.int 2))) (Z3 (Z4 6) (Z7))))))))))
def Z75:List D→PR:=Z53 10 Y3w
include Fx in
theorem Y9l (X_InvalidText:Xe.ErrOk P K (He.ga K "InvalidText") (X03 "InvalidText" K) "at") (K_names_in:Kept P HasW.w K mg base 2 (He.ga K "names_in") (spP K 2 g_names_in)) (K_Row_read:Kept P HasW.w K mg base 4 (X6h "Row" "read" K) (spP K 2 Y15)) (K_Tool_init:Kept P HasW.w K mg base 3 (He.ma K (He.ga K "Tool") "__init__") (spE K 5 Y0f)) (F:FunD K "read" "Tool.read" (defArgs Z2y) (defBody Z2y) (defScope Z2y) dl [] f fd):FnG P HasW.w K mg base 5 f fd ["cls", "text"] (spP K 2 Z75):=fnP F Y92 fun cdv A outer s H E gu room=>by
  have h:Here (cxB P HasW.w K mg base Z98 "Tool.read" (defScope Z2y) f cdv A outer s H E) (wxE E) 4:=W0 gu room
  unfold Y3w
  exact Z5 (Z7f rfl Z2c (i:=2) (j:=3) rfl rfl (by decide) rfl rfl (Z1 (Y1l (Z0 1) (Y4)) (Z1 (Z26 (Z6)) (Z6)))) (Z5 (Z37 Z3h rfl (Y7p rfl Fx.f_enumerate (Z1 (Y1h rfl Fx.g_HEADS Fx.v_HEADS) (Z6))) (Z2t rfl (Y9 (Y2 (i:=4) Z2c rfl (by first | exact Or.inl rfl | exact Or.inr rfl)) (Y9 (Y2 (i:=5) Z2c rfl (by first | exact Or.inl rfl | exact Or.inr rfl)) (Z07)))) (Z5 (V2 (W4 h.ge (Z0 4) (U8 Z35 Z36 rfl Fx.f_len (Z1 (Z0 2) (Z6)))) (Z8 (Z2s rfl h X_InvalidText Fx.g_InvalidText rfl (Z1 (Z0 4) (Z6)))) (X4)) (Z5 (W2 (i:=8) Z2c rfl (by first | exact Or.inl rfl | exact Or.inr rfl) (Y8 (h.callP K_names_in (by decide)) rfl Fx.g_names_in K_names_in.kp (Z1 (U6 (Z0 2) (Z0 4)) (Z1 (Z0 5) (Z6))))) (Z5 (V2 (W4 h.is_ (Z0 8) (Z0j)) (Z8 (Z2s rfl h X_InvalidText Fx.g_InvalidText rfl (Z1 (Z0 4) (Z6)))) (X4)) (Z8 (W8 (Z45 PySem.F.slot_list_append PySem.F.type_list_append mt_append Z0p (Z0 3) (Z1 (Z0 8) (Z6))))))))) (Z5 (W2 (i:=6) Z2c rfl (by first | exact Or.inl rfl | exact Or.inr rfl) (Z26 (Z6))) (Z5 (Z37 Z3h rfl (Y7p rfl Fx.f_enumerate (Z1 (Z16 (Z0 2) (Z3e (U8 Z35 Z36 rfl Fx.f_len (Z1 (Y1h rfl Fx.g_HEADS Fx.v_HEADS) (Z6)))) (Z3d)) (Z6))) (Z2t rfl (Y9 (Y2 (i:=4) Z2c rfl (by first | exact Or.inl rfl | exact Or.inr rfl)) (Y9 (Y2 (i:=7) Z2c rfl (by first | exact Or.inl rfl | exact Or.inr rfl)) (Z07)))) (Z8 (X5g h rfl rfl Z2c rfl rfl ⟨rfl,by decide, .inl Fx.g_InvalidText⟩ Fx.catch_InvalidText Fx.rs_InvalidText.at X25 (fun W pn xe h=>Z8 (W8 (Z45 PySem.F.slot_list_append PySem.F.type_list_append mt_append Z0p (Z0 6) (Z1 (W1r (h.callP K_Row_read (by decide)) Fx.cm_Row_read (X7z rfl Fx.g_Row) (Z1 (Z0 7) (Z6))) (Z6))))) X_InvalidText Fx.g_InvalidText rfl (fun lv=>W3r (fun _ _ _=>X5p) W10 (W2h (j:=4)) (W2g rfl Fx.f_len (X94 rfl Fx.g_HEADS Fx.v_HEADS)))))) (Z8 (X7 (X2v 0 (h.make Y4q (n:=4) Fx.M_Tool K_Tool_init (by decide)) Fx.M_Tool.kp (Z1 (U6 (Z0 3) (Y6)) (Z1 (U6 (Z0 3) (Y6)) (Z1 (U6 (Z0 3) (Y6)) (Z1 (Z0 6) (Z6)))))))))))
def Z6d:List Str:=["lets", "one"]
theorem Z5t:Z6d.Nodup:=by decide +kernel
theorem Y96:FnScope Z6d ["lets"] (defScope Z12):=⟨rfl,rfl,rfl,Z5t,rfl,by decide +kernel,by decide +kernel⟩
def Y30:MS:=Y0 (Z02 (Z5c (Z0e (X8 (Z9 (Y7 1 (X5 [] (callP g_is_sequence))) (Z3 (Z4 0) (Z7))))) (Z5c (Z0e (X8 (Z9 (Y8l fun l=>l.all id) (Z3 (Z8m (.nm 1) (Z05 (Z4 0)) (Z2o) (Z9 (Y7 2 (X5 [] (callP g_is_word))) (Z3 (Z4 1) (Z3 (m_c (.tup ((["alike", "back", "late", "near"]:List Str).map D.str))) (Z7)))) [1]) (Z7))))) (Z0e (X8 (Z9 (Y7 1 (X5 [] (callP g_are_unlike))) (Z3 (Z4 0) (Z7))))))) (Y72 "InvalidLets") (V3)) (W3 (Z9 X0n (Z3 (Z8m (.nm 1) (Z05 (m_c (.tup ((["alike", "back", "late", "near"]:List Str).map D.str)))) (Q0 (Y3 inD (Z4 1) (Z4 0))) (Z4 1) [1]) (Z7))))
def g_need_lets:List D→PR:=Z53 2 Y30
include Fx in
theorem Y9q (K_is_sequence:Kept P HasW.w K mg base 1 (He.ga K "is_sequence") (spP K 1 g_is_sequence)) (K_is_word:Kept P HasW.w K mg base 1 (He.ga K "is_word") (spP K 2 g_is_word)) (K_are_unlike:Kept P HasW.w K mg base 1 (He.ga K "are_unlike") (spP K 1 g_are_unlike)) (F:FunD K "need_lets" "need_lets" (defArgs Z12) (defBody Z12) (defScope Z12) dl [] f fd):FnG P HasW.w K mg base 2 f fd ["lets"] (spP K 1 g_need_lets):=fnP F Y96 fun cdv A outer s H E gu room=>by
  have h:Here (cxB P HasW.w K mg base Z6d "need_lets" (defScope Z12) f cdv A outer s H E) (wxE E) 1:=W0 gu room
  unfold Y30
  exact Z5 (V2 (Z5m (Z5s (Z0o (X0 (Y8 (h.callP K_is_sequence (by decide)) rfl Fx.g_is_sequence K_is_sequence.kp (Z1 (Z0 0) (Z6))))) (Z5s (Z0o (X0 (U8 (cr_all rfl) Y5i rfl Fx.f_all (Z1 (Z5d (own:=[("one",1)]) (t:=(.nm 1)) rfl Z5t (Q1 (Z0 0)) (blkOk_by (N:=Z6d) (sc:=defScope Z12) (by decide +kernel)) (by decide) (fun _ _ _ _ _=>Y2 (i:=1) Z5t rfl (by first | exact Or.inl rfl | exact Or.inr rfl)) (fun _ _ _ _ _=>Z08) (fun _ _ _ _ _=>Y8 ((h.blk _ _ _ _ _).callP K_is_word (by decide)) rfl Fx.g_is_word K_is_word.kp (Z1 (Z0 1) (Z1 (Y1h rfl Fx.g_LETS Fx.v_LETS) (Z6))))) (Z6))))) (Z38 (Z0o (X0 (Y8 (h.callP K_are_unlike (by decide)) rfl Fx.g_are_unlike K_are_unlike.kp (Z1 (Z0 0) (Z6))))))))) (Z8 (Y85 rfl h Fx.e0_InvalidLets Fx.g_InvalidLets rfl)) (X4)) (Z8 (X7 (Z2v call_tuple_of Y1z rfl Fx.f_tuple (Z1 (Z5d (own:=[("one",1)]) (t:=(.nm 1)) rfl Z5t (Q1 (Y1h rfl Fx.g_LETS Fx.v_LETS)) (blkOk_by (N:=Z6d) (sc:=defScope Z12) (by decide +kernel)) (by decide) (fun _ _ _ _ _=>Y2 (i:=1) Z5t rfl (by first | exact Or.inl rfl | exact Or.inr rfl)) (fun _ _ _ _ _=>Z4g (W4 (h.blk _ _ _ _ _).in_ (Z0 1) (Z0 0))) (fun _ _ _ _ _=>Z0 1)) (Z6)))))
def X0u:List Str:=["tool"]
theorem X66:X0u.Nodup:=by decide +kernel
theorem X7n:FnScope X0u ["tool"] (defScope Z6v):=⟨rfl,rfl,rfl,X66,rfl,by decide +kernel,by decide +kernel⟩
def X4b:MS:=Y25 (Z3 (X6 ["Tool"] "blank" (Z4 0)) (Z3 (m_c (.str "none")) (Z3 (m_c (.bl false)) (Z3 (m_c (.bl false)) (Z3 (m_c (.bl false)) (Z3 (m_c (.bl false)) (Z7)))))))
def g_begun:List D→PR:=Z53 1 X4b
include Fx in
theorem X7a  (F:FunD K "begun" "begun" (defArgs Z6v) (defBody Z6v) (defScope Z6v) dl [] f fd):FnG P HasW.w K mg base 1 f fd ["tool"] (spP K 1 g_begun):=fnP F X7n fun cdv A outer s H E gu room=>by
  have h:Here (cxB P HasW.w K mg base X0u "begun" (defScope Z6v) f cdv A outer s H E) (wxE E) 0:=W0 gu room
  unfold X4b
  exact Z8 (Y0h (Z1 (Y5 ["Tool"] Fx.at_Tool_blank (Z0 0)) (Z1 (Z1f rfl Fx.s_NOBODY) (Z1 (Z2r) (Z1 (Z2r) (Z1 (Z2r) (Z1 (Z2r) (Z6))))))))
def Z60:List Str:=["self", "standing", "steps", "step"]
theorem Z88:Z60.Nodup:=by decide +kernel
theorem Y45:FnScope Z60 ["self", "standing", "steps"] (defScope Z1i):=⟨rfl,rfl,rfl,Z88,rfl,by decide +kernel,by decide +kernel⟩
def Z9p:MS:=Z40 (.nm 3) (Z05 (Z4 2)) (Y0 (Z02 (Q0 (Y3 X9e (X6 ["Step"] "row" (Z4 3)) (m_c .non))) (Y24 (X6 ["Closure"] "rows_done" (Z4 0)) (X6 ["Step"] "row" (Z4 3)) (m_c (.bl true))) (V3)) (Z02 (Q0 (X48 true (X6 ["Step"] "later" (Z4 3)) (X6 ["Closure"] "ahead" (Z4 0)))) (Y0 (X28 (X6 ["Closure"] "ahead" (Z4 0)) (X6 ["Step"] "later" (Z4 3)) (Z1n (Z3 (Z4 1) (Z3 (Z4 3) (Z7))))) (V9 (Z9l Z2q Z0f (X6 ["Closure"] "order" (Z4 0)) (Z3 (X6 ["Step"] "later" (Z4 3)) (Z7))))) (V3)))
def Z5j:List X→Sto→R X:=Y0p 4 Z9p
include Fx in
theorem Y4w  (F:FunD K "note" "Closure.note" (defArgs Z1i) (defBody Z1i) (defScope Z1i) dl [] f fd):FnG P HasW.w K mg base 1 f fd ["self", "standing", "steps"] (spE K 3 Z5j):=fnE F Y45 fun cdv A outer s H E gu room=>by
  have h:Here (cxB P HasW.w K mg base Z60 "Closure.note" (defScope Z1i) f cdv A outer s H E) (wxE E) 0:=W0 gu room
  unfold Z9p
  exact Z8 (Z37 Z3h rfl (Q1 (Z0 2)) (Y2 (i:=3) Z88 rfl (by first | exact Or.inl rfl | exact Or.inr rfl)) (Z5 (V2 (W4 h.isn (Y5 ["Step"] Fx.at_Step_row (Z0 3)) (Z0j)) (Z8 (Y0g h.u1 (Y5 ["Closure"] Fx.at_Closure_rows_done (Z0 0)) (Y5 ["Step"] Fx.at_Step_row (Z0 3)) (Z2r))) (X4)) (Z8 (V2 (X5h rfl h.u1 (Y5 ["Step"] Fx.at_Step_later (Z0 3)) (Y5 ["Closure"] Fx.at_Closure_ahead (Z0 0))) (Z5 (X1c rfl h.u1 (Y5 ["Closure"] Fx.at_Closure_ahead (Z0 0)) (Y5 ["Step"] Fx.at_Step_later (Z0 3)) (Z0k (Z1 (Z0 1) (Z1 (Z0 3) (Z6))))) (Z8 (W8 (Z45 PySem.F.slot_list_append PySem.F.type_list_append mt_append Z0p (Y5 ["Closure"] Fx.at_Closure_order (Z0 0)) (Z1 (Y5 ["Step"] Fx.at_Step_later (Z0 3)) (Z6)))))) (X4)))))
def Y1t:List Str:=["self", "word", "mark"]
theorem X1d:Y1t.Nodup:=by decide +kernel
theorem X1p:FnScope Y1t ["self", "word", "mark"] (defScope Z3r):=⟨rfl,rfl,rfl,X1d,rfl,by decide +kernel,by decide +kernel⟩
def Y6f:MS:=W3 (Z85 (Y3 eqD (X6 ["Row"] "word" (Z4 0)) (Z4 1)) (Y3 inD (X6 ["Row"] "old" (Z4 0)) (Z1n (Z3 (m_c (.str "any")) (Z3 (Z4 2) (Z7))))))
def Y13:List D→PR:=Z53 3 Y6f
include Fx in
theorem X1g  (F:FunD K "fits" "Row.fits" (defArgs Z3r) (defBody Z3r) (defScope Z3r) dl [] f fd):FnG P HasW.w K mg base 1 f fd ["self", "word", "mark"] (spP K 3 Y13):=fnP F X1p fun cdv A outer s H E gu room=>by
  have h:Here (cxB P HasW.w K mg base Y1t "Row.fits" (defScope Z3r) f cdv A outer s H E) (wxE E) 0:=W0 gu room
  unfold Y6f
  exact Z8 (X7 (Z6g (Z2p h.eq (Y5 ["Row"] Fx.at_Row_word (Z0 0)) (Z0 1)) (Z3g (Z2p h.in_ (Y5 ["Row"] Fx.at_Row_old (Z0 0)) (Z0k (Z1 (Y4) (Z1 (Z0 2) (Z6))))))))
def Z63:List Str:=["self", "word", "mark", "at", "row"]
theorem Z6j:Z63.Nodup:=by decide +kernel
theorem Y48:FnScope Z63 ["self", "word", "mark"] (defScope Z1k):=⟨rfl,rfl,rfl,Z6j,rfl,by decide +kernel,by decide +kernel⟩
def Z9s:MS:=Y0 (Z02 (Z0z (Q0 (Y3 eqD (Z4 2) (X6 ["Tool"] "blank" (Z4 0)))) (Q0 (Y3 neD (Z4 1) (m_c (.str "give"))))) (W3 (m_c .non)) (V3)) (Y0 (Z40 (.tp [(.nm 3),(.nm 4)]) (Y8x (Z3 (X6 ["Tool"] "rows" (Z4 0)) (Z7))) (Z02 (X8 (V5 "Row" "fits" (Y7 3 (X5 [] (callP Y13))) (Z4 4) (Z3 (Z4 1) (Z3 (Z4 2) (Z7))))) (W3 (Z4 3)) (V3))) (W3 (m_c .non)))
def Z0n:List D→PR:=Z53 5 Z9s
include Fx in
theorem Y40 (K_Row_fits:Kept P HasW.w K mg base 1 (He.ma K (He.ga K "Row") "fits") (spP K 3 Y13)) (F:FunD K "row_for" "Tool.row_for" (defArgs Z1k) (defBody Z1k) (defScope Z1k) dl [] f fd):FnG P HasW.w K mg base 2 f fd ["self", "word", "mark"] (spP K 3 Z0n):=fnP F Y48 fun cdv A outer s H E gu room=>by
  have h:Here (cxB P HasW.w K mg base Z63 "Tool.row_for" (defScope Z1k) f cdv A outer s H E) (wxE E) 1:=W0 gu room
  unfold Z9s
  exact Z5 (V2 (Z5m (Z03 (W4 h.eq (Z0 2) (Y5 ["Tool"] Fx.at_Tool_blank (Z0 0))) (Z0l (W4 h.ne (Z0 1) (Y4))))) (Z8 (X7 (Z0j))) (X4)) (Z5 (Z37 Z3h rfl (Y7p rfl Fx.f_enumerate (Z1 (Y5 ["Tool"] Fx.at_Tool_rows (Z0 0)) (Z6))) (Z2t rfl (Y9 (Y2 (i:=3) Z6j rfl (by first | exact Or.inl rfl | exact Or.inr rfl)) (Y9 (Y2 (i:=4) Z6j rfl (by first | exact Or.inl rfl | exact Or.inr rfl)) (Z07)))) (Z8 (V2 (X0 (W9 (h.callP K_Row_fits (by decide)) Fx.c_Row Fx.m_Row_fits (Z0 4) (Z1 (Z0 1) (Z1 (Z0 2) (Z6))))) (Z8 (X7 (Z0 3))) (X4)))) (Z8 (X7 (Z0j))))
def Z62:List Str:=["self", "word", "mark", "at", "row", "then"]
theorem Z4y:Z62.Nodup:=by decide +kernel
theorem Y47:FnScope Z62 ["self", "word", "mark"] (defScope Z1j):=⟨rfl,rfl,rfl,Z4y,rfl,by decide +kernel,by decide +kernel⟩
def Z9r:MS:=Y0 (Z02 (Z5c (Z0e (X8 (Y5m (Y6e "str") [("Row",false),("Tool",false),("Story",false)] (Z4 2)))) (Q0 (Y3 X8d (Z4 2) (X6 ["Tool"] "marks" (Z4 0))))) (X3t) (V3)) (Y0 (V0 3 (V5 "Tool" "row_for" (Y7 3 (X5 [] (callP Z0n))) (Z4 0) (Z3 (Z4 1) (Z3 (Z4 2) (Z7))))) (Y0 (Z02 (Q0 (Y3 isD (Z4 3) (m_c .non))) (Y25 (Z3 (Y1k (Q0 (Y3 eqD (Z4 1) (m_c (.str "carry")))) (X6 ["Tool"] "blank" (Z4 0)) (Z4 2)) (Z3 (m_c (.bl false)) (Z7)))) (V3)) (Y0 (V0 4 (Z18 (X6 ["Tool"] "rows" (Z4 0)) (Z4 3))) (Y0 (Z02 (Z0z (Q0 (Y3 eqD (Z4 2) (X6 ["Tool"] "blank" (Z4 0)))) (Z0e (X8 (X6 ["Row"] "take" (Z4 4))))) (Y25 (Z3 (Z4 2) (Z3 (m_c (.bl false)) (Z7)))) (V3)) (Y0 (V0 5 (Y1k (Q0 (Y3 eqD (X6 ["Row"] "then" (Z4 4)) (m_c (.str "same")))) (Z4 2) (X6 ["Row"] "then" (Z4 4)))) (Y25 (Z3 (Z4 5) (Z3 (Z85 (Y3 eqD (Z4 1) (m_c (.str "give"))) (Z85 (X6 ["Row"] "take" (Z4 4)) (Y3 neD (Z4 5) (X6 ["Tool"] "blank" (Z4 0))))) (Z7)))))))))
def U4:List D→PR:=Z53 6 Z9r
include Fx in
theorem Y4z (K_Tool_row_for:Kept P HasW.w K mg base 2 (He.ma K (He.ga K "Tool") "row_for") (spP K 3 Z0n)) (F:FunD K "becomes" "Tool.becomes" (defArgs Z1j) (defBody Z1j) (defScope Z1j) dl [] f fd):FnG P HasW.w K mg base 3 f fd ["self", "word", "mark"] (spP K 3 U4):=fnP F Y47 fun cdv A outer s H E gu room=>by
  have h:Here (cxB P HasW.w K mg base Z62 "Tool.becomes" (defScope Z1j) f cdv A outer s H E) (wxE E) 2:=W0 gu room
  unfold Z9r
  exact Z5 (V2 (Z5m (Z5s (Z0o (X0 (Y4p rfl Fx.f_isinstance (Z0 2) (X8f rfl Fx.f_str) Fx.is_str (.ty _)))) (Z38 (W4 h.nin (Z0 2) (Y5 ["Tool"] Fx.at_Tool_marks (Z0 0)))))) (Z8 (X8b)) (X4)) (Z5 (W2 (i:=3) Z4y rfl (by first | exact Or.inl rfl | exact Or.inr rfl) (W9 (h.callP K_Tool_row_for (by decide)) Fx.c_Tool Fx.m_Tool_row_for (Z0 0) (Z1 (Z0 1) (Z1 (Z0 2) (Z6))))) (Z5 (V2 (W4 h.is_ (Z0 3) (Z0j)) (Z8 (Y0h (Z1 (Z44 (W4 h.eq (Z0 1) (Y4)) (Y5 ["Tool"] Fx.at_Tool_blank (Z0 0)) (Z0 2)) (Z1 (Z2r) (Z6))))) (X4)) (Z5 (W2 (i:=4) Z4y rfl (by first | exact Or.inl rfl | exact Or.inr rfl) (U6 (Y5 ["Tool"] Fx.at_Tool_rows (Z0 0)) (Z0 3))) (Z5 (V2 (Z5m (Z03 (W4 h.eq (Z0 2) (Y5 ["Tool"] Fx.at_Tool_blank (Z0 0))) (Z0l (Z0o (X0 (Y5 ["Row"] Fx.at_Row_take (Z0 4))))))) (Z8 (Y0h (Z1 (Z0 2) (Z1 (Z2r) (Z6))))) (X4)) (Z5 (W2 (i:=5) Z4y rfl (by first | exact Or.inl rfl | exact Or.inr rfl) (Z44 (W4 h.eq (Y5 ["Row"] Fx.at_Row_then (Z0 4)) (Y4)) (Z0 2) (Y5 ["Row"] Fx.at_Row_then (Z0 4)))) (Z8 (Y0h (Z1 (Z0 5) (Z1 (Z6g (Z2p h.eq (Z0 1) (Y4)) (Z6g (Y5 ["Row"] Fx.at_Row_take (Z0 4)) (Z3g (Z2p h.ne (Z0 5) (Y5 ["Tool"] Fx.at_Tool_blank (Z0 0)))))) (Z6))))))))))
def Z96:List Str:=["self", "how", "later", "source", "row"]
theorem Y86:Z96.Nodup:=by decide +kernel
theorem Y9z:FnScope Z96 ["self", "how", "later", "source", "row"] (defScope Z2w):=⟨rfl,rfl,rfl,Y86,rfl,by decide +kernel,by decide +kernel⟩
def Y3t:MS:=Y0 (Z3p ["Step"] "how" (Z4 0) (Z4 1)) (Y0 (Z3p ["Step"] "later" (Z4 0) (Z4 2)) (Y0 (Z3p ["Step"] "source" (Z4 0) (Z4 3)) (Z3p ["Step"] "row" (Z4 0) (Z4 4))))
def Z15:List X→Sto→R X:=Y0p 5 Y3t
include Fx in
theorem Y9j  (F:FunD K "__init__" "Step.__init__" (defArgs Z2w) (defBody Z2w) (defScope Z2w) dl [] f fd):FnG P HasW.w K mg base 1 f fd ["self", "how", "later", "source", "row"] (spE K 5 Z15):=fnE F Y9z fun cdv A outer s H E gu room=>by
  have h:Here (cxB P HasW.w K mg base Z96 "Step.__init__" (defScope Z2w) f cdv A outer s H E) (wxE E) 0:=W0 gu room
  unfold Y3t
  exact Z5 (Z1o ["Step"] Fx.at_Step_how (Z0 0) (Z0 1)) (Z5 (Z1o ["Step"] Fx.at_Step_later (Z0 0) (Z0 2)) (Z5 (Z1o ["Step"] Fx.at_Step_source (Z0 0) (Z0 3)) (Z8 (Z1o ["Step"] Fx.at_Step_row (Z0 0) (Z0 4)))))
def Z8r:List Str:=["tool", "standing", "how", "whose", "mark", "elder", "later", "took", "found"]
theorem Z3z:Z8r.Nodup:=by decide +kernel
theorem Y76:FnScope Z8r ["tool", "standing", "how", "whose"] (defScope Z2h):=⟨rfl,rfl,rfl,Z3z,rfl,by decide +kernel,by decide +kernel⟩
def Y2q:MS:=Y0 (Y1p 4 5 (Z3 (Z18 (Z4 1) (m_c (.int 0))) (Z3 (Z18 (Z4 1) (m_c (.int 1))) (Z7)))) (Y0 (Z8c (.tp [(.nm 6),(.nm 7)]) (V5 "Tool" "becomes" (Y7 3 (X5 [] (callP U4))) (Z4 0) (Z3 (m_c (.str "give")) (Z3 (Z4 4) (Z7))))) (Y0 (V0 8 (Y1k (X8 (Z4 7)) (Z4 3) (Z4 5))) (Y0 (V0 8 (Y1k (Q0 (Y3 eqD (Z4 6) (X6 ["Tool"] "blank" (Z4 0)))) (m_c (.str "none")) (Z4 8))) (W3 (Z9 (Y7 4 (X5 [] (made "Step" mkF Z15))) (Z3 (Z4 2) (Z3 (Z1n (Z3 (Z4 6) (Z3 (Z4 8) (Z4k (Z17 (Z4 1) (Z34 (m_c (.int 2))) (Y5n)) (Z7))))) (Z3 (m_c .non) (Z3 (V5 "Tool" "row_for" (Y7 3 (X5 [] (callP Z0n))) (Z4 0) (Z3 (m_c (.str "give")) (Z3 (Z4 4) (Z7)))) (Z7))))))))))
def g_given_step:List D→PR:=Z53 9 Y2q
include Fx in
theorem Y7x (K_Tool_becomes:Kept P HasW.w K mg base 3 (He.ma K (He.ga K "Tool") "becomes") (spP K 3 U4)) (K_Step_init:Kept P HasW.w K mg base 1 (He.ma K (He.ga K "Step") "__init__") (spE K 5 Z15)) (K_Tool_row_for:Kept P HasW.w K mg base 2 (He.ma K (He.ga K "Tool") "row_for") (spP K 3 Z0n)) (F:FunD K "given_step" "given_step" (defArgs Z2h) (defBody Z2h) (defScope Z2h) dl [] f fd):FnG P HasW.w K mg base 4 f fd ["tool", "standing", "how", "whose"] (spP K 4 g_given_step):=fnP F Y76 fun cdv A outer s H E gu room=>by
  have h:Here (cxB P HasW.w K mg base Z8r "given_step" (defScope Z2h) f cdv A outer s H E) (wxE E) 3:=W0 gu room
  unfold Y2q
  exact Z5 (Z7f rfl Z3z (i:=4) (j:=5) rfl rfl (by decide) rfl rfl (Z1 (U6 (Z0 1) (Y6)) (Z1 (U6 (Z0 1) (Y6)) (Z6)))) (Z5 (Z6h (W9 (h.callP K_Tool_becomes (by decide)) Fx.c_Tool Fx.m_Tool_becomes (Z0 0) (Z1 (Y4) (Z1 (Z0 4) (Z6)))) (Z2t rfl (Y9 (Y2 (i:=6) Z3z rfl (by first | exact Or.inl rfl | exact Or.inr rfl)) (Y9 (Y2 (i:=7) Z3z rfl (by first | exact Or.inl rfl | exact Or.inr rfl)) (Z07))))) (Z5 (W2 (i:=8) Z3z rfl (by first | exact Or.inl rfl | exact Or.inr rfl) (Z44 (X0 (Z0 7)) (Z0 3) (Z0 5))) (Z5 (W2 (i:=8) Z3z rfl (by first | exact Or.inl rfl | exact Or.inr rfl) (Z44 (W4 h.eq (Z0 6) (Y5 ["Tool"] Fx.at_Tool_blank (Z0 0))) (Z1f rfl Fx.s_NOBODY) (Z0 8))) (Z8 (X7 (Y8 (h.make Y4q (n:=4) Fx.M_Step K_Step_init (by decide)) rfl Fx.g_Step Fx.M_Step.kp (Z1 (Z0 2) (Z1 (Z0k (Z1 (Z0 6) (Z1 (Z0 8) (Z25 (Z16 (Z0 1) (Z3e (Y6)) (Z3d)) (Z6))))) (Z1 (Z0j) (Z1 (W9 (h.callP K_Tool_row_for (by decide)) Fx.c_Tool Fx.m_Tool_row_for (Z0 0) (Z1 (Y4) (Z1 (Z0 4) (Z6)))) (Z6)))))))))))
def Z5z:List Str:=["tool", "lets", "standing", "mark", "whose", "here", "others", "was", "were", "found"]
theorem Z0t:Z5z.Nodup:=by decide +kernel
theorem Y2l:FnScope Z5z ["tool", "lets", "standing"] (defScope Z0v):=⟨rfl,rfl,rfl,Z0t,rfl,by decide +kernel,by decide +kernel⟩
def Z8g:MS:=Y0 (Z8c (.tp [(.nm 3),(.nm 4),(.nm 5),(.nm 6),(.nm 7),(.nm 8)]) (Z4 2)) (Y0 (V0 9 (Z4j (Z7))) (Y0 (Z02 (X8 (Z4 5)) (V9 (Z9l Z2q Z0f (Z4 9) (Z3 (Z9 (Y7 4 (X5 [] (callP g_given_step))) (Z3 (Z4 0) (Z3 (Z4 2) (Z3 (Z1n (Z3 (m_c (.str "give")) (Z3 (m_c (.str "mine")) (Z7)))) (Z3 (m_c (.str "mine")) (Z7)))))) (Z7)))) (Z02 (Z0z (X8 (Z4 7)) (Q0 (Y3 inD (m_c (.str "late")) (Z4 1)))) (V9 (Z9l Z2q Z0f (Z4 9) (Z3 (Z9 (Y7 4 (X5 [] (callP g_given_step))) (Z3 (Z4 0) (Z3 (Z4 2) (Z3 (Z1n (Z3 (m_c (.str "give")) (Z3 (m_c (.str "mine")) (Z7)))) (Z3 (m_c (.str "mine")) (Z7)))))) (Z7)))) (V3))) (Y0 (Z02 (X8 (Z4 6)) (V9 (Z9l Z2q Z0f (Z4 9) (Z3 (Z9 (Y7 4 (X5 [] (callP g_given_step))) (Z3 (Z4 0) (Z3 (Z4 2) (Z3 (Z1n (Z3 (m_c (.str "give")) (Z3 (m_c (.str "others")) (Z7)))) (Z3 (m_c (.str "theirs")) (Z7)))))) (Z7)))) (Z02 (Z0z (X8 (Z4 8)) (Q0 (Y3 inD (m_c (.str "late")) (Z4 1)))) (V9 (Z9l Z2q Z0f (Z4 9) (Z3 (Z9 (Y7 4 (X5 [] (callP g_given_step))) (Z3 (Z4 0) (Z3 (Z4 2) (Z3 (Z1n (Z3 (m_c (.str "give")) (Z3 (m_c (.str "gone")) (Z7)))) (Z3 (m_c (.str "other")) (Z7)))))) (Z7)))) (V3))) (W3 (Z4 9)))))
def g_delivery_steps:List D→PR:=Z53 10 Z8g
include Fx in
theorem Y2f (K_given_step:Kept P HasW.w K mg base 4 (He.ga K "given_step") (spP K 4 g_given_step)) (F:FunD K "delivery_steps" "delivery_steps" (defArgs Z0v) (defBody Z0v) (defScope Z0v) dl [] f fd):FnG P HasW.w K mg base 5 f fd ["tool", "lets", "standing"] (spP K 3 g_delivery_steps):=fnP F Y2l fun cdv A outer s H E gu room=>by
  have h:Here (cxB P HasW.w K mg base Z5z "delivery_steps" (defScope Z0v) f cdv A outer s H E) (wxE E) 4:=W0 gu room
  unfold Z8g
  exact Z5 (Z6h (Z0 2) (Z2t rfl (Y9 (Y2 (i:=3) Z0t rfl (by first | exact Or.inl rfl | exact Or.inr rfl)) (Y9 (Y2 (i:=4) Z0t rfl (by first | exact Or.inl rfl | exact Or.inr rfl)) (Y9 (Y2 (i:=5) Z0t rfl (by first | exact Or.inl rfl | exact Or.inr rfl)) (Y9 (Y2 (i:=6) Z0t rfl (by first | exact Or.inl rfl | exact Or.inr rfl)) (Y9 (Y2 (i:=7) Z0t rfl (by first | exact Or.inl rfl | exact Or.inr rfl)) (Y9 (Y2 (i:=8) Z0t rfl (by first | exact Or.inl rfl | exact Or.inr rfl)) (Z07))))))))) (Z5 (W2 (i:=9) Z0t rfl (by first | exact Or.inl rfl | exact Or.inr rfl) (Z26 (Z6))) (Z5 (V2 (X0 (Z0 5)) (Z8 (W8 (Z45 PySem.F.slot_list_append PySem.F.type_list_append mt_append Z0p (Z0 9) (Z1 (Y8 (h.callP K_given_step (by decide)) rfl Fx.g_given_step K_given_step.kp (Z1 (Z0 0) (Z1 (Z0 2) (Z1 (Z0k (Z1 (Y4) (Z1 (Y4) (Z6)))) (Z1 (Z1f rfl Fx.s_MINE) (Z6)))))) (Z6))))) (Z8 (V2 (Z5m (Z03 (X0 (Z0 7)) (Z0l (W4 h.in_ (Y4) (Z0 1))))) (Z8 (W8 (Z45 PySem.F.slot_list_append PySem.F.type_list_append mt_append Z0p (Z0 9) (Z1 (Y8 (h.callP K_given_step (by decide)) rfl Fx.g_given_step K_given_step.kp (Z1 (Z0 0) (Z1 (Z0 2) (Z1 (Z0k (Z1 (Y4) (Z1 (Y4) (Z6)))) (Z1 (Z1f rfl Fx.s_MINE) (Z6)))))) (Z6))))) (X4)))) (Z5 (V2 (X0 (Z0 6)) (Z8 (W8 (Z45 PySem.F.slot_list_append PySem.F.type_list_append mt_append Z0p (Z0 9) (Z1 (Y8 (h.callP K_given_step (by decide)) rfl Fx.g_given_step K_given_step.kp (Z1 (Z0 0) (Z1 (Z0 2) (Z1 (Z0k (Z1 (Y4) (Z1 (Y4) (Z6)))) (Z1 (Z1f rfl Fx.s_THEIRS) (Z6)))))) (Z6))))) (Z8 (V2 (Z5m (Z03 (X0 (Z0 8)) (Z0l (W4 h.in_ (Y4) (Z0 1))))) (Z8 (W8 (Z45 PySem.F.slot_list_append PySem.F.type_list_append mt_append Z0p (Z0 9) (Z1 (Y8 (h.callP K_given_step (by decide)) rfl Fx.g_given_step K_given_step.kp (Z1 (Z0 0) (Z1 (Z0 2) (Z1 (Z0k (Z1 (Y4) (Z1 (Y4) (Z6)))) (Z1 (Z1f rfl Fx.s_OTHER) (Z6)))))) (Z6))))) (X4)))) (Z8 (X7 (Z0 9))))))
def Z7y:List Str:=["tool", "standing", "how", "is_right", "mark", "whose", "word", "later", "found"]
theorem Z39:Z7y.Nodup:=by decide +kernel
theorem Y6c:FnScope Z7y ["tool", "standing", "how", "is_right"] (defScope Z11):=⟨rfl,rfl,rfl,Z39,rfl,by decide +kernel,by decide +kernel⟩
def Y03:MS:=Y0 (Y1p 4 5 (Z3 (Z18 (Z4 1) (m_c (.int 0))) (Z3 (Z18 (Z4 1) (m_c (.int 1))) (Z7)))) (Y0 (V0 6 (Y1k (X8 (Z4 3)) (m_c (.str "right")) (m_c (.str "wrong")))) (Y0 (V0 7 (Z18 (V5 "Tool" "becomes" (Y7 3 (X5 [] (callP U4))) (Z4 0) (Z3 (Z4 6) (Z3 (Z4 4) (Z7)))) (m_c (.int 0)))) (Y0 (V0 8 (Y1k (Q0 (Y3 eqD (Z4 7) (X6 ["Tool"] "blank" (Z4 0)))) (m_c (.str "none")) (Z4 5))) (W3 (Z9 (Y7 4 (X5 [] (made "Step" mkF Z15))) (Z3 (Z4 2) (Z3 (Z1n (Z3 (Z4 7) (Z3 (Z4 8) (Z4k (Z17 (Z4 1) (Z34 (m_c (.int 2))) (Y5n)) (Z7))))) (Z3 (m_c .non) (Z3 (V5 "Tool" "row_for" (Y7 3 (X5 [] (callP Z0n))) (Z4 0) (Z3 (Z4 6) (Z3 (Z4 4) (Z7)))) (Z7))))))))))
def g_looked_step:List D→PR:=Z53 9 Y03
include Fx in
theorem Y5z (K_Tool_becomes:Kept P HasW.w K mg base 3 (He.ma K (He.ga K "Tool") "becomes") (spP K 3 U4)) (K_Step_init:Kept P HasW.w K mg base 1 (He.ma K (He.ga K "Step") "__init__") (spE K 5 Z15)) (K_Tool_row_for:Kept P HasW.w K mg base 2 (He.ma K (He.ga K "Tool") "row_for") (spP K 3 Z0n)) (F:FunD K "looked_step" "looked_step" (defArgs Z11) (defBody Z11) (defScope Z11) dl [] f fd):FnG P HasW.w K mg base 4 f fd ["tool", "standing", "how", "is_right"] (spP K 4 g_looked_step):=fnP F Y6c fun cdv A outer s H E gu room=>by
  have h:Here (cxB P HasW.w K mg base Z7y "looked_step" (defScope Z11) f cdv A outer s H E) (wxE E) 3:=W0 gu room
  unfold Y03
  exact Z5 (Z7f rfl Z39 (i:=4) (j:=5) rfl rfl (by decide) rfl rfl (Z1 (U6 (Z0 1) (Y6)) (Z1 (U6 (Z0 1) (Y6)) (Z6)))) (Z5 (W2 (i:=6) Z39 rfl (by first | exact Or.inl rfl | exact Or.inr rfl) (Z44 (X0 (Z0 3)) (Y4) (Y4))) (Z5 (W2 (i:=7) Z39 rfl (by first | exact Or.inl rfl | exact Or.inr rfl) (U6 (W9 (h.callP K_Tool_becomes (by decide)) Fx.c_Tool Fx.m_Tool_becomes (Z0 0) (Z1 (Z0 6) (Z1 (Z0 4) (Z6)))) (Y6))) (Z5 (W2 (i:=8) Z39 rfl (by first | exact Or.inl rfl | exact Or.inr rfl) (Z44 (W4 h.eq (Z0 7) (Y5 ["Tool"] Fx.at_Tool_blank (Z0 0))) (Z1f rfl Fx.s_NOBODY) (Z0 5))) (Z8 (X7 (Y8 (h.make Y4q (n:=4) Fx.M_Step K_Step_init (by decide)) rfl Fx.g_Step Fx.M_Step.kp (Z1 (Z0 2) (Z1 (Z0k (Z1 (Z0 7) (Z1 (Z0 8) (Z25 (Z16 (Z0 1) (Z3e (Y6)) (Z3d)) (Z6))))) (Z1 (Z0j) (Z1 (W9 (h.callP K_Tool_row_for (by decide)) Fx.c_Tool Fx.m_Tool_row_for (Z0 0) (Z1 (Z0 6) (Z1 (Z0 4) (Z6)))) (Z6)))))))))))
def Z8s:List Str:=["tool", "standing", "mark", "whose", "here", "others", "was", "were", "found"]
theorem Z2d:Z8s.Nodup:=by decide +kernel
theorem Y77:FnScope Z8s ["tool", "standing"] (defScope Z2i):=⟨rfl,rfl,rfl,Z2d,rfl,by decide +kernel,by decide +kernel⟩
def Y2r:MS:=Y0 (Z8c (.tp [(.nm 2),(.nm 3),(.nm 4),(.nm 5),(.nm 6),(.nm 7)]) (Z4 1)) (Y0 (V0 8 (Z4j (Z7))) (Y0 (Z02 (Z0z (Q0 (Y3 neD (Z4 2) (X6 ["Tool"] "blank" (Z4 0)))) (X8 (Z4 4))) (V9 (Z9l Z2q Z0f (Z4 8) (Z3 (Z9 (Y7 4 (X5 [] (callP g_looked_step))) (Z3 (Z4 0) (Z3 (Z4 1) (Z3 (Z1n (Z3 (m_c (.str "check")) (Z3 (m_c (.str "mine")) (Z7)))) (Z3 (Y3 eqD (Z4 3) (m_c (.str "mine"))) (Z7)))))) (Z7)))) (V3)) (Y0 (Z02 (Z0z (Q0 (Y3 neD (Z4 2) (X6 ["Tool"] "blank" (Z4 0)))) (X8 (Z4 5))) (V9 (Z9l Z2q Z0f (Z4 8) (Z3 (Z9 (Y7 4 (X5 [] (callP g_looked_step))) (Z3 (Z4 0) (Z3 (Z4 1) (Z3 (Z1n (Z3 (m_c (.str "check")) (Z3 (m_c (.str "others")) (Z7)))) (Z3 (Y3 eqD (Z4 3) (m_c (.str "theirs"))) (Z7)))))) (Z7)))) (V3)) (W3 (Z4 8)))))
def g_look_steps:List D→PR:=Z53 9 Y2r
include Fx in
theorem Y7y (K_looked_step:Kept P HasW.w K mg base 4 (He.ga K "looked_step") (spP K 4 g_looked_step)) (F:FunD K "look_steps" "look_steps" (defArgs Z2i) (defBody Z2i) (defScope Z2i) dl [] f fd):FnG P HasW.w K mg base 5 f fd ["tool", "standing"] (spP K 2 g_look_steps):=fnP F Y77 fun cdv A outer s H E gu room=>by
  have h:Here (cxB P HasW.w K mg base Z8s "look_steps" (defScope Z2i) f cdv A outer s H E) (wxE E) 4:=W0 gu room
  unfold Y2r
  exact Z5 (Z6h (Z0 1) (Z2t rfl (Y9 (Y2 (i:=2) Z2d rfl (by first | exact Or.inl rfl | exact Or.inr rfl)) (Y9 (Y2 (i:=3) Z2d rfl (by first | exact Or.inl rfl | exact Or.inr rfl)) (Y9 (Y2 (i:=4) Z2d rfl (by first | exact Or.inl rfl | exact Or.inr rfl)) (Y9 (Y2 (i:=5) Z2d rfl (by first | exact Or.inl rfl | exact Or.inr rfl)) (Y9 (Y2 (i:=6) Z2d rfl (by first | exact Or.inl rfl | exact Or.inr rfl)) (Y9 (Y2 (i:=7) Z2d rfl (by first | exact Or.inl rfl | exact Or.inr rfl)) (Z07))))))))) (Z5 (W2 (i:=8) Z2d rfl (by first | exact Or.inl rfl | exact Or.inr rfl) (Z26 (Z6))) (Z5 (V2 (Z5m (Z03 (W4 h.ne (Z0 2) (Y5 ["Tool"] Fx.at_Tool_blank (Z0 0))) (Z0l (X0 (Z0 4))))) (Z8 (W8 (Z45 PySem.F.slot_list_append PySem.F.type_list_append mt_append Z0p (Z0 8) (Z1 (Y8 (h.callP K_looked_step (by decide)) rfl Fx.g_looked_step K_looked_step.kp (Z1 (Z0 0) (Z1 (Z0 1) (Z1 (Z0k (Z1 (Y4) (Z1 (Y4) (Z6)))) (Z1 (Z2p h.eq (Z0 3) (Z1f rfl Fx.s_MINE)) (Z6)))))) (Z6))))) (X4)) (Z5 (V2 (Z5m (Z03 (W4 h.ne (Z0 2) (Y5 ["Tool"] Fx.at_Tool_blank (Z0 0))) (Z0l (X0 (Z0 5))))) (Z8 (W8 (Z45 PySem.F.slot_list_append PySem.F.type_list_append mt_append Z0p (Z0 8) (Z1 (Y8 (h.callP K_looked_step (by decide)) rfl Fx.g_looked_step K_looked_step.kp (Z1 (Z0 0) (Z1 (Z0 1) (Z1 (Z0k (Z1 (Y4) (Z1 (Y4) (Z6)))) (Z1 (Z2p h.eq (Z0 3) (Z1f rfl Fx.s_THEIRS)) (Z6)))))) (Z6))))) (X4)) (Z8 (X7 (Z0 8))))))
def Y7a:List Str:=["lets", "standing", "here", "others", "is_used", "is_elder"]
theorem Y88:Y7a.Nodup:=by decide +kernel
theorem X51:FnScope Y7a ["lets", "standing", "here", "others"] (defScope Z5v):=⟨rfl,rfl,rfl,Y88,rfl,by decide +kernel,by decide +kernel⟩
def X18:MS:=Y0 (Y1p 4 5 (Z3 (X2t (Z18 (Z4 1) (m_c (.int 2))) (Z18 (Z4 1) (m_c (.int 3)))) (Z3 (X2t (Z18 (Z4 1) (m_c (.int 4))) (Z18 (Z4 1) (m_c (.int 5)))) (Z7)))) (Y0 (Z02 (Z0z (X8 (Z4 2)) (Z0z (X8 (Z4 3)) (Q0 (Y3 X8d (m_c (.str "alike")) (Z4 0))))) (W3 (m_c (.bl false))) (V3)) (Y0 (Z02 (Z0e (X8 (Z4 4))) (W3 (X2t (X09 (X2t (Z4 2) (Z4 3))) (X2t (X09 (Z4 5)) (Y3 inD (m_c (.str "back")) (Z4 0))))) (V3)) (Y0 (Z02 (Z5c (Q0 (Y3 inD (m_c (.str "alike")) (Z4 0))) (Z5c (Q0 (Y3 inD (m_c (.str "back")) (Z4 0))) (Z0e (Z5c (X8 (Z4 2)) (X8 (Z4 3)))))) (W3 (m_c (.bl true))) (V3)) (W3 (Y3 eqD (Z1n (Z3 (Z4 2) (Z3 (Z4 3) (Z7)))) (Z1n (Z3 (Z18 (Z4 1) (m_c (.int 2))) (Z3 (Z18 (Z4 1) (m_c (.int 3))) (Z7)))))))))
def g_is_let:List D→PR:=Z53 6 X18
include Fx in
theorem X5l  (F:FunD K "is_let" "is_let" (defArgs Z5v) (defBody Z5v) (defScope Z5v) dl [] f fd):FnG P HasW.w K mg base 1 f fd ["lets", "standing", "here", "others"] (spP K 4 g_is_let):=fnP F X51 fun cdv A outer s H E gu room=>by
  have h:Here (cxB P HasW.w K mg base Y7a "is_let" (defScope Z5v) f cdv A outer s H E) (wxE E) 0:=W0 gu room
  unfold X18
  exact Z5 (Z7f rfl Y88 (i:=4) (j:=5) rfl rfl (by decide) rfl rfl (Z1 (Y18 (U6 (Z0 1) (Y6)) (Z3g (U6 (Z0 1) (Y6)))) (Z1 (Y18 (U6 (Z0 1) (Y6)) (Z3g (U6 (Z0 1) (Y6)))) (Z6)))) (Z5 (V2 (Z5m (Z03 (X0 (Z0 2)) (Z03 (X0 (Z0 3)) (Z0l (W4 h.nin (Y4) (Z0 0)))))) (Z8 (X7 (Z2r))) (X4)) (Z5 (V2 (Z0o (X0 (Z0 4))) (Z8 (X7 (Y18 (X2x (Y18 (Z0 2) (Z3g (Z0 3)))) (Y18 (X2x (Z0 5)) (Z3g (Z2p h.in_ (Y4) (Z0 0))))))) (X4)) (Z5 (V2 (Z5m (Z5s (W4 h.in_ (Y4) (Z0 0)) (Z5s (W4 h.in_ (Y4) (Z0 0)) (Z38 (Z0o (Z5m (Z5s (X0 (Z0 2)) (Z38 (X0 (Z0 3)))))))))) (Z8 (X7 (Z2r))) (X4)) (Z8 (X7 (Z2p h.eq (Z0k (Z1 (Z0 2) (Z1 (Z0 3) (Z6)))) (Z0k (Z1 (U6 (Z0 1) (Y6)) (Z1 (U6 (Z0 1) (Y6)) (Z6))))))))))
def Z65:List Str:=["whose"]
theorem Y4s:Z65.Nodup:=by decide +kernel
theorem Y5a:FnScope Z65 ["whose"] (defScope Z1m):=⟨rfl,rfl,rfl,Y4s,rfl,by decide +kernel,by decide +kernel⟩
def Z9u:MS:=W3 (Y3 inD (Z4 0) (Z1n (Z3 (m_c (.str "theirs")) (Z3 (m_c (.str "other")) (Z7)))))
def g_is_of_others:List D→PR:=Z53 1 Z9u
include Fx in
theorem Y42  (F:FunD K "is_of_others" "is_of_others" (defArgs Z1m) (defBody Z1m) (defScope Z1m) dl [] f fd):FnG P HasW.w K mg base 1 f fd ["whose"] (spP K 1 g_is_of_others):=fnP F Y5a fun cdv A outer s H E gu room=>by
  have h:Here (cxB P HasW.w K mg base Z65 "is_of_others" (defScope Z1m) f cdv A outer s H E) (wxE E) 0:=W0 gu room
  unfold Z9u
  exact Z8 (X7 (Z2p h.in_ (Z0 0) (Z0k (Z1 (Z1f rfl Fx.s_THEIRS) (Z1 (Z1f rfl Fx.s_OTHER) (Z6))))))
def Z8u:List Str:=["whose", "others", "is_free"]
theorem Y7t:Z8u.Nodup:=by decide +kernel
theorem Y79:FnScope Z8u ["whose", "others", "is_free"] (defScope Z2l):=⟨rfl,rfl,rfl,Y7t,rfl,by decide +kernel,by decide +kernel⟩
def Y2t:MS:=Y0 (Z02 (Z0e (X8 (Z9 (Y7 1 (X5 [] (callP g_is_of_others))) (Z3 (Z4 0) (Z7))))) (W3 (Z2b (Z3 (Z4 0) (Z7)))) (V3)) (Y0 (Z02 (Z0e (X8 (Z4 1))) (W3 (Z2b (Z3 (m_c (.str "other")) (Z7)))) (V3)) (W3 (Y1k (X8 (Z4 2)) (Z2b (Z3 (m_c (.str "theirs")) (Z3 (m_c (.str "other")) (Z7)))) (Z2b (Z3 (Z4 0) (Z7))))))
def g_whose_then:List D→PR:=Z53 3 Y2t
include Fx in
theorem Y70 (K_is_of_others:Kept P HasW.w K mg base 1 (He.ga K "is_of_others") (spP K 1 g_is_of_others)) (F:FunD K "whose_then" "whose_then" (defArgs Z2l) (defBody Z2l) (defScope Z2l) dl [] f fd):FnG P HasW.w K mg base 2 f fd ["whose", "others", "is_free"] (spP K 3 g_whose_then):=fnP F Y79 fun cdv A outer s H E gu room=>by
  have h:Here (cxB P HasW.w K mg base Z8u "whose_then" (defScope Z2l) f cdv A outer s H E) (wxE E) 1:=W0 gu room
  unfold Y2t
  exact Z5 (V2 (Z0o (X0 (Y8 (h.callP K_is_of_others (by decide)) rfl Fx.g_is_of_others K_is_of_others.kp (Z1 (Z0 0) (Z6))))) (Z8 (X7 (Z1g (Z1 (Z0 0) (Z6))))) (X4)) (Z5 (V2 (Z0o (X0 (Z0 1))) (Z8 (X7 (Z1g (Z1 (Z1f rfl Fx.s_OTHER) (Z6))))) (X4)) (Z8 (X7 (Z44 (X0 (Z0 2)) (Z1g (Z1 (Z1f rfl Fx.s_THEIRS) (Z1 (Z1f rfl Fx.s_OTHER) (Z6)))) (Z1g (Z1 (Z0 0) (Z6)))))))
def Y7c:List Str:=["lets", "source", "here", "others", "found"]
theorem Y9a:Y7c.Nodup:=by decide +kernel
theorem X53:FnScope Y7c ["lets", "source", "here", "others"] (defScope Z5x):=⟨rfl,rfl,rfl,Y9a,rfl,by decide +kernel,by decide +kernel⟩
def X2a:MS:=Y0 (Z02 (Q0 (Y3 inD (m_c (.str "near")) (Z4 0))) (W3 (Z2b (Z3 (m_c (.str "near")) (Z7)))) (V3)) (Y0 (V0 4 (Z4j (Z7))) (Y0 (Z02 (Z0z (X8 (Z18 (Z4 1) (m_c (.int 2)))) (X8 (Z4 2))) (V9 (Z9l Z2q Z0f (Z4 4) (Z3 (m_c (.str "own")) (Z7)))) (V3)) (Y0 (Z02 (Z0z (X8 (Z18 (Z4 1) (m_c (.int 3)))) (X8 (Z4 3))) (V9 (Z9l Z2q Z0f (Z4 4) (Z3 (m_c (.str "stranger")) (Z7)))) (V3)) (W3 (Z4 4)))))
def g_movers:List D→PR:=Z53 5 X2a
include Fx in
theorem X5n  (F:FunD K "movers" "movers" (defArgs Z5x) (defBody Z5x) (defScope Z5x) dl [] f fd):FnG P HasW.w K mg base 1 f fd ["lets", "source", "here", "others"] (spP K 4 g_movers):=fnP F X53 fun cdv A outer s H E gu room=>by
  have h:Here (cxB P HasW.w K mg base Y7c "movers" (defScope Z5x) f cdv A outer s H E) (wxE E) 0:=W0 gu room
  unfold X2a
  exact Z5 (V2 (W4 h.in_ (Y4) (Z0 0)) (Z8 (X7 (Z1g (Z1 (Y4) (Z6))))) (X4)) (Z5 (W2 (i:=4) Y9a rfl (by first | exact Or.inl rfl | exact Or.inr rfl) (Z26 (Z6))) (Z5 (V2 (Z5m (Z03 (X0 (U6 (Z0 1) (Y6))) (Z0l (X0 (Z0 2))))) (Z8 (W8 (Z45 PySem.F.slot_list_append PySem.F.type_list_append mt_append Z0p (Z0 4) (Z1 (Y4) (Z6))))) (X4)) (Z5 (V2 (Z5m (Z03 (X0 (U6 (Z0 1) (Y6))) (Z0l (X0 (Z0 3))))) (Z8 (W8 (Z45 PySem.F.slot_list_append PySem.F.type_list_append mt_append Z0p (Z0 4) (Z1 (Y4) (Z6))))) (X4)) (Z8 (X7 (Z0 4))))))
def Z56:List Str:=["tool", "lets", "source", "rest", "found", "later", "row", "is_free", "some", "mover", "one"]
theorem Z1a:Z56.Nodup:=by decide +kernel
theorem Y58:FnScope Z56 ["tool", "lets", "source", "rest"] (defScope Z1e):=⟨rfl,rfl,rfl,Z1a,rfl,by decide +kernel,by decide +kernel⟩
def Y0z:MS:=Y0 (V0 4 (Z4j (Z7))) (Y0 (Z02 (Q0 (Y3 eqD (Z18 (Z4 2) (m_c (.int 0))) (X6 ["Tool"] "blank" (Z4 0)))) (W3 (Z4 4)) (V3)) (Y0 (Z8c (.tp [(.nm 5),(.nm 6)]) (Z1n (Z3 (Z18 (V5 "Tool" "becomes" (Y7 3 (X5 [] (callP U4))) (Z4 0) (Z3 (m_c (.str "carry")) (Z3 (Z18 (Z4 2) (m_c (.int 0))) (Z7)))) (m_c (.int 0))) (Z3 (V5 "Tool" "row_for" (Y7 3 (X5 [] (callP Z0n))) (Z4 0) (Z3 (m_c (.str "carry")) (Z3 (Z18 (Z4 2) (m_c (.int 0))) (Z7)))) (Z7))))) (Y0 (V0 7 (X2t (Y3 inD (m_c (.str "alike")) (Z4 1)) (Y3 inD (m_c (.str "near")) (Z4 1)))) (Y0 (V0 8 (Y1k (Q0 (Y3 eqD (Z4 5) (X6 ["Tool"] "blank" (Z4 0)))) (Z2b (Z3 (m_c (.str "none")) (Z7))) (Z9 (Y7 3 (X5 [] (callP g_whose_then))) (Z3 (Z18 (Z4 2) (m_c (.int 1))) (Z3 (Z18 (Z4 3) (m_c (.int 1))) (Z3 (Z4 7) (Z7))))))) (Y0 (Z40 (.nm 9) (Z05 (Z9 (Y7 4 (X5 [] (callP g_movers))) (Z3 (Z4 1) (Z3 (Z4 2) (Z3 (Z18 (Z4 3) (m_c (.int 0))) (Z3 (Z18 (Z4 3) (m_c (.int 1))) (Z7))))))) (V9 (Z9l Z2q Y1i (Z4 4) (Z3 (Z8m (.nm 10) (Z05 (Z4 8)) (Z2o) (Z9 (Y7 4 (X5 [] (made "Step" mkF Z15))) (Z3 (Z1n (Z3 (m_c (.str "edition")) (Z3 (Z4 9) (Z7)))) (Z3 (Z1n (Z3 (Z4 5) (Z3 (Z4 10) (Z4k (Z4 3) (Z7))))) (Z3 (Z4 2) (Z3 (Z4 6) (Z7)))))) [10]) (Z7))))) (W3 (Z4 4)))))))
def g_carry_steps:List D→PR:=Z53 11 Y0z
include Fx in
theorem Y5v (K_Tool_becomes:Kept P HasW.w K mg base 3 (He.ma K (He.ga K "Tool") "becomes") (spP K 3 U4)) (K_Tool_row_for:Kept P HasW.w K mg base 2 (He.ma K (He.ga K "Tool") "row_for") (spP K 3 Z0n)) (K_whose_then:Kept P HasW.w K mg base 2 (He.ga K "whose_then") (spP K 3 g_whose_then)) (K_movers:Kept P HasW.w K mg base 1 (He.ga K "movers") (spP K 4 g_movers)) (K_Step_init:Kept P HasW.w K mg base 1 (He.ma K (He.ga K "Step") "__init__") (spE K 5 Z15)) (F:FunD K "carry_steps" "carry_steps" (defArgs Z1e) (defBody Z1e) (defScope Z1e) dl [] f fd):FnG P HasW.w K mg base 4 f fd ["tool", "lets", "source", "rest"] (spP K 4 g_carry_steps):=fnP F Y58 fun cdv A outer s H E gu room=>by
  have h:Here (cxB P HasW.w K mg base Z56 "carry_steps" (defScope Z1e) f cdv A outer s H E) (wxE E) 3:=W0 gu room
  unfold Y0z
  exact Z5 (W2 (i:=4) Z1a rfl (by first | exact Or.inl rfl | exact Or.inr rfl) (Z26 (Z6))) (Z5 (V2 (W4 h.eq (U6 (Z0 2) (Y6)) (Y5 ["Tool"] Fx.at_Tool_blank (Z0 0))) (Z8 (X7 (Z0 4))) (X4)) (Z5 (Z6h (Z0k (Z1 (U6 (W9 (h.callP K_Tool_becomes (by decide)) Fx.c_Tool Fx.m_Tool_becomes (Z0 0) (Z1 (Y4) (Z1 (U6 (Z0 2) (Y6)) (Z6)))) (Y6)) (Z1 (W9 (h.callP K_Tool_row_for (by decide)) Fx.c_Tool Fx.m_Tool_row_for (Z0 0) (Z1 (Y4) (Z1 (U6 (Z0 2) (Y6)) (Z6)))) (Z6)))) (Z2t rfl (Y9 (Y2 (i:=5) Z1a rfl (by first | exact Or.inl rfl | exact Or.inr rfl)) (Y9 (Y2 (i:=6) Z1a rfl (by first | exact Or.inl rfl | exact Or.inr rfl)) (Z07))))) (Z5 (W2 (i:=7) Z1a rfl (by first | exact Or.inl rfl | exact Or.inr rfl) (Y18 (Z2p h.in_ (Y4) (Z0 1)) (Z3g (Z2p h.in_ (Y4) (Z0 1))))) (Z5 (W2 (i:=8) Z1a rfl (by first | exact Or.inl rfl | exact Or.inr rfl) (Z44 (W4 h.eq (Z0 5) (Y5 ["Tool"] Fx.at_Tool_blank (Z0 0))) (Z1g (Z1 (Z1f rfl Fx.s_NOBODY) (Z6))) (Y8 (h.callP K_whose_then (by decide)) rfl Fx.g_whose_then K_whose_then.kp (Z1 (U6 (Z0 2) (Y6)) (Z1 (U6 (Z0 3) (Y6)) (Z1 (Z0 7) (Z6))))))) (Z5 (Z37 Z3h rfl (Q1 (Y8 (h.callP K_movers (by decide)) rfl Fx.g_movers K_movers.kp (Z1 (Z0 1) (Z1 (Z0 2) (Z1 (U6 (Z0 3) (Y6)) (Z1 (U6 (Z0 3) (Y6)) (Z6))))))) (Y2 (i:=9) Z1a rfl (by first | exact Or.inl rfl | exact Or.inr rfl)) (Z8 (W8 (Z45 PySem.F.slot_list_extend PySem.F.type_list_extend mt_extend Y7f (Z0 4) (Z1 (Z5d (own:=[("one",10)]) (t:=(.nm 10)) rfl Z1a (Q1 (Z0 8)) (blkOk_by (N:=Z56) (sc:=defScope Z1e) (by decide +kernel)) (by decide) (fun _ _ _ _ _=>Y2 (i:=10) Z1a rfl (by first | exact Or.inl rfl | exact Or.inr rfl)) (fun _ _ _ _ _=>Z08) (fun _ _ _ _ _=>Y8 ((h.blk _ _ _ _ _).make Y4q (n:=4) Fx.M_Step K_Step_init (by decide)) rfl Fx.g_Step Fx.M_Step.kp (Z1 (Z0k (Z1 (Y4) (Z1 (Z0 9) (Z6)))) (Z1 (Z0k (Z1 (Z0 5) (Z1 (Z0 10) (Z25 (Z0 3) (Z6))))) (Z1 (Z0 2) (Z1 (Z0 6) (Z6))))))) (Z6)))))) (Z8 (X7 (Z0 4))))))))
def Z4p:List Str:=["tool", "lets", "standing", "sources", "here", "others", "mark", "whose", "was_here", "were_there", "was", "were", "is_used", "is_used_then", "rest", "is_free", "found", "some", "word", "later", "row", "source", "one"]
theorem W6:Z4p.Nodup:=by decide +kernel
theorem Y59:FnScope Z4p ["tool", "lets", "standing", "sources", "here", "others"] (defScope Z0y):=⟨rfl,rfl,rfl,W6,rfl,by decide +kernel,by decide +kernel⟩
def Y00:MS:=Y0 (Z8c (.tp [(.nm 6),(.nm 7),(.nm 8),(.nm 9),(.nm 10),(.nm 11)]) (Z4 2)) (Y0 (Y1p 12 13 (Z3 (X2t (Z4 8) (Z4 9)) (Z3 (X2t (Z4 4) (Z4 5)) (Z7)))) (Y0 (V0 14 (Z1n (Z3 (Z4 4) (Z3 (Z4 5) (Z3 (X2t (Z4 10) (Z4 4)) (Z3 (X2t (Z4 11) (Z4 5)) (Z7))))))) (Y0 (V0 15 (X2t (Y3 inD (m_c (.str "alike")) (Z4 1)) (Y3 inD (m_c (.str "back")) (Z4 1)))) (Y0 (Z02 (Q0 (Y3 eqD (Z4 12) (Z4 13))) (Y0 (V0 17 (Z9 (Y7 3 (X5 [] (callP g_whose_then))) (Z3 (Z4 7) (Z3 (Z4 5) (Z3 (Z4 15) (Z7)))))) (W3 (Z8m (.nm 22) (Z05 (Z4 17)) (Z2o) (Z9 (Y7 4 (X5 [] (made "Step" mkF Z15))) (Z3 (Z1n (Z3 (m_c (.str "edition")) (Z3 (m_c (.str "stay")) (Z7)))) (Z3 (Z1n (Z3 (Z4 6) (Z3 (Z4 22) (Z4k (Z4 14) (Z7))))) (Z3 (m_c .non) (Z3 (m_c .non) (Z7)))))) [22]))) (V3)) (Y0 (Z02 (Q0 (Y3 neD (Z4 6) (X6 ["Tool"] "blank" (Z4 0)))) (Y0 (V0 18 (Y1k (X8 (Z4 12)) (m_c (.str "drop")) (m_c (.str "back")))) (Y0 (V0 19 (Z18 (V5 "Tool" "becomes" (Y7 3 (X5 [] (callP U4))) (Z4 0) (Z3 (Z4 18) (Z3 (Z4 6) (Z7)))) (m_c (.int 0)))) (Y0 (V0 17 (Y1k (Q0 (Y3 eqD (Z4 19) (X6 ["Tool"] "blank" (Z4 0)))) (Z2b (Z3 (m_c (.str "none")) (Z7))) (Z9 (Y7 3 (X5 [] (callP g_whose_then))) (Z3 (Z4 7) (Z3 (Z4 5) (Z3 (Z4 15) (Z7))))))) (Y0 (V0 20 (V5 "Tool" "row_for" (Y7 3 (X5 [] (callP Z0n))) (Z4 0) (Z3 (Z4 18) (Z3 (Z4 6) (Z7))))) (W3 (Z8m (.nm 22) (Z05 (Z4 17)) (Z2o) (Z9 (Y7 4 (X5 [] (made "Step" mkF Z15))) (Z3 (Z1n (Z3 (m_c (.str "edition")) (Z3 (Z4 18) (Z7)))) (Z3 (Z1n (Z3 (Z4 19) (Z3 (Z4 22) (Z4k (Z4 14) (Z7))))) (Z3 (m_c .non) (Z3 (Z4 20) (Z7)))))) [22])))))) (V3)) (Y0 (V0 16 (Z4j (Z3 (Z9 (Y7 4 (X5 [] (made "Step" mkF Z15))) (Z3 (Z1n (Z3 (m_c (.str "edition")) (Z3 (m_c (.str "come")) (Z7)))) (Z3 (Z1n (Z3 (Z4 6) (Z3 (m_c (.str "none")) (Z4k (Z4 14) (Z7))))) (Z3 (m_c .non) (Z3 (m_c .non) (Z7)))))) (Z7)))) (Y0 (Z02 (X8 (Z4 13)) (Z40 (.nm 21) (Z05 (Z4 3)) (V9 (Z9l Z2q Y1i (Z4 16) (Z3 (Z9 (Y7 4 (X5 [] (callP g_carry_steps))) (Z3 (Z4 0) (Z3 (Z4 1) (Z3 (Z4 21) (Z3 (Z4 14) (Z7)))))) (Z7))))) (V3)) (W3 (Z4 16)))))))))
def g_editions_to:List D→PR:=Z53 23 Y00
include Fx in
theorem Y5w (K_whose_then:Kept P HasW.w K mg base 2 (He.ga K "whose_then") (spP K 3 g_whose_then)) (K_Step_init:Kept P HasW.w K mg base 1 (He.ma K (He.ga K "Step") "__init__") (spE K 5 Z15)) (K_Tool_becomes:Kept P HasW.w K mg base 3 (He.ma K (He.ga K "Tool") "becomes") (spP K 3 U4)) (K_Tool_row_for:Kept P HasW.w K mg base 2 (He.ma K (He.ga K "Tool") "row_for") (spP K 3 Z0n)) (K_carry_steps:Kept P HasW.w K mg base 4 (He.ga K "carry_steps") (spP K 4 g_carry_steps)) (F:FunD K "editions_to" "editions_to" (defArgs Z0y) (defBody Z0y) (defScope Z0y) dl [] f fd):FnG P HasW.w K mg base 5 f fd ["tool", "lets", "standing", "sources", "here", "others"] (spP K 6 g_editions_to):=fnP F Y59 fun cdv A outer s H E gu room=>by
  have h:Here (cxB P HasW.w K mg base Z4p "editions_to" (defScope Z0y) f cdv A outer s H E) (wxE E) 4:=W0 gu room
  unfold Y00
  exact Z5 (Z6h (Z0 2) (Z2t rfl (Y9 (Y2 (i:=6) W6 rfl (by first | exact Or.inl rfl | exact Or.inr rfl)) (Y9 (Y2 (i:=7) W6 rfl (by first | exact Or.inl rfl | exact Or.inr rfl)) (Y9 (Y2 (i:=8) W6 rfl (by first | exact Or.inl rfl | exact Or.inr rfl)) (Y9 (Y2 (i:=9) W6 rfl (by first | exact Or.inl rfl | exact Or.inr rfl)) (Y9 (Y2 (i:=10) W6 rfl (by first | exact Or.inl rfl | exact Or.inr rfl)) (Y9 (Y2 (i:=11) W6 rfl (by first | exact Or.inl rfl | exact Or.inr rfl)) (Z07))))))))) (Z5 (Z7f rfl W6 (i:=12) (j:=13) rfl rfl (by decide) rfl rfl (Z1 (Y18 (Z0 8) (Z3g (Z0 9))) (Z1 (Y18 (Z0 4) (Z3g (Z0 5))) (Z6)))) (Z5 (W2 (i:=14) W6 rfl (by first | exact Or.inl rfl | exact Or.inr rfl) (Z0k (Z1 (Z0 4) (Z1 (Z0 5) (Z1 (Y18 (Z0 10) (Z3g (Z0 4))) (Z1 (Y18 (Z0 11) (Z3g (Z0 5))) (Z6))))))) (Z5 (W2 (i:=15) W6 rfl (by first | exact Or.inl rfl | exact Or.inr rfl) (Y18 (Z2p h.in_ (Y4) (Z0 1)) (Z3g (Z2p h.in_ (Y4) (Z0 1))))) (Z5 (V2 (W4 h.eq (Z0 12) (Z0 13)) (Z5 (W2 (i:=17) W6 rfl (by first | exact Or.inl rfl | exact Or.inr rfl) (Y8 (h.callP K_whose_then (by decide)) rfl Fx.g_whose_then K_whose_then.kp (Z1 (Z0 7) (Z1 (Z0 5) (Z1 (Z0 15) (Z6)))))) (Z8 (X7 (Z5d (own:=[("one",22)]) (t:=(.nm 22)) rfl W6 (Q1 (Z0 17)) (blkOk_by (N:=Z4p) (sc:=defScope Z0y) (by decide +kernel)) (by decide) (fun _ _ _ _ _=>Y2 (i:=22) W6 rfl (by first | exact Or.inl rfl | exact Or.inr rfl)) (fun _ _ _ _ _=>Z08) (fun _ _ _ _ _=>Y8 ((h.blk _ _ _ _ _).make Y4q (n:=4) Fx.M_Step K_Step_init (by decide)) rfl Fx.g_Step Fx.M_Step.kp (Z1 (Z0k (Z1 (Y4) (Z1 (Y4) (Z6)))) (Z1 (Z0k (Z1 (Z0 6) (Z1 (Z0 22) (Z25 (Z0 14) (Z6))))) (Z1 (Z0j) (Z1 (Z0j) (Z6)))))))))) (X4)) (Z5 (V2 (W4 h.ne (Z0 6) (Y5 ["Tool"] Fx.at_Tool_blank (Z0 0))) (Z5 (W2 (i:=18) W6 rfl (by first | exact Or.inl rfl | exact Or.inr rfl) (Z44 (X0 (Z0 12)) (Y4) (Y4))) (Z5 (W2 (i:=19) W6 rfl (by first | exact Or.inl rfl | exact Or.inr rfl) (U6 (W9 (h.callP K_Tool_becomes (by decide)) Fx.c_Tool Fx.m_Tool_becomes (Z0 0) (Z1 (Z0 18) (Z1 (Z0 6) (Z6)))) (Y6))) (Z5 (W2 (i:=17) W6 rfl (by first | exact Or.inl rfl | exact Or.inr rfl) (Z44 (W4 h.eq (Z0 19) (Y5 ["Tool"] Fx.at_Tool_blank (Z0 0))) (Z1g (Z1 (Z1f rfl Fx.s_NOBODY) (Z6))) (Y8 (h.callP K_whose_then (by decide)) rfl Fx.g_whose_then K_whose_then.kp (Z1 (Z0 7) (Z1 (Z0 5) (Z1 (Z0 15) (Z6))))))) (Z5 (W2 (i:=20) W6 rfl (by first | exact Or.inl rfl | exact Or.inr rfl) (W9 (h.callP K_Tool_row_for (by decide)) Fx.c_Tool Fx.m_Tool_row_for (Z0 0) (Z1 (Z0 18) (Z1 (Z0 6) (Z6))))) (Z8 (X7 (Z5d (own:=[("one",22)]) (t:=(.nm 22)) rfl W6 (Q1 (Z0 17)) (blkOk_by (N:=Z4p) (sc:=defScope Z0y) (by decide +kernel)) (by decide) (fun _ _ _ _ _=>Y2 (i:=22) W6 rfl (by first | exact Or.inl rfl | exact Or.inr rfl)) (fun _ _ _ _ _=>Z08) (fun _ _ _ _ _=>Y8 ((h.blk _ _ _ _ _).make Y4q (n:=4) Fx.M_Step K_Step_init (by decide)) rfl Fx.g_Step Fx.M_Step.kp (Z1 (Z0k (Z1 (Y4) (Z1 (Z0 18) (Z6)))) (Z1 (Z0k (Z1 (Z0 19) (Z1 (Z0 22) (Z25 (Z0 14) (Z6))))) (Z1 (Z0j) (Z1 (Z0 20) (Z6))))))))))))) (X4)) (Z5 (W2 (i:=16) W6 rfl (by first | exact Or.inl rfl | exact Or.inr rfl) (Z26 (Z1 (Y8 (h.make Y4q (n:=4) Fx.M_Step K_Step_init (by decide)) rfl Fx.g_Step Fx.M_Step.kp (Z1 (Z0k (Z1 (Y4) (Z1 (Y4) (Z6)))) (Z1 (Z0k (Z1 (Z0 6) (Z1 (Z1f rfl Fx.s_NOBODY) (Z25 (Z0 14) (Z6))))) (Z1 (Z0j) (Z1 (Z0j) (Z6)))))) (Z6)))) (Z5 (V2 (X0 (Z0 13)) (Z8 (Z37 Z3h rfl (Q1 (Z0 3)) (Y2 (i:=21) W6 rfl (by first | exact Or.inl rfl | exact Or.inr rfl)) (Z8 (W8 (Z45 PySem.F.slot_list_extend PySem.F.type_list_extend mt_extend Y7f (Z0 16) (Z1 (Y8 (h.callP K_carry_steps (by decide)) rfl Fx.g_carry_steps K_carry_steps.kp (Z1 (Z0 0) (Z1 (Z0 1) (Z1 (Z0 21) (Z1 (Z0 14) (Z6)))))) (Z6))))))) (X4)) (Z8 (X7 (Z0 16))))))))))
def Z6c:List Str:=["tool", "lets", "standing", "sources", "found", "here", "others"]
theorem Z4d:Z6c.Nodup:=by decide +kernel
theorem Y3f:FnScope Z6c ["tool", "lets", "standing", "sources"] (defScope Z04):=⟨rfl,rfl,rfl,Z4d,rfl,by decide +kernel,by decide +kernel⟩
def Z8x:MS:=Y0 (V0 4 (Z4j (Z7))) (Y0 (Z40 (.nm 5) (Z05 (Z1n (Z3 (m_c (.bl false)) (Z3 (m_c (.bl true)) (Z7))))) (Z40 (.nm 6) (Z05 (Z1n (Z3 (m_c (.bl false)) (Z3 (m_c (.bl true)) (Z7))))) (Z02 (X8 (Z9 (Y7 4 (X5 [] (callP g_is_let))) (Z3 (Z4 1) (Z3 (Z4 2) (Z3 (Z4 5) (Z3 (Z4 6) (Z7))))))) (V9 (Z9l Z2q Y1i (Z4 4) (Z3 (Z9 (Y7 6 (X5 [] (callP g_editions_to))) (Z3 (Z4 0) (Z3 (Z4 1) (Z3 (Z4 2) (Z3 (Z4 3) (Z3 (Z4 5) (Z3 (Z4 6) (Z7)))))))) (Z7)))) (V3)))) (W3 (Z4 4)))
def g_edition_steps:List D→PR:=Z53 7 Z8x
include Fx in
theorem Y3a (K_is_let:Kept P HasW.w K mg base 1 (He.ga K "is_let") (spP K 4 g_is_let)) (K_editions_to:Kept P HasW.w K mg base 5 (He.ga K "editions_to") (spP K 6 g_editions_to)) (F:FunD K "edition_steps" "edition_steps" (defArgs Z04) (defBody Z04) (defScope Z04) dl [] f fd):FnG P HasW.w K mg base 6 f fd ["tool", "lets", "standing", "sources"] (spP K 4 g_edition_steps):=fnP F Y3f fun cdv A outer s H E gu room=>by
  have h:Here (cxB P HasW.w K mg base Z6c "edition_steps" (defScope Z04) f cdv A outer s H E) (wxE E) 5:=W0 gu room
  unfold Z8x
  exact Z5 (W2 (i:=4) Z4d rfl (by first | exact Or.inl rfl | exact Or.inr rfl) (Z26 (Z6))) (Z5 (Z37 Z3h rfl (Q1 (Z0k (Z1 (Z2r) (Z1 (Z2r) (Z6))))) (Y2 (i:=5) Z4d rfl (by first | exact Or.inl rfl | exact Or.inr rfl)) (Z8 (Z37 Z3h rfl (Q1 (Z0k (Z1 (Z2r) (Z1 (Z2r) (Z6))))) (Y2 (i:=6) Z4d rfl (by first | exact Or.inl rfl | exact Or.inr rfl)) (Z8 (V2 (X0 (Y8 (h.callP K_is_let (by decide)) rfl Fx.g_is_let K_is_let.kp (Z1 (Z0 1) (Z1 (Z0 2) (Z1 (Z0 5) (Z1 (Z0 6) (Z6))))))) (Z8 (W8 (Z45 PySem.F.slot_list_extend PySem.F.type_list_extend mt_extend Y7f (Z0 4) (Z1 (Y8 (h.callP K_editions_to (by decide)) rfl Fx.g_editions_to K_editions_to.kp (Z1 (Z0 0) (Z1 (Z0 1) (Z1 (Z0 2) (Z1 (Z0 3) (Z1 (Z0 5) (Z1 (Z0 6) (Z6)))))))) (Z6))))) (X4)))))) (Z8 (X7 (Z0 4))))
def Z99:List Str:=["tool", "lets", "standing", "sources"]
theorem Y87:Z99.Nodup:=by decide +kernel
theorem Y94:FnScope Z99 ["tool", "lets", "standing", "sources"] (defScope Z2z):=⟨rfl,rfl,rfl,Y87,rfl,by decide +kernel,by decide +kernel⟩
def Y3y:MS:=W3 (Z2b (Z4k (Z9 (Y7 3 (X5 [] (callP g_delivery_steps))) (Z3 (Z4 0) (Z3 (Z4 1) (Z3 (Z4 2) (Z7))))) (Z4k (Z9 (Y7 2 (X5 [] (callP g_look_steps))) (Z3 (Z4 0) (Z3 (Z4 2) (Z7)))) (Z4k (Z9 (Y7 4 (X5 [] (callP g_edition_steps))) (Z3 (Z4 0) (Z3 (Z4 1) (Z3 (Z4 2) (Z3 (Z4 3) (Z7)))))) (Z7)))))
def g_all_steps:List D→PR:=Z53 4 Y3y
include Fx in
theorem Y9n (K_delivery_steps:Kept P HasW.w K mg base 5 (He.ga K "delivery_steps") (spP K 3 g_delivery_steps)) (K_look_steps:Kept P HasW.w K mg base 5 (He.ga K "look_steps") (spP K 2 g_look_steps)) (K_edition_steps:Kept P HasW.w K mg base 6 (He.ga K "edition_steps") (spP K 4 g_edition_steps)) (F:FunD K "all_steps" "all_steps" (defArgs Z2z) (defBody Z2z) (defScope Z2z) dl [] f fd):FnG P HasW.w K mg base 7 f fd ["tool", "lets", "standing", "sources"] (spP K 4 g_all_steps):=fnP F Y94 fun cdv A outer s H E gu room=>by
  have h:Here (cxB P HasW.w K mg base Z99 "all_steps" (defScope Z2z) f cdv A outer s H E) (wxE E) 6:=W0 gu room
  unfold Y3y
  exact Z8 (X7 (Z1g (Z25 (Y8 (h.callP K_delivery_steps (by decide)) rfl Fx.g_delivery_steps K_delivery_steps.kp (Z1 (Z0 0) (Z1 (Z0 1) (Z1 (Z0 2) (Z6))))) (Z25 (Y8 (h.callP K_look_steps (by decide)) rfl Fx.g_look_steps K_look_steps.kp (Z1 (Z0 0) (Z1 (Z0 2) (Z6)))) (Z25 (Y8 (h.callP K_edition_steps (by decide)) rfl Fx.g_edition_steps K_edition_steps.kp (Z1 (Z0 0) (Z1 (Z0 1) (Z1 (Z0 2) (Z1 (Z0 3) (Z6)))))) (Z6))))))
def Z48:List Str:=["self", "standing", "sources", "other"]
theorem Z6u:Z48.Nodup:=by decide +kernel
theorem Y1q:FnScope Z48 ["self", "standing", "sources"] (defScope Z0m):=⟨rfl,rfl,rfl,Z6u,rfl,by decide +kernel,by decide +kernel⟩
def Z7a:MS:=Y0 (V9 (V5 "Closure" "note" (Y7 3 (X5 [] Z5j)) (Z4 0) (Z3 (Z4 1) (Z3 (Z9 (Y7 4 (X5 [] (callP g_all_steps))) (Z3 (X6 ["Closure", "Teller"] "maker" (Z4 0)) (Z3 (X6 ["Closure", "Teller"] "lets" (Z4 0)) (Z3 (Z4 1) (Z3 (Z4 2) (Z7)))))) (Z7))))) (Y0 (Z40 (.nm 3) (Z05 (X6 ["Closure"] "resting" (Z4 0))) (V9 (V5 "Closure" "note" (Y7 3 (X5 [] Z5j)) (Z4 0) (Z3 (Z4 3) (Z3 (Z9 (Y7 4 (X5 [] (callP g_edition_steps))) (Z3 (X6 ["Closure", "Teller"] "maker" (Z4 0)) (Z3 (X6 ["Closure", "Teller"] "lets" (Z4 0)) (Z3 (Z4 3) (Z3 (Z2b (Z3 (Z4 1) (Z7))) (Z7)))))) (Z7)))))) (Z02 (Z0z (Q0 (Y3 eqD (Z18 (Z4 1) (m_c (.int 0))) (X6 ["Tool"] "blank" (X6 ["Closure", "Teller"] "maker" (Z4 0))))) (Z0z (Z0e (X8 (Z18 (Z4 1) (m_c (.int 2))))) (Z0e (X8 (Z18 (Z4 1) (m_c (.int 3))))))) (V9 (Z9l Z2q Z0f (X6 ["Closure"] "resting" (Z4 0)) (Z3 (Z4 1) (Z7)))) (V3)))
def Z5a:List X→Sto→R X:=Y0p 4 Z7a
include Fx in
theorem Y1n (K_Closure_note:Kept P HasW.w K mg base 1 (He.ma K (He.ga K "Closure") "note") (spE K 3 Z5j)) (K_all_steps:Kept P HasW.w K mg base 7 (He.ga K "all_steps") (spP K 4 g_all_steps)) (K_edition_steps:Kept P HasW.w K mg base 6 (He.ga K "edition_steps") (spP K 4 g_edition_steps)) (F:FunD K "go_from" "Closure.go_from" (defArgs Z0m) (defBody Z0m) (defScope Z0m) dl [] f fd):FnG P HasW.w K mg base 8 f fd ["self", "standing", "sources"] (spE K 3 Z5a):=fnE F Y1q fun cdv A outer s H E gu room=>by
  have h:Here (cxB P HasW.w K mg base Z48 "Closure.go_from" (defScope Z0m) f cdv A outer s H E) (wxE E) 7:=W0 gu room
  unfold Z7a
  exact Z5 (W8 (W9 (h.callE K_Closure_note (by decide)) Fx.c_Closure Fx.m_Closure_note (Z0 0) (Z1 (Z0 1) (Z1 (Y8 (h.callP K_all_steps (by decide)) rfl Fx.g_all_steps K_all_steps.kp (Z1 (Y5 ["Closure", "Teller"] Fx.at_Closure_Teller_maker (Z0 0)) (Z1 (Y5 ["Closure", "Teller"] Fx.at_Closure_Teller_lets (Z0 0)) (Z1 (Z0 1) (Z1 (Z0 2) (Z6)))))) (Z6))))) (Z5 (Z37 Z3h rfl (Q1 (Y5 ["Closure"] Fx.at_Closure_resting (Z0 0))) (Y2 (i:=3) Z6u rfl (by first | exact Or.inl rfl | exact Or.inr rfl)) (Z8 (W8 (W9 (h.callE K_Closure_note (by decide)) Fx.c_Closure Fx.m_Closure_note (Z0 0) (Z1 (Z0 3) (Z1 (Y8 (h.callP K_edition_steps (by decide)) rfl Fx.g_edition_steps K_edition_steps.kp (Z1 (Y5 ["Closure", "Teller"] Fx.at_Closure_Teller_maker (Z0 0)) (Z1 (Y5 ["Closure", "Teller"] Fx.at_Closure_Teller_lets (Z0 0)) (Z1 (Z0 3) (Z1 (Z1g (Z1 (Z0 1) (Z6))) (Z6)))))) (Z6))))))) (Z8 (V2 (Z5m (Z03 (W4 h.eq (U6 (Z0 1) (Y6)) (Y5 ["Tool"] Fx.at_Tool_blank (Y5 ["Closure", "Teller"] Fx.at_Closure_Teller_maker (Z0 0)))) (Z03 (Z0o (X0 (U6 (Z0 1) (Y6)))) (Z0l (Z0o (X0 (U6 (Z0 1) (Y6)))))))) (Z8 (W8 (Z45 PySem.F.slot_list_append PySem.F.type_list_append mt_append Z0p (Y5 ["Closure"] Fx.at_Closure_resting (Z0 0)) (Z1 (Z0 1) (Z6))))) (X4))))
def Z6z:List Str:=["self", "tool", "lets", "begin", "at"]
theorem Z4w:Z6z.Nodup:=by decide +kernel
theorem Y44:FnScope Z6z ["self", "tool", "lets"] (defScope Z1h):=⟨rfl,rfl,rfl,Z4w,rfl,by decide +kernel,by decide +kernel⟩
def Z9o:MS:=Y0 (Z3p ["Closure"] "maker" (Z4 0) (Z4 1)) (Y0 (Z3p ["Closure"] "lets" (Z4 0) (Z4 2)) (Y0 (V0 3 (Z9 (Y7 1 (X5 [] (callP g_begun))) (Z3 (Z4 1) (Z7)))) (Y0 (Z3p ["Closure"] "order" (Z4 0) (Z4j (Z3 (Z4 3) (Z7)))) (Y0 (Z3p ["Closure"] "ahead" (Z4 0) (X1a (Z4 3) (m_c .non))) (Y0 (Z3p ["Closure"] "rows_done" (Z4 0) (Y4n)) (Y0 (Z3p ["Closure"] "resting" (Z4 0) (Z4j (Z7))) (Y0 (V0 4 (m_c (.int 0))) (Y73 (Q0 (Y3 ltD (Z4 4) (Z9 Z9j (Z3 (X6 ["Closure"] "order" (Z4 0)) (Z7))))) (Y0 (V9 (V5 "Closure" "go_from" (Y7 3 (X5 [] Z5a)) (Z4 0) (Z3 (Z18 (X6 ["Closure"] "order" (Z4 0)) (Z4 4)) (Z3 (Z17 (X6 ["Closure"] "order" (Z4 0)) (Y5n) (Z34 (Y3 Z7o (Z4 4) (m_c (.int 1))))) (Z7))))) (X7m 4 W0m (m_c (.int 1))))))))))))
def Z0b:List X→Sto→R X:=W37 5 Z9o
include Fx in
theorem Y4v (K_begun:Kept P HasW.w K mg base 1 (He.ga K "begun") (spP K 1 g_begun)) (K_Closure_go_from:Kept P HasW.w K mg base 8 (He.ma K (He.ga K "Closure") "go_from") (spE K 3 Z5a)) (F:FunD K "__init__" "Closure.__init__" (defArgs Z1h) (defBody Z1h) (defScope Z1h) dl [] f fd):FnG P HasW.w K mg base 9 f fd ["self", "tool", "lets"] (spE K 3 Z0b):=fnR F Y44 fun cdv A outer s H E gu room=>by
  have h:Here (cxB P HasW.w K mg base Z6z "Closure.__init__" (defScope Z1h) f cdv A outer s H E) (wxE E) 8:=W0 gu room
  unfold Z9o
  exact Z5 (Z1o ["Closure"] Fx.at_Closure_maker (Z0 0) (Z0 1)) (Z5 (Z1o ["Closure"] Fx.at_Closure_lets (Z0 0) (Z0 2)) (Z5 (W2 (i:=3) Z4w rfl (by first | exact Or.inl rfl | exact Or.inr rfl) (Y8 (h.callP K_begun (by decide)) rfl Fx.g_begun K_begun.kp (Z1 (Z0 1) (Z6)))) (Z5 (Z1o ["Closure"] Fx.at_Closure_order (Z0 0) (Z26 (Z1 (Z0 3) (Z6)))) (Z5 (Z1o ["Closure"] Fx.at_Closure_ahead (Z0 0) (X2y rfl h.u1 (Z0 3) (Z0j))) (Z5 (Z1o ["Closure"] Fx.at_Closure_rows_done (Z0 0) (Y3m)) (Z5 (Z1o ["Closure"] Fx.at_Closure_resting (Z0 0) (Z26 (Z6))) (Z5 (W2 (i:=4) Z4w rfl (by first | exact Or.inl rfl | exact Or.inr rfl) (Y6)) (Z8 (Y7q Z3h (W4 h.lt (Z0 4) (U8 Z35 Z36 rfl Fx.f_len (Z1 (Y5 ["Closure"] Fx.at_Closure_order (Z0 0)) (Z6)))) (Z5 (W8 (W9 (h.callE K_Closure_go_from (by decide)) Fx.c_Closure Fx.m_Closure_go_from (Z0 0) (Z1 (U6 (Y5 ["Closure"] Fx.at_Closure_order (Z0 0)) (Z0 4)) (Z1 (Z16 (Y5 ["Closure"] Fx.at_Closure_order (Z0 0)) (Z3d) (Z3e (Z8p h.add (Z0 4) (Y6)))) (Z6))))) (Z8 (X8a (i:=4) Z4w rfl (by first | exact Or.inl rfl | exact Or.inr rfl) (Y6) ip_add Y9f))))))))))))
def Y0b:List Str:=["tool", "mark", "whose"]
theorem Y9b:Y0b.Nodup:=by decide +kernel
theorem Y99:FnScope Y0b ["tool", "mark", "whose"] (defScope Z21):=⟨rfl,rfl,rfl,Y9b,rfl,by decide +kernel,by decide +kernel⟩
def Y33:MS:=W3 (Z85 (Y3 inD (Z4 1) (X6 ["Tool"] "shown" (Z4 0))) (Y3 eqD (Z4 2) (m_c (.str "mine"))))
def g_shows_own:List D→PR:=Z53 3 Y33
include Fx in
theorem Y9t  (F:FunD K "shows_own" "shows_own" (defArgs Z21) (defBody Z21) (defScope Z21) dl [] f fd):FnG P HasW.w K mg base 1 f fd ["tool", "mark", "whose"] (spP K 3 g_shows_own):=fnP F Y99 fun cdv A outer s H E gu room=>by
  have h:Here (cxB P HasW.w K mg base Y0b "shows_own" (defScope Z21) f cdv A outer s H E) (wxE E) 0:=W0 gu room
  unfold Y33
  exact Z8 (X7 (Z6g (Z2p h.in_ (Z0 1) (Y5 ["Tool"] Fx.at_Tool_shown (Z0 0))) (Z3g (Z2p h.eq (Z0 2) (Z1f rfl Fx.s_MINE)))))
def Y1x:List Str:=["tool", "mark", "whose", "known", "waiting", "one", "text", "standing", "some", "step", "pair"]
theorem Z3n:Y1x.Nodup:=by decide +kernel
theorem X1t:FnScope Y1x ["tool", "mark", "whose"] (defScope Z3v):=⟨rfl,rfl,rfl,Z3n,rfl,by decide +kernel,by decide +kernel⟩
def Y6j:MS:=Y0 (Y1p 3 4 (Z3 (X1a (Z1n (Z3 (Z4 1) (Z3 (Z4 2) (Z7)))) (m_c (.bl true))) (Z3 (Z4j (Z3 (Z1n (Z3 (Z4 1) (Z3 (Z4 2) (Z7)))) (Z7))) (Z7)))) (Y0 (Y73 (Q0 (Y3 gtD (Z9 Z9j (Z3 (Z4 4) (Z7))) (m_c (.int 0)))) (Y0 (Z8c (.tp [(.nm 5),(.nm 6)]) (Z9l Z2q X4t (Z4 4) Z7)) (Y0 (Z02 (X8 (Z9 (Y7 3 (X5 [] (callP g_shows_own))) (Z3 (Z4 0) (Z3 (Z4 5) (Z3 (Z4 6) (Z7)))))) (W3 (m_c (.bl false))) (V3)) (Y0 (V0 7 (Z1n (Z3 (Z4 5) (Z3 (Z4 6) (Z3 (m_c (.bl true)) (Z3 (m_c (.bl false)) (Z3 (m_c (.bl true)) (Z3 (m_c (.bl false)) (Z7))))))))) (Y0 (V0 8 (Z4j (Z3 (Z9 (Y7 4 (X5 [] (callP g_given_step))) (Z3 (Z4 0) (Z3 (Z4 7) (Z3 (Z1n (Z7)) (Z3 (m_c (.str "mine")) (Z7)))))) (Z7)))) (Y0 (Z02 (Q0 (Y3 neD (Z4 5) (X6 ["Tool"] "blank" (Z4 0)))) (V9 (Z9l Z2q Z0f (Z4 8) (Z3 (Z9 (Y7 4 (X5 [] (callP g_looked_step))) (Z3 (Z4 0) (Z3 (Z4 7) (Z3 (Z1n (Z7)) (Z3 (Y3 eqD (Z4 6) (m_c (.str "mine"))) (Z7)))))) (Z7)))) (V3)) (Z40 (.nm 9) (Z05 (Z4 8)) (Y0 (V0 10 (Z17 (X6 ["Step"] "later" (Z4 9)) (Y5n) (Z34 (m_c (.int 2))))) (Z02 (Q0 (X48 true (Z4 10) (Z4 3))) (Y0 (X28 (Z4 3) (Z4 10) (m_c (.bl true))) (V9 (Z9l Z2q Z0f (Z4 4) (Z3 (Z4 10) (Z7))))) (V3)))))))))) (W3 (m_c (.bl true))))
def g_is_stuck:List D→PR:=Z53 11 Y6j
include Fx in
theorem X1k (K_shows_own:Kept P HasW.w K mg base 1 (He.ga K "shows_own") (spP K 3 g_shows_own)) (K_given_step:Kept P HasW.w K mg base 4 (He.ga K "given_step") (spP K 4 g_given_step)) (K_looked_step:Kept P HasW.w K mg base 4 (He.ga K "looked_step") (spP K 4 g_looked_step)) (F:FunD K "is_stuck" "is_stuck" (defArgs Z3v) (defBody Z3v) (defScope Z3v) dl [] f fd):FnG P HasW.w K mg base 5 f fd ["tool", "mark", "whose"] (spP K 3 g_is_stuck):=fnP F X1t fun cdv A outer s H E gu room=>by
  have h:Here (cxB P HasW.w K mg base Y1x "is_stuck" (defScope Z3v) f cdv A outer s H E) (wxE E) 4:=W0 gu room
  unfold Y6j
  exact Z5 (Z7f rfl Z3n (i:=3) (j:=4) rfl rfl (by decide) rfl rfl (Z1 (X2y rfl h.u1 (Z0k (Z1 (Z0 1) (Z1 (Z0 2) (Z6)))) (Z2r)) (Z1 (Z26 (Z1 (Z0k (Z1 (Z0 1) (Z1 (Z0 2) (Z6)))) (Z6))) (Z6)))) (Z5 (Y7q Z3h (W4 h.gt (U8 Z35 Z36 rfl Fx.f_len (Z1 (Z0 4) (Z6))) (Y6)) (Z5 (Z6h (W1u PySem.F.slot_list_pop PySem.F.type_list_pop mt_pop W01 (Z0 4)) (Z2t rfl (Y9 (Y2 (i:=5) Z3n rfl (by first | exact Or.inl rfl | exact Or.inr rfl)) (Y9 (Y2 (i:=6) Z3n rfl (by first | exact Or.inl rfl | exact Or.inr rfl)) (Z07))))) (Z5 (V2 (X0 (Y8 (h.callP K_shows_own (by decide)) rfl Fx.g_shows_own K_shows_own.kp (Z1 (Z0 0) (Z1 (Z0 5) (Z1 (Z0 6) (Z6)))))) (Z8 (X7 (Z2r))) (X4)) (Z5 (W2 (i:=7) Z3n rfl (by first | exact Or.inl rfl | exact Or.inr rfl) (Z0k (Z1 (Z0 5) (Z1 (Z0 6) (Z1 (Z2r) (Z1 (Z2r) (Z1 (Z2r) (Z1 (Z2r) (Z6))))))))) (Z5 (W2 (i:=8) Z3n rfl (by first | exact Or.inl rfl | exact Or.inr rfl) (Z26 (Z1 (Y8 (h.callP K_given_step (by decide)) rfl Fx.g_given_step K_given_step.kp (Z1 (Z0 0) (Z1 (Z0 7) (Z1 (Z0k (Z6)) (Z1 (Z1f rfl Fx.s_MINE) (Z6)))))) (Z6)))) (Z5 (V2 (W4 h.ne (Z0 5) (Y5 ["Tool"] Fx.at_Tool_blank (Z0 0))) (Z8 (W8 (Z45 PySem.F.slot_list_append PySem.F.type_list_append mt_append Z0p (Z0 8) (Z1 (Y8 (h.callP K_looked_step (by decide)) rfl Fx.g_looked_step K_looked_step.kp (Z1 (Z0 0) (Z1 (Z0 7) (Z1 (Z0k (Z6)) (Z1 (Z2p h.eq (Z0 6) (Z1f rfl Fx.s_MINE)) (Z6)))))) (Z6))))) (X4)) (Z8 (Z37 Z3h rfl (Q1 (Z0 8)) (Y2 (i:=9) Z3n rfl (by first | exact Or.inl rfl | exact Or.inr rfl)) (Z5 (W2 (i:=10) Z3n rfl (by first | exact Or.inl rfl | exact Or.inr rfl) (Z16 (Y5 ["Step"] Fx.at_Step_later (Z0 9)) (Z3d) (Z3e (Y6)))) (Z8 (V2 (X5h rfl h.u1 (Z0 10) (Z0 3)) (Z5 (X1c rfl h.u1 (Z0 3) (Z0 10) (Z2r)) (Z8 (W8 (Z45 PySem.F.slot_list_append PySem.F.type_list_append mt_append Z0p (Z0 4) (Z1 (Z0 10) (Z6)))))) (X4)))))))))))) (Z8 (X7 (Z2r))))
def Z70:List Str:=["tool", "fault", "standing", "mark", "whose", "here"]
theorem Z5p:Z70.Nodup:=by decide +kernel
theorem Y6d:FnScope Z70 ["tool", "fault", "standing"] (defScope Z13):=⟨rfl,rfl,rfl,Z5p,rfl,by decide +kernel,by decide +kernel⟩
def Y04:MS:=Y0 (Z8c (.tp [(.nm 3),(.nm 4),(.nm 5)]) (Z17 (Z4 2) (Y5n) (Z34 (m_c (.int 3))))) (Y0 (Z02 (Z0e (X8 (Z4 5))) (W3 (m_c (.bl false))) (V3)) (Y0 (Z02 (Q0 (Y3 eqD (Z4 1) (m_c (.str "strange")))) (W3 (Z85 (Y3 inD (Z4 3) (X6 ["Tool"] "shown" (Z4 0))) (Z9 (Y7 1 (X5 [] (callP g_is_of_others))) (Z3 (Z4 4) (Z7))))) (V3)) (Y0 (Z02 (Q0 (Y3 eqD (Z4 1) (m_c (.str "again")))) (W3 (Z85 (Y3 inD (Z4 3) (X6 ["Tool"] "asked" (Z4 0))) (Y3 eqD (Z4 4) (m_c (.str "mine"))))) (V3)) (W3 (Z85 (Y3 eqD (Z4 1) (m_c (.str "stuck"))) (Z9 (Y7 3 (X5 [] (callP g_is_stuck))) (Z3 (Z4 0) (Z3 (Z4 3) (Z3 (Z4 4) (Z7))))))))))
def g_shows_fault:List D→PR:=Z53 6 Y04
include Fx in
theorem Y50 (K_is_of_others:Kept P HasW.w K mg base 1 (He.ga K "is_of_others") (spP K 1 g_is_of_others)) (K_is_stuck:Kept P HasW.w K mg base 5 (He.ga K "is_stuck") (spP K 3 g_is_stuck)) (F:FunD K "shows_fault" "shows_fault" (defArgs Z13) (defBody Z13) (defScope Z13) dl [] f fd):FnG P HasW.w K mg base 6 f fd ["tool", "fault", "standing"] (spP K 3 g_shows_fault):=fnP F Y6d fun cdv A outer s H E gu room=>by
  have h:Here (cxB P HasW.w K mg base Z70 "shows_fault" (defScope Z13) f cdv A outer s H E) (wxE E) 5:=W0 gu room
  unfold Y04
  exact Z5 (Z6h (Z16 (Z0 2) (Z3d) (Z3e (Y6))) (Z2t rfl (Y9 (Y2 (i:=3) Z5p rfl (by first | exact Or.inl rfl | exact Or.inr rfl)) (Y9 (Y2 (i:=4) Z5p rfl (by first | exact Or.inl rfl | exact Or.inr rfl)) (Y9 (Y2 (i:=5) Z5p rfl (by first | exact Or.inl rfl | exact Or.inr rfl)) (Z07)))))) (Z5 (V2 (Z0o (X0 (Z0 5))) (Z8 (X7 (Z2r))) (X4)) (Z5 (V2 (W4 h.eq (Z0 1) (Y4)) (Z8 (X7 (Z6g (Z2p h.in_ (Z0 3) (Y5 ["Tool"] Fx.at_Tool_shown (Z0 0))) (Z3g (Y8 (h.callP K_is_of_others (by decide)) rfl Fx.g_is_of_others K_is_of_others.kp (Z1 (Z0 4) (Z6))))))) (X4)) (Z5 (V2 (W4 h.eq (Z0 1) (Y4)) (Z8 (X7 (Z6g (Z2p h.in_ (Z0 3) (Y5 ["Tool"] Fx.at_Tool_asked (Z0 0))) (Z3g (Z2p h.eq (Z0 4) (Z1f rfl Fx.s_MINE)))))) (X4)) (Z8 (X7 (Z6g (Z2p h.eq (Z0 1) (Y4)) (Z3g (Y8 (h.callP K_is_stuck (by decide)) rfl Fx.g_is_stuck K_is_stuck.kp (Z1 (Z0 0) (Z1 (Z0 3) (Z1 (Z0 4) (Z6))))))))))))
def Z4b:List Str:=["tool", "lets", "fault", "standing", "mark", "whose", "here", "some", "step"]
theorem Z0g:Z4b.Nodup:=by decide +kernel
theorem Y2m:FnScope Z4b ["tool", "lets", "fault", "standing"] (defScope Z0i):=⟨rfl,rfl,rfl,Z0g,rfl,by decide +kernel,by decide +kernel⟩
def Z8h:MS:=Y0 (Z8c (.tp [(.nm 4),(.nm 5),(.nm 6)]) (Z17 (Z4 3) (Y5n) (Z34 (m_c (.int 3))))) (Y0 (Z02 (Z0e (X8 (Z4 6))) (W3 (Z2b (Z7))) (V3)) (Y0 (V0 7 (Z2b (Z7))) (Y0 (Z02 (Q0 (Y3 eqD (Z4 2) (m_c (.str "vain")))) (V0 7 (Z2b (Z3 (Z9 (Y7 4 (X5 [] (callP g_given_step))) (Z3 (Z4 0) (Z3 (Z4 3) (Z3 (Z1n (Z3 (m_c (.str "give")) (Z3 (m_c (.str "mine")) (Z7)))) (Z3 (m_c (.str "mine")) (Z7)))))) (Z7)))) (Z02 (Z0z (Q0 (Y3 eqD (Z4 2) (m_c (.str "fallen")))) (X8 (Z9 (Y7 3 (X5 [] (callP g_shows_own))) (Z3 (Z4 0) (Z3 (Z4 4) (Z3 (Z4 5) (Z7))))))) (V0 7 (Y3 Z7o (Z9 (Y7 3 (X5 [] (callP g_delivery_steps))) (Z3 (Z4 0) (Z3 (Z4 1) (Z3 (Z4 3) (Z7))))) (Z9 (Y7 2 (X5 [] (callP g_look_steps))) (Z3 (Z4 0) (Z3 (Z4 3) (Z7)))))) (V3))) (W3 (Z8m (.nm 8) (Z05 (Z4 7)) (Z0e (X8 (Z9 (Y7 3 (X5 [] (callP g_shows_own))) (Z3 (Z4 0) (Z3 (Z18 (X6 ["Step"] "later" (Z4 8)) (m_c (.int 0))) (Z3 (Z18 (X6 ["Step"] "later" (Z4 8)) (m_c (.int 1))) (Z7))))))) (Z4 8) [8])))))
def g_steps_to_fault:List D→PR:=Z53 9 Z8h
include Fx in
theorem Y2g (K_given_step:Kept P HasW.w K mg base 4 (He.ga K "given_step") (spP K 4 g_given_step)) (K_shows_own:Kept P HasW.w K mg base 1 (He.ga K "shows_own") (spP K 3 g_shows_own)) (K_delivery_steps:Kept P HasW.w K mg base 5 (He.ga K "delivery_steps") (spP K 3 g_delivery_steps)) (K_look_steps:Kept P HasW.w K mg base 5 (He.ga K "look_steps") (spP K 2 g_look_steps)) (F:FunD K "steps_to_fault" "steps_to_fault" (defArgs Z0i) (defBody Z0i) (defScope Z0i) dl [] f fd):FnG P HasW.w K mg base 6 f fd ["tool", "lets", "fault", "standing"] (spP K 4 g_steps_to_fault):=fnP F Y2m fun cdv A outer s H E gu room=>by
  have h:Here (cxB P HasW.w K mg base Z4b "steps_to_fault" (defScope Z0i) f cdv A outer s H E) (wxE E) 5:=W0 gu room
  unfold Z8h
  exact Z5 (Z6h (Z16 (Z0 3) (Z3d) (Z3e (Y6))) (Z2t rfl (Y9 (Y2 (i:=4) Z0g rfl (by first | exact Or.inl rfl | exact Or.inr rfl)) (Y9 (Y2 (i:=5) Z0g rfl (by first | exact Or.inl rfl | exact Or.inr rfl)) (Y9 (Y2 (i:=6) Z0g rfl (by first | exact Or.inl rfl | exact Or.inr rfl)) (Z07)))))) (Z5 (V2 (Z0o (X0 (Z0 6))) (Z8 (X7 (Z1g (Z6)))) (X4)) (Z5 (W2 (i:=7) Z0g rfl (by first | exact Or.inl rfl | exact Or.inr rfl) (Z1g (Z6))) (Z5 (V2 (W4 h.eq (Z0 2) (Y4)) (Z8 (W2 (i:=7) Z0g rfl (by first | exact Or.inl rfl | exact Or.inr rfl) (Z1g (Z1 (Y8 (h.callP K_given_step (by decide)) rfl Fx.g_given_step K_given_step.kp (Z1 (Z0 0) (Z1 (Z0 3) (Z1 (Z0k (Z1 (Y4) (Z1 (Y4) (Z6)))) (Z1 (Z1f rfl Fx.s_MINE) (Z6)))))) (Z6))))) (Z8 (V2 (Z5m (Z03 (W4 h.eq (Z0 2) (Y4)) (Z0l (X0 (Y8 (h.callP K_shows_own (by decide)) rfl Fx.g_shows_own K_shows_own.kp (Z1 (Z0 0) (Z1 (Z0 4) (Z1 (Z0 5) (Z6))))))))) (Z8 (W2 (i:=7) Z0g rfl (by first | exact Or.inl rfl | exact Or.inr rfl) (Z8p h.add (Y8 (h.callP K_delivery_steps (by decide)) rfl Fx.g_delivery_steps K_delivery_steps.kp (Z1 (Z0 0) (Z1 (Z0 1) (Z1 (Z0 3) (Z6))))) (Y8 (h.callP K_look_steps (by decide)) rfl Fx.g_look_steps K_look_steps.kp (Z1 (Z0 0) (Z1 (Z0 3) (Z6))))))) (X4)))) (Z8 (X7 (Z5d (own:=[("step",8)]) (t:=(.nm 8)) rfl Z0g (Q1 (Z0 7)) (blkOk_by (N:=Z4b) (sc:=defScope Z0i) (by decide +kernel)) (by decide) (fun _ _ _ _ _=>Y2 (i:=8) Z0g rfl (by first | exact Or.inl rfl | exact Or.inr rfl)) (fun _ _ _ _ _=>Z4g (Z0o (X0 (Y8 ((h.blk _ _ _ _ _).callP K_shows_own (by decide)) rfl Fx.g_shows_own K_shows_own.kp (Z1 (Z0 0) (Z1 (U6 (Y5 ["Step"] Fx.at_Step_later (Z0 8)) (Y6)) (Z1 (U6 (Y5 ["Step"] Fx.at_Step_later (Z0 8)) (Y6)) (Z6)))))))) (fun _ _ _ _ _=>Z0 8)))))))
def Z64:List Str:=["tool", "lets", "standing", "mark", "whose", "here"]
theorem Z4z:Z64.Nodup:=by decide +kernel
theorem Y49:FnScope Z64 ["tool", "lets", "standing"] (defScope Z1l):=⟨rfl,rfl,rfl,Z4z,rfl,by decide +kernel,by decide +kernel⟩
def Z9t:MS:=Y0 (Z8c (.tp [(.nm 3),(.nm 4),(.nm 5)]) (Z17 (Z4 2) (Y5n) (Z34 (m_c (.int 3))))) (Y0 (Z02 (Z5c (Z0e (X8 (Z4 5))) (Q0 (Y3 neD (Z4 4) (m_c (.str "mine"))))) (W3 (m_c (.bl false))) (V3)) (W3 (X2t (Y3 inD (m_c (.str "alike")) (Z4 1)) (X2t (Y3 inD (m_c (.str "near")) (Z4 1)) (Y3 eqD (Z18 (V5 "Tool" "becomes" (Y7 3 (X5 [] (callP U4))) (Z4 0) (Z3 (m_c (.str "carry")) (Z3 (Z4 3) (Z7)))) (m_c (.int 0))) (X6 ["Tool"] "blank" (Z4 0)))))))
def g_is_lost_from:List D→PR:=Z53 6 Z9t
include Fx in
theorem Y41 (K_Tool_becomes:Kept P HasW.w K mg base 3 (He.ma K (He.ga K "Tool") "becomes") (spP K 3 U4)) (F:FunD K "is_lost_from" "is_lost_from" (defArgs Z1l) (defBody Z1l) (defScope Z1l) dl [] f fd):FnG P HasW.w K mg base 4 f fd ["tool", "lets", "standing"] (spP K 3 g_is_lost_from):=fnP F Y49 fun cdv A outer s H E gu room=>by
  have h:Here (cxB P HasW.w K mg base Z64 "is_lost_from" (defScope Z1l) f cdv A outer s H E) (wxE E) 3:=W0 gu room
  unfold Z9t
  exact Z5 (Z6h (Z16 (Z0 2) (Z3d) (Z3e (Y6))) (Z2t rfl (Y9 (Y2 (i:=3) Z4z rfl (by first | exact Or.inl rfl | exact Or.inr rfl)) (Y9 (Y2 (i:=4) Z4z rfl (by first | exact Or.inl rfl | exact Or.inr rfl)) (Y9 (Y2 (i:=5) Z4z rfl (by first | exact Or.inl rfl | exact Or.inr rfl)) (Z07)))))) (Z5 (V2 (Z5m (Z5s (Z0o (X0 (Z0 5))) (Z38 (W4 h.ne (Z0 4) (Z1f rfl Fx.s_MINE))))) (Z8 (X7 (Z2r))) (X4)) (Z8 (X7 (Y18 (Z2p h.in_ (Y4) (Z0 1)) (Y18 (Z2p h.in_ (Y4) (Z0 1)) (Z3g (Z2p h.eq (U6 (W9 (h.callP K_Tool_becomes (by decide)) Fx.c_Tool Fx.m_Tool_becomes (Z0 0) (Z1 (Y4) (Z1 (Z0 3) (Z6)))) (Y6)) (Y5 ["Tool"] Fx.at_Tool_blank (Z0 0)))))))))
def Y7b:List Str:=["tool", "lets", "fault", "standings", "standing"]
theorem Y89:Y7b.Nodup:=by decide +kernel
theorem X52:FnScope Y7b ["tool", "lets", "fault", "standings"] (defScope Z5w):=⟨rfl,rfl,rfl,Y89,rfl,by decide +kernel,by decide +kernel⟩
def X19:MS:=Y0 (Z40 (.nm 4) (Z05 (Z4 3)) (Y0 (Z02 (Z5c (X8 (Z9 (Y7 3 (X5 [] (callP g_shows_fault))) (Z3 (Z4 0) (Z3 (Z4 2) (Z3 (Z4 4) (Z7)))))) (Q0 (Y3 gtD (Z9 Z9j (Z3 (Z9 (Y7 4 (X5 [] (callP g_steps_to_fault))) (Z3 (Z4 0) (Z3 (Z4 1) (Z3 (Z4 2) (Z3 (Z4 4) (Z7)))))) (Z7))) (m_c (.int 0))))) (W3 (m_c (.bl true))) (V3)) (Z02 (Z0z (Q0 (Y3 eqD (Z4 2) (m_c (.str "lost")))) (X8 (Z9 (Y7 3 (X5 [] (callP g_is_lost_from))) (Z3 (Z4 0) (Z3 (Z4 1) (Z3 (Z4 4) (Z7))))))) (W3 (m_c (.bl true))) (V3)))) (W3 (m_c (.bl false)))
def g_is_met:List D→PR:=Z53 5 X19
include Fx in
theorem X5m (K_shows_fault:Kept P HasW.w K mg base 6 (He.ga K "shows_fault") (spP K 3 g_shows_fault)) (K_steps_to_fault:Kept P HasW.w K mg base 6 (He.ga K "steps_to_fault") (spP K 4 g_steps_to_fault)) (K_is_lost_from:Kept P HasW.w K mg base 4 (He.ga K "is_lost_from") (spP K 3 g_is_lost_from)) (F:FunD K "is_met" "is_met" (defArgs Z5w) (defBody Z5w) (defScope Z5w) dl [] f fd):FnG P HasW.w K mg base 7 f fd ["tool", "lets", "fault", "standings"] (spP K 4 g_is_met):=fnP F X52 fun cdv A outer s H E gu room=>by
  have h:Here (cxB P HasW.w K mg base Y7b "is_met" (defScope Z5w) f cdv A outer s H E) (wxE E) 6:=W0 gu room
  unfold X19
  exact Z5 (Z37 Z3h rfl (Q1 (Z0 3)) (Y2 (i:=4) Y89 rfl (by first | exact Or.inl rfl | exact Or.inr rfl)) (Z5 (V2 (Z5m (Z5s (X0 (Y8 (h.callP K_shows_fault (by decide)) rfl Fx.g_shows_fault K_shows_fault.kp (Z1 (Z0 0) (Z1 (Z0 2) (Z1 (Z0 4) (Z6)))))) (Z38 (W4 h.gt (U8 Z35 Z36 rfl Fx.f_len (Z1 (Y8 (h.callP K_steps_to_fault (by decide)) rfl Fx.g_steps_to_fault K_steps_to_fault.kp (Z1 (Z0 0) (Z1 (Z0 1) (Z1 (Z0 2) (Z1 (Z0 4) (Z6)))))) (Z6))) (Y6))))) (Z8 (X7 (Z2r))) (X4)) (Z8 (V2 (Z5m (Z03 (W4 h.eq (Z0 2) (Y4)) (Z0l (X0 (Y8 (h.callP K_is_lost_from (by decide)) rfl Fx.g_is_lost_from K_is_lost_from.kp (Z1 (Z0 0) (Z1 (Z0 1) (Z1 (Z0 4) (Z6))))))))) (Z8 (X7 (Z2r))) (X4))))) (Z8 (X7 (Z2r)))
def Y3g:List Str:=["tool", "lets", "let", "some", "fault"]
theorem Z9b:Y3g.Nodup:=by decide +kernel
theorem X5z:FnScope Y3g ["tool", "lets"] (defScope Z41):=⟨rfl,rfl,rfl,Z9b,rfl,by decide +kernel,by decide +kernel⟩
def X16:MS:=Y0 (V0 2 (Z9 (Y7 1 (X5 [] (callP g_need_lets))) (Z3 (Z4 1) (Z7)))) (Y0 (V0 3 (X6 ["Closure"] "order" (Z9 (Y7 2 (X5 [] (made "Closure" mkM Z0b))) (Z3 (Z4 0) (Z3 (Z4 2) (Z7)))))) (W3 (Z9 X0n (Z3 (Z8m (.nm 4) (Z05 (m_c (.tup ((["again", "fallen", "lost", "strange", "stuck", "vain"]:List Str).map D.str)))) (X8 (Z9 (Y7 4 (X5 [] (callP g_is_met))) (Z3 (Z4 0) (Z3 (Z4 2) (Z3 (Z4 4) (Z3 (Z4 3) (Z7))))))) (Z4 4) [4]) (Z7)))))
def g_faults:List D→PR:=Z53 5 X16
include Fx in
theorem Y9p (K_need_lets:Kept P HasW.w K mg base 2 (He.ga K "need_lets") (spP K 1 g_need_lets)) (K_Closure_init:Kept P HasW.w K mg base 9 (He.ma K (He.ga K "Closure") "__init__") (spE K 3 Z0b)) (K_is_met:Kept P HasW.w K mg base 7 (He.ga K "is_met") (spP K 4 g_is_met)) (F:FunD K "faults" "faults" (defArgs Z41) (defBody Z41) (defScope Z41) dl [] f fd):FnG P HasW.w K mg base 11 f fd ["tool", "lets"] (spP K 2 g_faults):=fnP F X5z fun cdv A outer s H E gu room=>by
  have h:Here (cxB P HasW.w K mg base Y3g "faults" (defScope Z41) f cdv A outer s H E) (wxE E) 10:=W0 gu room
  unfold X16
  exact Z5 (W2 (i:=2) Z9b rfl (by first | exact Or.inl rfl | exact Or.inr rfl) (Y8 (h.callP K_need_lets (by decide)) rfl Fx.g_need_lets K_need_lets.kp (Z1 (Z0 1) (Z6)))) (Z5 (W2 (i:=3) Z9b rfl (by first | exact Or.inl rfl | exact Or.inr rfl) (Y5 ["Closure"] Fx.at_Closure_order (Y8 (h.make X3n (n:=2) Fx.M_Closure K_Closure_init (by decide)) rfl Fx.g_Closure Fx.M_Closure.kp (Z1 (Z0 0) (Z1 (Z0 2) (Z6)))))) (Z8 (X7 (Z2v call_tuple_of Y1z rfl Fx.f_tuple (Z1 (Z5d (own:=[("fault",4)]) (t:=(.nm 4)) rfl Z9b (Q1 (Y1h rfl Fx.g_FAULTS Fx.v_FAULTS)) (blkOk_by (N:=Y3g) (sc:=defScope Z41) (by decide +kernel)) (by decide) (fun _ _ _ _ _=>Y2 (i:=4) Z9b rfl (by first | exact Or.inl rfl | exact Or.inr rfl)) (fun _ _ _ _ _=>Z4g (X0 (Y8 ((h.blk _ _ _ _ _).callP K_is_met (by decide)) rfl Fx.g_is_met K_is_met.kp (Z1 (Z0 0) (Z1 (Z0 2) (Z1 (Z0 4) (Z1 (Z0 3) (Z6)))))))) (fun _ _ _ _ _=>Z0 4)) (Z6))))))
def Y0c:List Str:=["tool", "lets"]
theorem Y9c:Y0c.Nodup:=by decide +kernel
theorem X0a:FnScope Y0c ["tool", "lets"] (defScope Z22):=⟨rfl,rfl,rfl,Y9c,rfl,by decide +kernel,by decide +kernel⟩
def Y0d:MS:=W3 (Z9 X0n (Z3 (Z9 Z83 (Z3 (X6 ["Closure"] "order" (Z9 (Y7 2 (X5 [] (made "Closure" mkM Z0b))) (Z3 (Z4 0) (Z3 (Z9 (Y7 1 (X5 [] (callP g_need_lets))) (Z3 (Z4 1) (Z7))) (Z7))))) (Z7))) (Z7)))
def g_standings:List D→PR:=Z53 2 Y0d
include Fx in
theorem Y22 (K_Closure_init:Kept P HasW.w K mg base 9 (He.ma K (He.ga K "Closure") "__init__") (spE K 3 Z0b)) (K_need_lets:Kept P HasW.w K mg base 2 (He.ga K "need_lets") (spP K 1 g_need_lets)) (F:FunD K "standings" "standings" (defArgs Z22) (defBody Z22) (defScope Z22) dl [] f fd):FnG P HasW.w K mg base 11 f fd ["tool", "lets"] (spP K 2 g_standings):=fnP F X0a fun cdv A outer s H E gu room=>by
  have h:Here (cxB P HasW.w K mg base Y0c "standings" (defScope Z22) f cdv A outer s H E) (wxE E) 10:=W0 gu room
  unfold Y0d
  exact Z8 (X7 (Z2v call_tuple_of Y1z rfl Fx.f_tuple (Z1 (U8 (X3j h.u65) X4d rfl Fx.f_sorted (Z1 (Y5 ["Closure"] Fx.at_Closure_order (Y8 (h.make X3n (n:=2) Fx.M_Closure K_Closure_init (by decide)) rfl Fx.g_Closure Fx.M_Closure.kp (Z1 (Z0 0) (Z1 (Y8 (h.callP K_need_lets (by decide)) rfl Fx.g_need_lets K_need_lets.kp (Z1 (Z0 1) (Z6))) (Z6))))) (Z6))) (Z6))))
def Z8t:List Str:=["fault"]
theorem Y7s:Z8t.Nodup:=by decide +kernel
theorem Y78:FnScope Z8t ["fault"] (defScope Z2j):=⟨rfl,rfl,rfl,Y7s,rfl,by decide +kernel,by decide +kernel⟩
def Y2s:MS:=Z02 (Z0e (X8 (Z9 (Y7 2 (X5 [] (callP g_is_word))) (Z3 (Z4 0) (Z3 (m_c (.tup ((["again", "fallen", "lost", "strange", "stuck", "vain"]:List Str).map D.str))) (Z7)))))) (Y72 "InvalidFault") (V3)
def g_need_fault:List D→PR:=Z53 1 Y2s
include Fx in
theorem Y7z (K_is_word:Kept P HasW.w K mg base 1 (He.ga K "is_word") (spP K 2 g_is_word)) (F:FunD K "need_fault" "need_fault" (defArgs Z2j) (defBody Z2j) (defScope Z2j) dl [] f fd):FnG P HasW.w K mg base 2 f fd ["fault"] (spP K 1 g_need_fault):=fnP F Y78 fun cdv A outer s H E gu room=>by
  have h:Here (cxB P HasW.w K mg base Z8t "need_fault" (defScope Z2j) f cdv A outer s H E) (wxE E) 1:=W0 gu room
  unfold Y2s
  exact Z8 (V2 (Z0o (X0 (Y8 (h.callP K_is_word (by decide)) rfl Fx.g_is_word K_is_word.kp (Z1 (Z0 0) (Z1 (Y1h rfl Fx.g_FAULTS Fx.v_FAULTS) (Z6)))))) (Z8 (Y85 rfl h Fx.e0_InvalidFault Fx.g_InvalidFault rfl)) (X4))
def Y3q:List Str:=["tool", "lets", "fault", "let"]
theorem Y6y:Y3q.Nodup:=by decide +kernel
theorem X3u:FnScope Y3q ["tool", "lets", "fault"] (defScope Z4l):=⟨rfl,rfl,rfl,Y6y,rfl,by decide +kernel,by decide +kernel⟩
def Y8f:MS:=Y0 (V0 3 (Z9 (Y7 1 (X5 [] (callP g_need_lets))) (Z3 (Z4 1) (Z7)))) (Y0 (V9 (Z9 (Y7 1 (X5 [] (callP g_need_fault))) (Z3 (Z4 2) (Z7)))) (W3 (Z9 (Y7 4 (X5 [] (callP g_is_met))) (Z3 (Z4 0) (Z3 (Z4 3) (Z3 (Z4 2) (Z3 (X6 ["Closure"] "order" (Z9 (Y7 2 (X5 [] (made "Closure" mkM Z0b))) (Z3 (Z4 0) (Z3 (Z4 3) (Z7))))) (Z7))))))))
def g_happens:List D→PR:=Z53 4 Y8f
include Fx in
theorem Y61 (K_need_lets:Kept P HasW.w K mg base 2 (He.ga K "need_lets") (spP K 1 g_need_lets)) (K_need_fault:Kept P HasW.w K mg base 2 (He.ga K "need_fault") (spP K 1 g_need_fault)) (K_is_met:Kept P HasW.w K mg base 7 (He.ga K "is_met") (spP K 4 g_is_met)) (K_Closure_init:Kept P HasW.w K mg base 9 (He.ma K (He.ga K "Closure") "__init__") (spE K 3 Z0b)) (F:FunD K "happens" "happens" (defArgs Z4l) (defBody Z4l) (defScope Z4l) dl [] f fd):FnG P HasW.w K mg base 11 f fd ["tool", "lets", "fault"] (spP K 3 g_happens):=fnP F X3u fun cdv A outer s H E gu room=>by
  have h:Here (cxB P HasW.w K mg base Y3q "happens" (defScope Z4l) f cdv A outer s H E) (wxE E) 10:=W0 gu room
  unfold Y8f
  exact Z5 (W2 (i:=3) Y6y rfl (by first | exact Or.inl rfl | exact Or.inr rfl) (Y8 (h.callP K_need_lets (by decide)) rfl Fx.g_need_lets K_need_lets.kp (Z1 (Z0 1) (Z6)))) (Z5 (W8 (Y8 (h.callP K_need_fault (by decide)) rfl Fx.g_need_fault K_need_fault.kp (Z1 (Z0 2) (Z6)))) (Z8 (X7 (Y8 (h.callP K_is_met (by decide)) rfl Fx.g_is_met K_is_met.kp (Z1 (Z0 0) (Z1 (Z0 3) (Z1 (Z0 2) (Z1 (Y5 ["Closure"] Fx.at_Closure_order (Y8 (h.make X3n (n:=2) Fx.M_Closure K_Closure_init (by decide)) rfl Fx.g_Closure Fx.M_Closure.kp (Z1 (Z0 0) (Z1 (Z0 3) (Z6))))) (Z6)))))))))
def Z7q:List Str:=["self", "tool", "lets", "closure"]
theorem Y5o:Z7q.Nodup:=by decide +kernel
theorem Y53:FnScope Z7q ["self", "tool", "lets", "closure"] (defScope Z1v):=⟨rfl,rfl,rfl,Y5o,rfl,by decide +kernel,by decide +kernel⟩
def Y0v:MS:=Y0 (Z3p ["Teller"] "maker" (Z4 0) (Z4 1)) (Y0 (Z3p ["Teller"] "lets" (Z4 0) (Z4 2)) (Y0 (Z3p ["Teller"] "closure" (Z4 0) (Z4 3)) (Y0 (Z3p ["Teller"] "events" (Z4 0) (Z4j (Z7))) (Y0 (Z3p ["Teller"] "at" (Z4 0) (Y4n)) (Y0 (Z3p ["Teller"] "number" (Z4 0) (X6z (m_c (.int 1)))) (Y0 (Z3p ["Teller"] "many_keys" (Z4 0) (m_c (.int 0))) (Y0 (Z3p ["Teller"] "many_strangers" (Z4 0) (m_c (.int 0))) (Y0 (Z3p ["Teller"] "seen" (Z4 0) (X49)) (Z3p ["Teller"] "owner" (Z4 0) (Y4n))))))))))
def Z72:List X→Sto→R X:=Y0p 4 Y0v
include Fx in
theorem Y5r  (F:FunD K "__init__" "Teller.__init__" (defArgs Z1v) (defBody Z1v) (defScope Z1v) dl [] f fd):FnG P HasW.w K mg base 1 f fd ["self", "tool", "lets", "closure"] (spE K 4 Z72):=fnE F Y53 fun cdv A outer s H E gu room=>by
  have h:Here (cxB P HasW.w K mg base Z7q "Teller.__init__" (defScope Z1v) f cdv A outer s H E) (wxE E) 0:=W0 gu room
  unfold Y0v
  exact Z5 (Z1o ["Teller"] Fx.at_Teller_maker (Z0 0) (Z0 1)) (Z5 (Z1o ["Teller"] Fx.at_Teller_lets (Z0 0) (Z0 2)) (Z5 (Z1o ["Teller"] Fx.at_Teller_closure (Z0 0) (Z0 3)) (Z5 (Z1o ["Teller"] Fx.at_Teller_events (Z0 0) (Z26 (Z6))) (Z5 (Z1o ["Teller"] Fx.at_Teller_at (Z0 0) (Y3m)) (Z5 (Z1o ["Teller"] Fx.at_Teller_number (Z0 0) (X5a (Y6))) (Z5 (Z1o ["Teller"] Fx.at_Teller_many_keys (Z0 0) (Y6)) (Z5 (Z1o ["Teller"] Fx.at_Teller_many_strangers (Z0 0) (Y6)) (Z5 (Z1o ["Teller"] Fx.at_Teller_seen (Z0 0) (X63)) (Z8 (Z1o ["Teller"] Fx.at_Teller_owner (Z0 0) (Y3m)))))))))))
def Z4n:List Str:=["self", "many", "found"]
theorem Z4h:Z4n.Nodup:=by decide +kernel
theorem Y0m:FnScope Z4n ["self"] (defScope Q9):=⟨rfl,rfl,rfl,Z4h,rfl,by decide +kernel,by decide +kernel⟩
def Z6n:MS:=Y0 (V0 1 (Z9 Z9j (Z3 (m_c (.str "bcdfghijklmnopqrstuvwxyz")) (Z7)))) (Y0 (V0 2 (Y3 Z7o (Y3 Z7o (m_c (.str "k")) (Z18 (m_c (.str "bcdfghijklmnopqrstuvwxyz")) (Y3 Y7h (X6 ["Teller"] "many_keys" (Z4 0)) (Z4 1)))) (Z18 (m_c (.str "bcdfghijklmnopqrstuvwxyz")) (Y3 X20 (X6 ["Teller"] "many_keys" (Z4 0)) (Z4 1))))) (Y0 (Y3n "Teller" "many_keys" W0m (Z4 0) (m_c (.int 1))) (Y0 (Y24 (X6 ["Teller"] "owner" (Z4 0)) (Z4 2) (m_c .non)) (Y3c (Z4 2)))))
def U1:List X→Sto→R X:=Y0p 3 Z6n
include Fx in
theorem Y0j  (F:FunD K "fresh_key" "Teller.fresh_key" (defArgs Q9) (defBody Q9) (defScope Q9) dl [] f fd):FnG P HasW.w K mg base 1 f fd ["self"] (spE K 1 U1):=fnE F Y0m fun cdv A outer s H E gu room=>by
  have h:Here (cxB P HasW.w K mg base Z4n "Teller.fresh_key" (defScope Q9) f cdv A outer s H E) (wxE E) 0:=W0 gu room
  unfold Z6n
  exact Z5 (W2 (i:=1) Z4h rfl (by first | exact Or.inl rfl | exact Or.inr rfl) (U8 Z35 Z36 rfl Fx.f_len (Z1 (Z1f rfl Fx.s_LETTERS_tales) (Z6)))) (Z5 (W2 (i:=2) Z4h rfl (by first | exact Or.inl rfl | exact Or.inr rfl) (Z8p h.add (Z8p h.add (Y4) (U6 (Z1f rfl Fx.s_LETTERS_tales) (Z8p h.fdiv (Y5 ["Teller"] Fx.at_Teller_many_keys (Z0 0)) (Z0 1)))) (U6 (Z1f rfl Fx.s_LETTERS_tales) (Z8p h.mod (Y5 ["Teller"] Fx.at_Teller_many_keys (Z0 0)) (Z0 1))))) (Z5 (Y4r (C := "Teller") Fx.at_Teller_many_keys (Z0 0) (Y6) ip_add Y9f) (Z5 (Y0g h.u1 (Y5 ["Teller"] Fx.at_Teller_owner (Z0 0)) (Z0 2) (Z0j)) (Z8 (Z87 (Z0 2))))))
def Z5y:List Str:=["self", "standing", "found", "before", "step"]
theorem Z2u:Z5y.Nodup:=by decide +kernel
theorem Y2j:FnScope Z5y ["self", "standing"] (defScope Z0u):=⟨rfl,rfl,rfl,Z2u,rfl,by decide +kernel,by decide +kernel⟩
def Z8e:MS:=Y0 (V0 2 (Z4j (Z7))) (Y0 (Y73 (Q0 (Y3 X9e (X2u (X6 ["Closure"] "ahead" (X6 ["Teller"] "closure" (Z4 0))) (Z4 1)) (m_c .non))) (Y0 (Z8c (.tp [(.nm 3),(.nm 4)]) (X2u (X6 ["Closure"] "ahead" (X6 ["Teller"] "closure" (Z4 0))) (Z4 1))) (Y0 (V9 (Z9l Z2q Z0f (Z4 2) (Z3 (Z1n (Z3 (Z4 3) (Z3 (Z4 4) (Z7)))) (Z7)))) (V0 1 (Z4 3))))) (Y3c (W1q (Z4 2))))
def Z50:List X→Sto→R X:=Y0p 5 Z8e
include Fx in
theorem Y2d  (F:FunD K "path_to" "Teller.path_to" (defArgs Z0u) (defBody Z0u) (defScope Z0u) dl [] f fd):FnG P HasW.w K mg base 1 f fd ["self", "standing"] (spE K 2 Z50):=fnE F Y2j fun cdv A outer s H E gu room=>by
  have h:Here (cxB P HasW.w K mg base Z5y "Teller.path_to" (defScope Z0u) f cdv A outer s H E) (wxE E) 0:=W0 gu room
  unfold Z8e
  exact Z5 (W2 (i:=2) Z2u rfl (by first | exact Or.inl rfl | exact Or.inr rfl) (Z26 (Z6))) (Z5 (Y7q Z3h (W4 h.isn (X1b rfl h.u1 (Y5 ["Closure"] Fx.at_Closure_ahead (Y5 ["Teller"] Fx.at_Teller_closure (Z0 0))) (Z0 1)) (Z0j)) (Z5 (Z6h (X1b rfl h.u1 (Y5 ["Closure"] Fx.at_Closure_ahead (Y5 ["Teller"] Fx.at_Teller_closure (Z0 0))) (Z0 1)) (Z2t rfl (Y9 (Y2 (i:=3) Z2u rfl (by first | exact Or.inl rfl | exact Or.inr rfl)) (Y9 (Y2 (i:=4) Z2u rfl (by first | exact Or.inl rfl | exact Or.inr rfl)) (Z07))))) (Z5 (W8 (Z45 PySem.F.slot_list_append PySem.F.type_list_append mt_append Z0p (Z0 2) (Z1 (Z0k (Z1 (Z0 3) (Z1 (Z0 4) (Z6)))) (Z6)))) (Z8 (W2 (i:=1) Z2u rfl (by first | exact Or.inl rfl | exact Or.inr rfl) (Z0 3)))))) (Z8 (Z87 (W1v (Z0 2)))))
def Z3x:List Str:=["self", "key", "place"]
theorem Z4x:Z3x.Nodup:=by decide +kernel
theorem Y1r:FnScope Z3x ["self", "key"] (defScope Q3):=⟨rfl,rfl,rfl,Z4x,rfl,by decide +kernel,by decide +kernel⟩
def Z7b:MS:=Y3c (Z9 Z6s (Z3 (Z8m (.nm 2) (Y4i (X6 ["Teller"] "at" (Z4 0))) (Q0 (Y3 eqD (Z7e (X6 ["Teller"] "at" (Z4 0)) (Z4 2)) (Z4 1))) (Z9 X38 (Z3 (Z4 2) (Z7))) [2]) (Z7)))
def V1:List X→Sto→R X:=Y0p 3 Z7b
include Fx in
theorem Y1o  (F:FunD K "those_at" "Teller.those_at" (defArgs Q3) (defBody Q3) (defScope Q3) dl [] f fd):FnG P HasW.w K mg base 1 f fd ["self", "key"] (spE K 2 V1):=fnE F Y1r fun cdv A outer s H E gu room=>by
  have h:Here (cxB P HasW.w K mg base Z3x "Teller.those_at" (defScope Q3) f cdv A outer s H E) (wxE E) 0:=W0 gu room
  unfold Z7b
  exact Z8 (Z87 (U8 (Bv.CallR.or cr_sortedI cr_sortedS) Z9h rfl Fx.f_sorted (Z1 (Z5d (own:=[("place",2)]) (t:=(.nm 2)) rfl Z4x (Y19 (Y5 ["Teller"] Fx.at_Teller_at (Z0 0))) (blkOk_by (N:=Z3x) (sc:=defScope Q3) (by decide +kernel)) (by decide) (fun _ _ _ _ _=>Y2 (i:=2) Z4x rfl (by first | exact Or.inl rfl | exact Or.inr rfl)) (fun _ _ _ _ _=>Z4g (W4 (h.blk _ _ _ _ _).eq (Z51 (h.blk _ _ _ _ _).u1 (Y5 ["Teller"] Fx.at_Teller_at (Z0 0)) (Z0 2)) (Z0 1))) (fun _ _ _ _ _=>Z2v call_int1 X3g rfl Fx.f_int (Z1 (Z0 2) (Z6)))) (Z6))))
def Z1p:List Str:=["self", "key", "now", "place", "one"]
theorem Z0s:Z1p.Nodup:=by decide +kernel
theorem Z7k:FnScope Z1p ["self", "key"] (defScope V4):=⟨rfl,rfl,rfl,Z0s,rfl,by decide +kernel,by decide +kernel⟩
def Z4q:MS:=Y0 (V0 2 (V5 "Teller" "those_at" (Y7 2 (X5 [] V1)) (Z4 0) (Z3 (Z4 1) (Z7)))) (Y3c (Z18 (W34 0 "seen" (Z8m (.tp [(.nm 3),(.nm 4)]) (X4v (X6 ["Teller"] "seen" (Z4 0))) (Z0z (Q0 (Y3 eqD (Z4 4) (Z4 1))) (Z0z (Q0 (Y3 neD (Z4 3) (m_c (.int 99)))) (Q0 (Y3 X8d (Z4 3) (Z4 2))))) (Z4 3) [3,4])) (m_c (.int 0))))
def Z24:List X→Sto→R X:=Y0p 5 Z4q
include Fx in
theorem Z7i (K_Teller_those_at:Kept P HasW.w K mg base 1 (He.ma K (He.ga K "Teller") "those_at") (spE K 2 V1)) (F:FunD K "elder_stranger" "Teller.elder_stranger" (defArgs V4) (defBody V4) (defScope V4) dl [] f fd):FnG P HasW.w K mg base 2 f fd ["self", "key"] (spE K 2 Z24):=fnE F Z7k fun cdv A outer s H E gu room=>by
  have h:Here (cxB P HasW.w K mg base Z1p "Teller.elder_stranger" (defScope V4) f cdv A outer s H E) (wxE E) 1:=W0 gu room
  unfold Z4q
  exact Z5 (W2 (i:=2) Z0s rfl (by first | exact Or.inl rfl | exact Or.inr rfl) (W9 (h.callE K_Teller_those_at (by decide)) Fx.c_Teller Fx.m_Teller_those_at (Z0 0) (Z1 (Z0 1) (Z6)))) (Z8 (Z87 (U6 (W3b 0 "seen" (Z5d (own:=[("place",3),("one",4)]) (t:=(.tp [(.nm 3),(.nm 4)])) rfl Z0s (X64 (Y5 ["Teller"] Fx.at_Teller_seen (Z0 0))) (blkOk_by (N:=Z1p) (sc:=defScope V4) (by decide +kernel)) (by decide) (fun _ _ _ _ _=>Z2t rfl (Y9 (Y2 (i:=3) Z0s rfl (by first | exact Or.inl rfl | exact Or.inr rfl)) (Y9 (Y2 (i:=4) Z0s rfl (by first | exact Or.inl rfl | exact Or.inr rfl)) (Z07)))) (fun _ _ _ _ _=>Z4g (Z5m (Z03 (W4 (h.blk _ _ _ _ _).eq (Z0 4) (Z0 1)) (Z03 (W4 (h.blk _ _ _ _ _).ne (Z0 3) (Z6q rfl Fx.i_WATCHED)) (Z0l (W4 (h.blk _ _ _ _ _).nin (Z0 3) (Z0 2))))))) (fun _ _ _ _ _=>Z0 3))) (Y6))))
def Z54:List Str:=["self", "before", "step", "key", "kind", "late", "place", "is_late", "one"]
theorem Z1t:Z54.Nodup:=by decide +kernel
theorem Y52:FnScope Z54 ["self", "before", "step", "key", "kind"] (defScope Z1c):=⟨rfl,rfl,rfl,Z1t,rfl,by decide +kernel,by decide +kernel⟩
def Y0u:MS:=Y0 (Z02 (Q0 (Y3 eqD (Z4 4) (m_c (.str "mine")))) (Y1p 6 7 (Z3 (m_c (.int 99)) (Z3 (X09 (Z18 (Z4 1) (m_c (.int 2)))) (Z7)))) (Z02 (Q0 (Y3 eqD (Z4 4) (m_c (.str "others")))) (Y0 (Y1p 6 7 (Z3 (Z18 (Z8m (.nm 8) (Z05 (V5 "Teller" "those_at" (Y7 2 (X5 [] V1)) (Z4 0) (Z3 (Z4 3) (Z7)))) (Q0 (Y3 neD (Z4 8) (m_c (.int 99)))) (Z4 8) [8]) (m_c (.int 0))) (Z3 (m_c (.bl false)) (Z7)))) (V0 6 (Y1k (Z0z (Q0 (Y3 eqD (Z18 (Z4 1) (m_c (.int 1))) (m_c (.str "theirs")))) (Q0 (Y3 eqD (Z18 (X6 ["Step"] "later" (Z4 2)) (m_c (.int 1))) (m_c (.str "theirs"))))) (Z7e (X6 ["Teller"] "owner" (Z4 0)) (Z4 3)) (Z4 6)))) (Y1p 6 7 (Z3 (V5 "Teller" "elder_stranger" (Y7 2 (X5 [] Z24)) (Z4 0) (Z3 (Z4 3) (Z7))) (Z3 (m_c (.bl true)) (Z7)))))) (Y0 (V0 5 (Y1k (X8 (Z4 7)) (Y3 Z7o (m_c (.str " ")) (Z9 Y4h (Z3 (X2u (X6 ["Teller"] "seen" (Z4 0)) (Z1n (Z3 (Z4 6) (Z3 (Z4 3) (Z7))))) (Z7)))) (m_c (.str "")))) (Y0 (V9 (Z9l Z2q Z0f (X6 ["Story", "Teller"] "events" (Z4 0)) (Z3 (Y3 Z7o (Y3 Z7o (m_c (.str "give ")) (Z9 Y4h (Z3 (Z4 6) (Z7)))) (Z4 5)) (Z7)))) (Z02 (X8 (Z18 (V5 "Tool" "becomes" (Y7 3 (X5 [] (callP U4))) (X6 ["Closure", "Teller"] "maker" (Z4 0)) (Z3 (m_c (.str "give")) (Z3 (Z18 (Z4 1) (m_c (.int 0))) (Z7)))) (m_c (.int 1)))) (Y24 (X6 ["Teller"] "owner" (Z4 0)) (Z4 3) (Z4 6)) (V3))))
def Z71:List X→Sto→R X:=Y0p 9 Y0u
include Fx in
theorem Y5q (K_Teller_those_at:Kept P HasW.w K mg base 1 (He.ma K (He.ga K "Teller") "those_at") (spE K 2 V1)) (K_Teller_elder_stranger:Kept P HasW.w K mg base 2 (He.ma K (He.ga K "Teller") "elder_stranger") (spE K 2 Z24)) (K_Tool_becomes:Kept P HasW.w K mg base 3 (He.ma K (He.ga K "Tool") "becomes") (spP K 3 U4)) (F:FunD K "give" "Teller.give" (defArgs Z1c) (defBody Z1c) (defScope Z1c) dl [] f fd):FnG P HasW.w K mg base 4 f fd ["self", "before", "step", "key", "kind"] (spE K 5 Z71):=fnE F Y52 fun cdv A outer s H E gu room=>by
  have h:Here (cxB P HasW.w K mg base Z54 "Teller.give" (defScope Z1c) f cdv A outer s H E) (wxE E) 3:=W0 gu room
  unfold Y0u
  exact Z5 (V2 (W4 h.eq (Z0 4) (Y4)) (Z8 (Z7f rfl Z1t (i:=6) (j:=7) rfl rfl (by decide) rfl rfl (Z1 (Z6q rfl Fx.i_WATCHED) (Z1 (X2x (U6 (Z0 1) (Y6))) (Z6))))) (Z8 (V2 (W4 h.eq (Z0 4) (Y4)) (Z5 (Z7f rfl Z1t (i:=6) (j:=7) rfl rfl (by decide) rfl rfl (Z1 (U6 (Z5d (own:=[("one",8)]) (t:=(.nm 8)) rfl Z1t (Q1 (W9 (h.callE K_Teller_those_at (by decide)) Fx.c_Teller Fx.m_Teller_those_at (Z0 0) (Z1 (Z0 3) (Z6)))) (blkOk_by (N:=Z54) (sc:=defScope Z1c) (by decide +kernel)) (by decide) (fun _ _ _ _ _=>Y2 (i:=8) Z1t rfl (by first | exact Or.inl rfl | exact Or.inr rfl)) (fun _ _ _ _ _=>Z4g (W4 (h.blk _ _ _ _ _).ne (Z0 8) (Z6q rfl Fx.i_WATCHED))) (fun _ _ _ _ _=>Z0 8)) (Y6)) (Z1 (Z2r) (Z6)))) (Z8 (W2 (i:=6) Z1t rfl (by first | exact Or.inl rfl | exact Or.inr rfl) (Z44 (Z5m (Z03 (W4 h.eq (U6 (Z0 1) (Y6)) (Z1f rfl Fx.s_THEIRS)) (Z0l (W4 h.eq (U6 (Y5 ["Step"] Fx.at_Step_later (Z0 2)) (Y6)) (Z1f rfl Fx.s_THEIRS))))) (Z51 h.u1 (Y5 ["Teller"] Fx.at_Teller_owner (Z0 0)) (Z0 3)) (Z0 6))))) (Z8 (Z7f rfl Z1t (i:=6) (j:=7) rfl rfl (by decide) rfl rfl (Z1 (W9 (h.callE K_Teller_elder_stranger (by decide)) Fx.c_Teller Fx.m_Teller_elder_stranger (Z0 0) (Z1 (Z0 3) (Z6))) (Z1 (Z2r) (Z6)))))))) (Z5 (W2 (i:=5) Z1t rfl (by first | exact Or.inl rfl | exact Or.inr rfl) (Z44 (X0 (Z0 7)) (Z8p h.add (Y4) (Z2v Y8m Y8k rfl Fx.f_str (Z1 (X1b rfl h.u1 (Y5 ["Teller"] Fx.at_Teller_seen (Z0 0)) (Z0k (Z1 (Z0 6) (Z1 (Z0 3) (Z6))))) (Z6)))) (Y4))) (Z5 (W8 (Z45 PySem.F.slot_list_append PySem.F.type_list_append mt_append Z0p (Y5 ["Story", "Teller"] Fx.at_Story_Teller_events (Z0 0)) (Z1 (Z8p h.add (Z8p h.add (Y4) (Z2v Y8m Y8k rfl Fx.f_str (Z1 (Z0 6) (Z6)))) (Z0 5)) (Z6)))) (Z8 (V2 (X0 (U6 (W9 (h.callP K_Tool_becomes (by decide)) Fx.c_Tool Fx.m_Tool_becomes (Y5 ["Closure", "Teller"] Fx.at_Closure_Teller_maker (Z0 0)) (Z1 (Y4) (Z1 (U6 (Z0 1) (Y6)) (Z6)))) (Y6))) (Z8 (Y0g h.u1 (Y5 ["Teller"] Fx.at_Teller_owner (Z0 0)) (Z0 3) (Z0 6))) (X4)))))
def Z5i:List Str:=["self", "before", "key", "kind", "place", "some", "one"]
theorem Z3l:Z5i.Nodup:=by decide +kernel
theorem Y46:FnScope Z5i ["self", "before", "key", "kind"] (defScope Z00):=⟨rfl,rfl,rfl,Z3l,rfl,by decide +kernel,by decide +kernel⟩
def Z9q:MS:=Y0 (V0 4 (m_c (.int 99))) (Y0 (Z02 (Q0 (Y3 eqD (Z4 3) (m_c (.str "others")))) (Y0 (V0 5 (Z8m (.nm 6) (Z05 (V5 "Teller" "those_at" (Y7 2 (X5 [] V1)) (Z4 0) (Z3 (Z4 2) (Z7)))) (Q0 (Y3 neD (Z4 6) (m_c (.int 99)))) (Z4 6) [6])) (V0 4 (Y1k (Q0 (Y3 eqD (Z18 (Z4 1) (m_c (.int 1))) (m_c (.str "theirs")))) (Z7e (X6 ["Teller"] "owner" (Z4 0)) (Z4 2)) (Z18 (Z4 5) (m_c (.int 0)))))) (V3)) (V9 (Z9l Z2q Z0f (X6 ["Story", "Teller"] "events" (Z4 0)) (Z3 (Y3 Z7o (m_c (.str "check ")) (Z9 Y4h (Z3 (Z4 4) (Z7)))) (Z7)))))
def Z67:List X→Sto→R X:=Y0p 7 Z9q
include Fx in
theorem Y4y (K_Teller_those_at:Kept P HasW.w K mg base 1 (He.ma K (He.ga K "Teller") "those_at") (spE K 2 V1)) (F:FunD K "check" "Teller.check" (defArgs Z00) (defBody Z00) (defScope Z00) dl [] f fd):FnG P HasW.w K mg base 2 f fd ["self", "before", "key", "kind"] (spE K 4 Z67):=fnE F Y46 fun cdv A outer s H E gu room=>by
  have h:Here (cxB P HasW.w K mg base Z5i "Teller.check" (defScope Z00) f cdv A outer s H E) (wxE E) 1:=W0 gu room
  unfold Z9q
  exact Z5 (W2 (i:=4) Z3l rfl (by first | exact Or.inl rfl | exact Or.inr rfl) (Z6q rfl Fx.i_WATCHED)) (Z5 (V2 (W4 h.eq (Z0 3) (Y4)) (Z5 (Z6t (i:=5) (own:=[("one",6)]) (t:=(.nm 6)) rfl Z3l rfl rfl rfl (Q1 (W9 (h.callE K_Teller_those_at (by decide)) Fx.c_Teller Fx.m_Teller_those_at (Z0 0) (Z1 (Z0 2) (Z6)))) (blkOk_by (N:=Z5i) (sc:=defScope Z00) (by decide +kernel)) (by decide) (fun _ _ _ _ _=>Y2 (i:=6) Z3l rfl (by first | exact Or.inl rfl | exact Or.inr rfl)) (fun _ _ _ _ _=>Z4g (W4 (h.blk _ _ _ _ _).ne (Z0 6) (Z6q rfl Fx.i_WATCHED))) (fun _ _ _ _ _=>Z0 6)) (Z8 (W2 (i:=4) Z3l rfl (by first | exact Or.inl rfl | exact Or.inr rfl) (Z44 (W4 h.eq (U6 (Z0 1) (Y6)) (Z1f rfl Fx.s_THEIRS)) (Z51 h.u1 (Y5 ["Teller"] Fx.at_Teller_owner (Z0 0)) (Z0 2)) (U6 (Z0 5) (Y6)))))) (X4)) (Z8 (W8 (Z45 PySem.F.slot_list_append PySem.F.type_list_append mt_append Z0p (Y5 ["Story", "Teller"] Fx.at_Story_Teller_events (Z0 0)) (Z1 (Z8p h.add (Y4) (Z2v Y8m Y8k rfl Fx.f_str (Z1 (Z0 4) (Z6)))) (Z6))))))
def Z23:List Str:=["self"]
theorem Z7g:Z23.Nodup:=by decide +kernel
theorem Z7l:FnScope Z23 ["self"] (defScope V7):=⟨rfl,rfl,rfl,Z7g,rfl,by decide +kernel,by decide +kernel⟩
def Z4r:MS:=Y0 (Y3n "Teller" "many_strangers" W0m (Z4 0) (m_c (.int 1))) (Y3c (Y3 W2v (X6 ["Teller"] "many_strangers" (Z4 0)) (m_c (.int 1))))
def U9:List X→Sto→R X:=Y0p 1 Z4r
include Fx in
theorem Z7j  (F:FunD K "fresh_stranger" "Teller.fresh_stranger" (defArgs V7) (defBody V7) (defScope V7) dl [] f fd):FnG P HasW.w K mg base 1 f fd ["self"] (spE K 1 U9):=fnE F Z7l fun cdv A outer s H E gu room=>by
  have h:Here (cxB P HasW.w K mg base Z23 "Teller.fresh_stranger" (defScope V7) f cdv A outer s H E) (wxE E) 0:=W0 gu room
  unfold Z4r
  exact Z5 (Y4r (C := "Teller") Fx.at_Teller_many_strangers (Z0 0) (Y6) ip_add Y9f) (Z8 (Z87 (Z8p h.sub (Y5 ["Teller"] Fx.at_Teller_many_strangers (Z0 0)) (Y6))))
def Z3j:List Str:=["self", "key", "later", "mark", "whose", "here", "others", "found", "owner", "place"]
theorem U0:Z3j.Nodup:=by decide +kernel
theorem Y3e:FnScope Z3j ["self", "key", "later"] (defScope Z0d):=⟨rfl,rfl,rfl,U0,rfl,by decide +kernel,by decide +kernel⟩
def Z8w:MS:=Y0 (Z8c (.tp [(.nm 3),(.nm 4),(.nm 5),(.nm 6)]) (Z17 (Z4 2) (Y5n) (Z34 (m_c (.int 4))))) (Y0 (V0 7 (Z2b (Z7))) (Y0 (Z02 (X8 (Z4 6)) (Y0 (V0 8 (Z7e (X6 ["Teller"] "owner" (Z4 0)) (Z4 1))) (Y0 (V0 7 (Z8m (.nm 9) (Z05 (V5 "Teller" "those_at" (Y7 2 (X5 [] V1)) (Z4 0) (Z3 (Z4 1) (Z7)))) (Q0 (Y3 neD (Z4 9) (m_c (.int 99)))) (Z4 9) [9])) (Y0 (Z02 (Q0 (Y3 eqD (Z4 4) (m_c (.str "other")))) (V0 7 (Z8m (.nm 9) (Z05 (Z4 7)) (Q0 (Y3 neD (Z4 9) (Z4 8))) (Z4 9) [9])) (V3)) (Y0 (Z02 (Z0z (Q0 (Y3 eqD (Z4 4) (m_c (.str "theirs")))) (Q0 (Y3 X8d (Z4 8) (Z4 7)))) (V0 7 (Y1k (Q0 (Y3 inD (m_c (.str "alike")) (X6 ["Closure", "Teller"] "lets" (Z4 0)))) (Z2b (Z4k (Z4 7) (Z3 (Z4 8) (Z7)))) (Z2b (Z3 (Z4 8) (Z7))))) (V3)) (V0 7 (Y1k (Q0 (Y3 eqD (Z9 Z9j (Z3 (Z4 7) (Z7))) (m_c (.int 0)))) (Z2b (Z3 (V5 "Teller" "fresh_stranger" (X5 [] U9) (Z4 0) Z7) (Z7))) (Z4 7))))))) (V3)) (Y3c (Y1k (X8 (Z4 5)) (Z9 Z6s (Z3 (Z2b (Z4k (Z4 7) (Z3 (m_c (.int 99)) (Z7)))) (Z7))) (Z9 Z6s (Z3 (Z4 7) (Z7)))))))
def Z3k:List X→Sto→R X:=Y0p 10 Z8w
include Fx in
theorem Y29 (K_Teller_those_at:Kept P HasW.w K mg base 1 (He.ma K (He.ga K "Teller") "those_at") (spE K 2 V1)) (K_Teller_fresh_stranger:Kept P HasW.w K mg base 1 (He.ma K (He.ga K "Teller") "fresh_stranger") (spE K 1 U9)) (F:FunD K "wished" "Teller.wished" (defArgs Z0d) (defBody Z0d) (defScope Z0d) dl [] f fd):FnG P HasW.w K mg base 2 f fd ["self", "key", "later"] (spE K 3 Z3k):=fnE F Y3e fun cdv A outer s H E gu room=>by
  have h:Here (cxB P HasW.w K mg base Z3j "Teller.wished" (defScope Z0d) f cdv A outer s H E) (wxE E) 1:=W0 gu room
  unfold Z8w
  exact Z5 (Z6h (Z16 (Z0 2) (Z3d) (Z3e (Y6))) (Z2t rfl (Y9 (Y2 (i:=3) U0 rfl (by first | exact Or.inl rfl | exact Or.inr rfl)) (Y9 (Y2 (i:=4) U0 rfl (by first | exact Or.inl rfl | exact Or.inr rfl)) (Y9 (Y2 (i:=5) U0 rfl (by first | exact Or.inl rfl | exact Or.inr rfl)) (Y9 (Y2 (i:=6) U0 rfl (by first | exact Or.inl rfl | exact Or.inr rfl)) (Z07))))))) (Z5 (W2 (i:=7) U0 rfl (by first | exact Or.inl rfl | exact Or.inr rfl) (Z1g (Z6))) (Z5 (V2 (X0 (Z0 6)) (Z5 (W2 (i:=8) U0 rfl (by first | exact Or.inl rfl | exact Or.inr rfl) (Z51 h.u1 (Y5 ["Teller"] Fx.at_Teller_owner (Z0 0)) (Z0 1))) (Z5 (Z6t (i:=7) (own:=[("place",9)]) (t:=(.nm 9)) rfl U0 rfl rfl rfl (Q1 (W9 (h.callE K_Teller_those_at (by decide)) Fx.c_Teller Fx.m_Teller_those_at (Z0 0) (Z1 (Z0 1) (Z6)))) (blkOk_by (N:=Z3j) (sc:=defScope Z0d) (by decide +kernel)) (by decide) (fun _ _ _ _ _=>Y2 (i:=9) U0 rfl (by first | exact Or.inl rfl | exact Or.inr rfl)) (fun _ _ _ _ _=>Z4g (W4 (h.blk _ _ _ _ _).ne (Z0 9) (Z6q rfl Fx.i_WATCHED))) (fun _ _ _ _ _=>Z0 9)) (Z5 (V2 (W4 h.eq (Z0 4) (Z1f rfl Fx.s_OTHER)) (Z8 (Z6t (i:=7) (own:=[("place",9)]) (t:=(.nm 9)) rfl U0 rfl rfl rfl (Q1 (Z0 7)) (blkOk_by (N:=Z3j) (sc:=defScope Z0d) (by decide +kernel)) (by decide) (fun _ _ _ _ _=>Y2 (i:=9) U0 rfl (by first | exact Or.inl rfl | exact Or.inr rfl)) (fun _ _ _ _ _=>Z4g (W4 (h.blk _ _ _ _ _).ne (Z0 9) (Z0 8))) (fun _ _ _ _ _=>Z0 9))) (X4)) (Z5 (V2 (Z5m (Z03 (W4 h.eq (Z0 4) (Z1f rfl Fx.s_THEIRS)) (Z0l (W4 h.nin (Z0 8) (Z0 7))))) (Z8 (W2 (i:=7) U0 rfl (by first | exact Or.inl rfl | exact Or.inr rfl) (Z44 (W4 h.in_ (Y4) (Y5 ["Closure", "Teller"] Fx.at_Closure_Teller_lets (Z0 0))) (Z1g (Z25 (Z0 7) (Z1 (Z0 8) (Z6)))) (Z1g (Z1 (Z0 8) (Z6)))))) (X4)) (Z8 (W2 (i:=7) U0 rfl (by first | exact Or.inl rfl | exact Or.inr rfl) (Z44 (W4 h.eq (U8 Z35 Z36 rfl Fx.f_len (Z1 (Z0 7) (Z6))) (Y6)) (Z1g (Z1 (Z5l (h.callE K_Teller_fresh_stranger (by decide)) Fx.c_Teller Fx.m_Teller_fresh_stranger (Z0 0)) (Z6))) (Z0 7)))))))) (X4)) (Z8 (Z87 (Z44 (X0 (Z0 5)) (U8 (Bv.CallR.or cr_sortedI cr_sortedS) Z9h rfl Fx.f_sorted (Z1 (Z1g (Z25 (Z0 7) (Z1 (Z6q rfl Fx.i_WATCHED) (Z6)))) (Z6))) (U8 (Bv.CallR.or cr_sortedI cr_sortedS) Z9h rfl Fx.f_sorted (Z1 (Z0 7) (Z6))))))))
def Z4a:List Str:=["self", "places", "place"]
theorem Z5g:Z4a.Nodup:=by decide +kernel
theorem Y2k:FnScope Z4a ["self", "places"] (defScope Z0h):=⟨rfl,rfl,rfl,Z5g,rfl,by decide +kernel,by decide +kernel⟩
def Z8f:MS:=Y3c (X9i (.nm 2) (Y4i (X6 ["Teller"] "at" (Z4 0))) (Q0 (Y3 X8d (Z4 2) (Z4 1))) (Z4 2) (Z7e (X6 ["Teller"] "at" (Z4 0)) (Z4 2)) [2])
def Z29:List X→Sto→R X:=Y0p 3 Z8f
include Fx in
theorem Y2e  (F:FunD K "without" "Teller.without" (defArgs Z0h) (defBody Z0h) (defScope Z0h) dl [] f fd):FnG P HasW.w K mg base 1 f fd ["self", "places"] (spE K 2 Z29):=fnE F Y2k fun cdv A outer s H E gu room=>by
  have h:Here (cxB P HasW.w K mg base Z4a "Teller.without" (defScope Z0h) f cdv A outer s H E) (wxE E) 0:=W0 gu room
  unfold Z8f
  exact Z8 (Z87 (W1t (own:=[("place",2)]) (t:=(.nm 2)) rfl Z5g (Y19 (Y5 ["Teller"] Fx.at_Teller_at (Z0 0))) (blkOk_by (N:=Z4a) (sc:=defScope Z0h) (by decide +kernel)) (by decide) (fun _ _ _ _ _=>Y2 (i:=2) Z5g rfl (by first | exact Or.inl rfl | exact Or.inr rfl)) (fun _ _ _ _ _=>Z4g (W4 (h.blk _ _ _ _ _).nin (Z0 2) (Z0 1))) (fun _ _ _ _ _=>Z0 2) (fun _ _ _ _ _=>Z51 (h.blk _ _ _ _ _).u1 (Y5 ["Teller"] Fx.at_Teller_at (Z0 0)) (Z0 2))))
def Z55:List Str:=["self", "at", "source", "comer", "words", "place", "near", "one"]
theorem Z3a:Z55.Nodup:=by decide +kernel
theorem Y56:FnScope Z55 ["self", "at", "source", "comer"] (defScope Z1d):=⟨rfl,rfl,rfl,Z3a,rfl,by decide +kernel,by decide +kernel⟩
def Y0y:MS:=Y0 (Z3p ["Teller"] "at" (Z4 0) (Z9 Y7j (Z3 (Z4 1) (Z7)))) (Y0 (Y3n "Teller" "number" W0m (Z4 0) (m_c (.int 1))) (Y0 (V0 4 (Z4j (Z7))) (Y0 (Z40 (.nm 5) (Z05 (Z9 Z6s (Z3 (Z8m (.nm 7) (Y4i (Z4 1)) (Z2o) (Z9 X38 (Z3 (Z4 7) (Z7))) [7]) (Z7)))) (Y0 (V0 6 (Y1k (Z5c (Q0 (Y3 isD (Z4 2) (m_c .non))) (Q0 (Y3 neD (Z4 5) (Z4 3)))) (m_c (.str "")) (Y3 Z7o (m_c (.str "<")) (Z4 2)))) (Y0 (V9 (Z9l Z2q Z0f (Z4 4) (Z3 (Y3 Z7o (Y3 Z7o (Y3 Z7o (Z9 Y4h (Z3 (Z4 5) (Z7))) (m_c (.str ":"))) (Z7e (Z4 1) (Z4 5))) (Z4 6)) (Z7)))) (X28 (X6 ["Teller"] "seen" (Z4 0)) (Z1n (Z3 (Z4 5) (Z3 (Z7e (Z4 1) (Z4 5)) (Z7)))) (X6 ["Teller"] "number" (Z4 0)))))) (V9 (Z9l Z2q Z0f (X6 ["Story", "Teller"] "events" (Z4 0)) (Z3 (Y1k (Q0 (Y3 gtD (Z9 Z9j (Z3 (Z4 4) (Z7))) (m_c (.int 0)))) (Y4o X2l (m_c (.str " ")) (Z2b (Z3 (m_c (.str "edition")) (Z4k (Z4 4) (Z7))))) (m_c (.str "edition -"))) (Z7)))))))
def Z3y:List X→Sto→R X:=Y0p 8 Y0y
include Fx in
theorem Z95  (F:FunD K "tell" "Teller.tell" (defArgs Z1d) (defBody Z1d) (defScope Z1d) dl [] f fd):FnG P HasW.w K mg base 1 f fd ["self", "at", "source", "comer"] (spE K 4 Z3y):=fnE F Y56 fun cdv A outer s H E gu room=>by
  have h:Here (cxB P HasW.w K mg base Z55 "Teller.tell" (defScope Z1d) f cdv A outer s H E) (wxE E) 0:=W0 gu room
  unfold Y0y
  exact Z5 (Z1o ["Teller"] Fx.at_Teller_at (Z0 0) (X62 rfl rfl Fx.f_dict (Z1 (Z0 1) (Z6)))) (Z5 (Y4r (C := "Teller") Fx.at_Teller_number (Z0 0) (Y6) ip_add Y9f) (Z5 (W2 (i:=4) Z3a rfl (by first | exact Or.inl rfl | exact Or.inr rfl) (Z26 (Z6))) (Z5 (Z37 Z3h rfl (Q1 (U8 (Bv.CallR.or cr_sortedI cr_sortedS) Z9h rfl Fx.f_sorted (Z1 (Z5d (own:=[("one",7)]) (t:=(.nm 7)) rfl Z3a (Y19 (Z0 1)) (blkOk_by (N:=Z55) (sc:=defScope Z1d) (by decide +kernel)) (by decide) (fun _ _ _ _ _=>Y2 (i:=7) Z3a rfl (by first | exact Or.inl rfl | exact Or.inr rfl)) (fun _ _ _ _ _=>Z08) (fun _ _ _ _ _=>Z2v call_int1 X3g rfl Fx.f_int (Z1 (Z0 7) (Z6)))) (Z6)))) (Y2 (i:=5) Z3a rfl (by first | exact Or.inl rfl | exact Or.inr rfl)) (Z5 (W2 (i:=6) Z3a rfl (by first | exact Or.inl rfl | exact Or.inr rfl) (Z44 (Z5m (Z5s (W4 h.is_ (Z0 2) (Z0j)) (Z38 (W4 h.ne (Z0 5) (Z0 3))))) (Y4) (Z8p h.add (Y4) (Z0 2)))) (Z5 (W8 (Z45 PySem.F.slot_list_append PySem.F.type_list_append mt_append Z0p (Z0 4) (Z1 (Z8p h.add (Z8p h.add (Z8p h.add (Z2v Y8m Y8k rfl Fx.f_str (Z1 (Z0 5) (Z6))) (Y4)) (Z51 h.u1 (Z0 1) (Z0 5))) (Z0 6)) (Z6)))) (Z8 (X1c rfl h.u1 (Y5 ["Teller"] Fx.at_Teller_seen (Z0 0)) (Z0k (Z1 (Z0 5) (Z1 (Z51 h.u1 (Z0 1) (Z0 5)) (Z6)))) (Y5 ["Teller"] Fx.at_Teller_number (Z0 0))))))) (Z8 (W8 (Z45 PySem.F.slot_list_append PySem.F.type_list_append mt_append Z0p (Y5 ["Story", "Teller"] Fx.at_Story_Teller_events (Z0 0)) (Z1 (Z44 (W4 h.gt (U8 Z35 Z36 rfl Fx.f_len (Z1 (Z0 4) (Z6))) (Y6)) (X9m (Y4) (Z1g (Z1 (Y4) (Z25 (Z0 4) (Z6))))) (Y4)) (Z6))))))))
def Z4o:List Str:=["self", "key", "places", "source", "comer", "at", "place"]
theorem Z4c:Z4o.Nodup:=by decide +kernel
theorem Y3d:FnScope Z4o ["self", "key", "places", "source", "comer"] (defScope Z0q):=⟨rfl,rfl,rfl,Z4c,rfl,by decide +kernel,by decide +kernel⟩
def Z8v:MS:=Y0 (V0 5 (V5 "Teller" "without" (Y7 2 (X5 [] Z29)) (Z4 0) (Z3 (V5 "Teller" "those_at" (Y7 2 (X5 [] V1)) (Z4 0) (Z3 (Z4 1) (Z7))) (Z7)))) (Y0 (V9 (Z9l X6t X4r (Z4 5) (Z3 (W0p (.nm 6) (Z05 (Z4 2)) (Z2o) (Z4 6) (Z4 1) [6]) (Z7)))) (V9 (V5 "Teller" "tell" (Y7 4 (X5 [] Z3y)) (Z4 0) (Z3 (Z4 5) (Z3 (Z4 3) (Z3 (Z4 4) (Z7)))))))
def W7:List X→Sto→R X:=Y0p 7 Z8v
include Fx in
theorem Z8o (K_Teller_without:Kept P HasW.w K mg base 1 (He.ma K (He.ga K "Teller") "without") (spE K 2 Z29)) (K_Teller_those_at:Kept P HasW.w K mg base 1 (He.ma K (He.ga K "Teller") "those_at") (spE K 2 V1)) (K_Teller_tell:Kept P HasW.w K mg base 1 (He.ma K (He.ga K "Teller") "tell") (spE K 4 Z3y)) (F:FunD K "settle" "Teller.settle" (defArgs Z0q) (defBody Z0q) (defScope Z0q) dl [] f fd):FnG P HasW.w K mg base 2 f fd ["self", "key", "places", "source", "comer"] (spE K 5 W7):=fnE F Y3d fun cdv A outer s H E gu room=>by
  have h:Here (cxB P HasW.w K mg base Z4o "Teller.settle" (defScope Z0q) f cdv A outer s H E) (wxE E) 1:=W0 gu room
  unfold Z8v
  exact Z5 (W2 (i:=5) Z4c rfl (by first | exact Or.inl rfl | exact Or.inr rfl) (W9 (h.callE K_Teller_without (by decide)) Fx.c_Teller Fx.m_Teller_without (Z0 0) (Z1 (W9 (h.callE K_Teller_those_at (by decide)) Fx.c_Teller Fx.m_Teller_those_at (Z0 0) (Z1 (Z0 1) (Z6))) (Z6)))) (Z5 (W8 (W3a PySem.F.slot_dict_update PySem.F.type_dict_update mt_upd W0y (Z0 5) (Z1 (X61 (own:=[("place",6)]) (t:=(.nm 6)) rfl Z4c (Q1 (Z0 2)) (blkOk_by (N:=Z4o) (sc:=defScope Z0q) (by decide +kernel)) (by decide) (fun _ _ _ _ _=>Y2 (i:=6) Z4c rfl (by first | exact Or.inl rfl | exact Or.inr rfl)) (fun _ _ _ _ _=>Z08) (fun _ _ _ _ _=>Z0 6) (fun _ _ _ _ _=>Z0 1)) (Z6)))) (Z8 (W8 (W9 (h.callE K_Teller_tell (by decide)) Fx.c_Teller Fx.m_Teller_tell (Z0 0) (Z1 (Z0 5) (Z1 (Z0 3) (Z1 (Z0 4) (Z6))))))))
def Z19:List Str:=["self", "key", "places", "now", "is_apart", "place"]
theorem Z0r:Z19.Nodup:=by decide +kernel
theorem Y0l:FnScope Z19 ["self", "key", "places"] (defScope U5):=⟨rfl,rfl,rfl,Z0r,rfl,by decide +kernel,by decide +kernel⟩
def Z6m:MS:=Y0 (V0 3 (V5 "Teller" "those_at" (Y7 2 (X5 [] V1)) (Z4 0) (Z3 (Z4 1) (Z7)))) (Y0 (Z02 (Q0 (Y3 eqD (Z9 Z6s (Z3 (Z4 2) (Z7))) (Z4 3))) (X8h) (V3)) (Y0 (V0 4 (Z85 (Y3 gtD (Z9 Z9j (Z3 (Z4 3) (Z7))) (m_c (.int 0))) (Z85 (Y3 gtD (Z9 Z9j (Z3 (Z4 2) (Z7))) (m_c (.int 0))) (X09 (Z9 (Y8l fun l=>l.any id) (Z3 (Z8m (.nm 5) (Z05 (Z4 2)) (Z2o) (Y3 inD (Z4 5) (Z4 3)) [5]) (Z7))))))) (Y0 (Z02 (Z0z (X8 (Z4 4)) (Q0 (Y3 X8d (m_c (.str "back")) (X6 ["Closure", "Teller"] "lets" (Z4 0))))) (V9 (V5 "Teller" "settle" (Y7 3 (X5 [.non, .non] W7)) (Z4 0) (Z3 (Z4 1) (Z3 (Z9 Y17 (Z3 (W0p (.nm 5) (Z05 (Z2b (Z4k (Z4 3) (Z4k (Z4 2) (Z7))))) (Z2o) (Z4 5) (m_c (.bl true)) [5]) (Z7))) (Z7))))) (V3)) (V9 (V5 "Teller" "settle" (Y7 3 (X5 [.non, .non] W7)) (Z4 0) (Z3 (Z4 1) (Z3 (Z4 2) (Z7))))))))
def Z2a:List X→Sto→R X:=Y0p 6 Z6m
include Fx in
theorem Y0i (K_Teller_those_at:Kept P HasW.w K mg base 1 (He.ma K (He.ga K "Teller") "those_at") (spE K 2 V1)) (K_Teller_settle:Kept P HasW.w K mg base 2 (He.ma K (He.ga K "Teller") "settle") (spE K 5 W7)) (D_Teller_settle_2:KeptD P HasW.w K mg base 2 (He.ma K (He.ga K "Teller") "settle") (spE K 5 W7) [.non, .non]) (F:FunD K "change_to" "Teller.change_to" (defArgs U5) (defBody U5) (defScope U5) dl [] f fd):FnG P HasW.w K mg base 3 f fd ["self", "key", "places"] (spE K 3 Z2a):=fnE F Y0l fun cdv A outer s H E gu room=>by
  have h:Here (cxB P HasW.w K mg base Z19 "Teller.change_to" (defScope U5) f cdv A outer s H E) (wxE E) 2:=W0 gu room
  unfold Z6m
  exact Z5 (W2 (i:=3) Z0r rfl (by first | exact Or.inl rfl | exact Or.inr rfl) (W9 (h.callE K_Teller_those_at (by decide)) Fx.c_Teller Fx.m_Teller_those_at (Z0 0) (Z1 (Z0 1) (Z6)))) (Z5 (V2 (W4 h.eq (U8 (Bv.CallR.or cr_sortedI cr_sortedS) Z9h rfl Fx.f_sorted (Z1 (Z0 2) (Z6))) (Z0 3)) (Z8 (X9o)) (X4)) (Z5 (W2 (i:=4) Z0r rfl (by first | exact Or.inl rfl | exact Or.inr rfl) (Z6g (Z2p h.gt (U8 Z35 Z36 rfl Fx.f_len (Z1 (Z0 3) (Z6))) (Y6)) (Z6g (Z2p h.gt (U8 Z35 Z36 rfl Fx.f_len (Z1 (Z0 2) (Z6))) (Y6)) (Z3g (X2x (U8 (cr_any rfl) X8w rfl Fx.f_any (Z1 (Z5d (own:=[("place",5)]) (t:=(.nm 5)) rfl Z0r (Q1 (Z0 2)) (blkOk_by (N:=Z19) (sc:=defScope U5) (by decide +kernel)) (by decide) (fun _ _ _ _ _=>Y2 (i:=5) Z0r rfl (by first | exact Or.inl rfl | exact Or.inr rfl)) (fun _ _ _ _ _=>Z08) (fun _ _ _ _ _=>Z2p (h.blk _ _ _ _ _).in_ (Z0 5) (Z0 3))) (Z6)))))))) (Z5 (V2 (Z5m (Z03 (X0 (Z0 4)) (Z0l (W4 h.nin (Y4) (Y5 ["Closure", "Teller"] Fx.at_Closure_Teller_lets (Z0 0)))))) (Z8 (W8 (W9 (h.callED (n:=3) (dxs:=[.non, .non]) D_Teller_settle_2 (by decide)) Fx.c_Teller Fx.m_Teller_settle (Z0 0) (Z1 (Z0 1) (Z1 (U8 (X0y rfl) X3h rfl Fx.f_sorted (Z1 (X61 (own:=[("place",5)]) (t:=(.nm 5)) rfl Z0r (Q1 (Z1g (Z25 (Z0 3) (Z25 (Z0 2) (Z6))))) (blkOk_by (N:=Z19) (sc:=defScope U5) (by decide +kernel)) (by decide) (fun _ _ _ _ _=>Y2 (i:=5) Z0r rfl (by first | exact Or.inl rfl | exact Or.inr rfl)) (fun _ _ _ _ _=>Z08) (fun _ _ _ _ _=>Z0 5) (fun _ _ _ _ _=>Z2r)) (Z6))) (Z6)))))) (X4)) (Z8 (W8 (W9 (h.callED (n:=3) (dxs:=[.non, .non]) D_Teller_settle_2 (by decide)) Fx.c_Teller Fx.m_Teller_settle (Z0 0) (Z1 (Z0 1) (Z1 (Z0 2) (Z6)))))))))
def Z7s:List Str:=["self", "step", "key", "kind", "wished"]
theorem Z93:Z7s.Nodup:=by decide +kernel
theorem Y55:FnScope Z7s ["self", "step", "key", "kind"] (defScope Z1x):=⟨rfl,rfl,rfl,Z93,rfl,by decide +kernel,by decide +kernel⟩
def Y0x:MS:=Y0 (V0 4 (V5 "Teller" "wished" (Y7 3 (X5 [] Z3k)) (Z4 0) (Z3 (Z4 2) (Z3 (X6 ["Step"] "later" (Z4 1)) (Z7))))) (Z02 (Q0 (Y3 eqD (Z4 3) (m_c (.str "back")))) (V9 (V5 "Teller" "settle" (Y7 3 (X5 [.non, .non] W7)) (Z4 0) (Z3 (Z4 2) (Z3 (Z4 4) (Z7))))) (Z02 (Q0 (Y3 eqD (Z4 3) (m_c (.str "drop")))) (V9 (V5 "Teller" "settle" (Y7 3 (X5 [.non, .non] W7)) (Z4 0) (Z3 (Z4 2) (Z3 (Z2b (Z7)) (Z7))))) (V9 (V5 "Teller" "change_to" (Y7 3 (X5 [] Z2a)) (Z4 0) (Z3 (Z4 2) (Z3 (Z4 4) (Z7)))))))
def Z74:List X→Sto→R X:=Y0p 5 Y0x
include Fx in
theorem Y5t (K_Teller_wished:Kept P HasW.w K mg base 2 (He.ma K (He.ga K "Teller") "wished") (spE K 3 Z3k)) (K_Teller_settle:Kept P HasW.w K mg base 2 (He.ma K (He.ga K "Teller") "settle") (spE K 5 W7)) (D_Teller_settle_2:KeptD P HasW.w K mg base 2 (He.ma K (He.ga K "Teller") "settle") (spE K 5 W7) [.non, .non]) (K_Teller_change_to:Kept P HasW.w K mg base 3 (He.ma K (He.ga K "Teller") "change_to") (spE K 3 Z2a)) (F:FunD K "stay" "Teller.stay" (defArgs Z1x) (defBody Z1x) (defScope Z1x) dl [] f fd):FnG P HasW.w K mg base 4 f fd ["self", "step", "key", "kind"] (spE K 4 Z74):=fnE F Y55 fun cdv A outer s H E gu room=>by
  have h:Here (cxB P HasW.w K mg base Z7s "Teller.stay" (defScope Z1x) f cdv A outer s H E) (wxE E) 3:=W0 gu room
  unfold Y0x
  exact Z5 (W2 (i:=4) Z93 rfl (by first | exact Or.inl rfl | exact Or.inr rfl) (W9 (h.callE K_Teller_wished (by decide)) Fx.c_Teller Fx.m_Teller_wished (Z0 0) (Z1 (Z0 2) (Z1 (Y5 ["Step"] Fx.at_Step_later (Z0 1)) (Z6))))) (Z8 (V2 (W4 h.eq (Z0 3) (Y4)) (Z8 (W8 (W9 (h.callED (n:=3) (dxs:=[.non, .non]) D_Teller_settle_2 (by decide)) Fx.c_Teller Fx.m_Teller_settle (Z0 0) (Z1 (Z0 2) (Z1 (Z0 4) (Z6)))))) (Z8 (V2 (W4 h.eq (Z0 3) (Y4)) (Z8 (W8 (W9 (h.callED (n:=3) (dxs:=[.non, .non]) D_Teller_settle_2 (by decide)) Fx.c_Teller Fx.m_Teller_settle (Z0 0) (Z1 (Z0 2) (Z1 (Z1g (Z6)) (Z6)))))) (Z8 (W8 (W9 (h.callE K_Teller_change_to (by decide)) Fx.c_Teller Fx.m_Teller_change_to (Z0 0) (Z1 (Z0 2) (Z1 (Z0 4) (Z6))))))))))
def Z14:List Str:=["self", "elder", "whose", "some", "owner", "other", "place"]
theorem Z01:Z14.Nodup:=by decide +kernel
theorem Z9n:FnScope Z14 ["self", "elder", "whose"] (defScope V8):=⟨rfl,rfl,rfl,Z01,rfl,by decide +kernel,by decide +kernel⟩
def Z6e:MS:=Y0 (V0 3 (Z8m (.nm 6) (Z05 (V5 "Teller" "those_at" (Y7 2 (X5 [] V1)) (Z4 0) (Z3 (Z4 1) (Z7)))) (Q0 (Y3 neD (Z4 6) (m_c (.int 99)))) (Z4 6) [6])) (Y0 (V0 4 (Z7e (X6 ["Teller"] "owner" (Z4 0)) (Z4 1))) (Y0 (Z02 (Z0z (Q0 (Y3 eqD (Z4 2) (m_c (.str "theirs")))) (Q0 (Y3 inD (Z4 4) (Z4 3)))) (Y3c (Z4 4)) (V3)) (Y0 (V0 5 (Z8m (.nm 6) (Z05 (Z4 3)) (Q0 (Y3 neD (Z4 6) (Z4 4))) (Z4 6) [6])) (Y3c (Y1k (Q0 (Y3 gtD (Z9 Z9j (Z3 (Z4 5) (Z7))) (m_c (.int 0)))) (Z18 (Z4 5) (m_c (.int 0))) (Z18 (Z4 3) (m_c (.int 0))))))))
def Z4f:List X→Sto→R X:=Y0p 7 Z6e
include Fx in
theorem Z9m (K_Teller_those_at:Kept P HasW.w K mg base 1 (He.ma K (He.ga K "Teller") "those_at") (spE K 2 V1)) (F:FunD K "mover_from" "Teller.mover_from" (defArgs V8) (defBody V8) (defScope V8) dl [] f fd):FnG P HasW.w K mg base 2 f fd ["self", "elder", "whose"] (spE K 3 Z4f):=fnE F Z9n fun cdv A outer s H E gu room=>by
  have h:Here (cxB P HasW.w K mg base Z14 "Teller.mover_from" (defScope V8) f cdv A outer s H E) (wxE E) 1:=W0 gu room
  unfold Z6e
  exact Z5 (Z6t (i:=3) (own:=[("place",6)]) (t:=(.nm 6)) rfl Z01 rfl rfl rfl (Q1 (W9 (h.callE K_Teller_those_at (by decide)) Fx.c_Teller Fx.m_Teller_those_at (Z0 0) (Z1 (Z0 1) (Z6)))) (blkOk_by (N:=Z14) (sc:=defScope V8) (by decide +kernel)) (by decide) (fun _ _ _ _ _=>Y2 (i:=6) Z01 rfl (by first | exact Or.inl rfl | exact Or.inr rfl)) (fun _ _ _ _ _=>Z4g (W4 (h.blk _ _ _ _ _).ne (Z0 6) (Z6q rfl Fx.i_WATCHED))) (fun _ _ _ _ _=>Z0 6)) (Z5 (W2 (i:=4) Z01 rfl (by first | exact Or.inl rfl | exact Or.inr rfl) (Z51 h.u1 (Y5 ["Teller"] Fx.at_Teller_owner (Z0 0)) (Z0 1))) (Z5 (V2 (Z5m (Z03 (W4 h.eq (Z0 2) (Z1f rfl Fx.s_THEIRS)) (Z0l (W4 h.in_ (Z0 4) (Z0 3))))) (Z8 (Z87 (Z0 4))) (X4)) (Z5 (Z6t (i:=5) (own:=[("place",6)]) (t:=(.nm 6)) rfl Z01 rfl rfl rfl (Q1 (Z0 3)) (blkOk_by (N:=Z14) (sc:=defScope V8) (by decide +kernel)) (by decide) (fun _ _ _ _ _=>Y2 (i:=6) Z01 rfl (by first | exact Or.inl rfl | exact Or.inr rfl)) (fun _ _ _ _ _=>Z4g (W4 (h.blk _ _ _ _ _).ne (Z0 6) (Z0 4))) (fun _ _ _ _ _=>Z0 6)) (Z8 (Z87 (Z44 (W4 h.gt (U8 Z35 Z36 rfl Fx.f_len (Z1 (Z0 5) (Z6))) (Y6)) (U6 (Z0 5) (Y6)) (U6 (Z0 3) (Y6))))))))
def Z3b:List Str:=["self", "elder", "whose"]
theorem Z77:Z3b.Nodup:=by decide +kernel
theorem Z8d:FnScope Z3b ["self", "elder", "whose"] (defScope U2):=⟨rfl,rfl,rfl,Z77,rfl,by decide +kernel,by decide +kernel⟩
def Z46:MS:=Y0 (Z02 (Z0z (Q0 (Y3 X9e (Z4 1) (m_c .non))) (Q0 (Y3 eqD (Z4 2) (m_c (.str "theirs"))))) (Y3c (Z7e (X6 ["Teller"] "owner" (Z4 0)) (Z4 1))) (V3)) (Y3c (V5 "Teller" "fresh_stranger" (X5 [] U9) (Z4 0) Z7))
def Z3c:List X→Sto→R X:=Y0p 3 Z46
include Fx in
theorem Z8a (K_Teller_fresh_stranger:Kept P HasW.w K mg base 1 (He.ma K (He.ga K "Teller") "fresh_stranger") (spE K 1 U9)) (F:FunD K "stranger_near" "Teller.stranger_near" (defArgs U2) (defBody U2) (defScope U2) dl [] f fd):FnG P HasW.w K mg base 2 f fd ["self", "elder", "whose"] (spE K 3 Z3c):=fnE F Z8d fun cdv A outer s H E gu room=>by
  have h:Here (cxB P HasW.w K mg base Z3b "Teller.stranger_near" (defScope U2) f cdv A outer s H E) (wxE E) 1:=W0 gu room
  unfold Z46
  exact Z5 (V2 (Z5m (Z03 (W4 h.isn (Z0 1) (Z0j)) (Z0l (W4 h.eq (Z0 2) (Z1f rfl Fx.s_THEIRS))))) (Z8 (Z87 (Z51 h.u1 (Y5 ["Teller"] Fx.at_Teller_owner (Z0 0)) (Z0 1)))) (X4)) (Z8 (Z87 (Z5l (h.callE K_Teller_fresh_stranger (by decide)) Fx.c_Teller Fx.m_Teller_fresh_stranger (Z0 0))))
def Z7p:List Str:=["self", "step", "key", "kind", "here", "others", "elder", "comer"]
theorem Z2n:Z7p.Nodup:=by decide +kernel
theorem Y51:FnScope Z7p ["self", "step", "key", "kind"] (defScope Z1u):=⟨rfl,rfl,rfl,Z2n,rfl,by decide +kernel,by decide +kernel⟩
def Y0t (slf:List X→Sto→R X):MS:=Y0 (Y1p 4 5 (Z3 (Z18 (X6 ["Step"] "later" (Z4 1)) (m_c (.int 2))) (Z3 (Z18 (X6 ["Step"] "later" (Z4 1)) (m_c (.int 3))) (Z7)))) (Y0 (V0 6 (m_c .non)) (Y0 (Z02 (Q0 (Y3 X9e (X6 ["Step"] "source" (Z4 1)) (m_c .non))) (Y0 (V0 6 (V5 "Teller" "fresh_key" (X5 [] U1) (Z4 0) Z7)) (V9 (V5 "Teller" "build" (Y7 3 (X5 [] slf)) (Z4 0) (Z3 (X6 ["Step"] "source" (Z4 1)) (Z3 (Z4 6) (Z7)))))) (V3)) (Y0 (V0 7 (Y1k (Z0z (X8 (Z4 4)) (Q0 (Y3 neD (Z4 3) (m_c (.str "stranger"))))) (m_c (.int 99)) (m_c .non))) (Y0 (Z02 (Q0 (Y3 eqD (Z4 3) (m_c (.str "stranger")))) (V0 7 (V5 "Teller" "mover_from" (Y7 3 (X5 [] Z4f)) (Z4 0) (Z3 (Z4 6) (Z3 (Z18 (X6 ["Step"] "later" (Z4 1)) (m_c (.int 1))) (Z7))))) (V3)) (Y0 (Z02 (Q0 (Y3 isD (Z4 7) (m_c .non))) (V0 7 (V5 "Teller" "stranger_near" (Y7 3 (X5 [] Z3c)) (Z4 0) (Z3 (Z4 6) (Z3 (Z18 (X6 ["Step"] "later" (Z4 1)) (m_c (.int 1))) (Z7))))) (V3)) (Y0 (Z02 (Z0z (Q0 (Y3 eqD (Z4 3) (m_c (.str "come")))) (Q0 (X08 false (Z4 7) (X6 ["Teller"] "at" (Z4 0))))) (V9 (V5 "Teller" "tell" (Y7 2 (X5 [.non, .non] Z3y)) (Z4 0) (Z3 (V5 "Teller" "without" (Y7 2 (X5 [] Z29)) (Z4 0) (Z3 (Z2b (Z3 (Z4 7) (Z7))) (Z7))) (Z7)))) (V3)) (Y0 (Y24 (X6 ["Teller"] "owner" (Z4 0)) (Z4 2) (Y1k (Q0 (Y3 isD (Z4 6) (m_c .non))) (m_c .non) (Z7e (X6 ["Teller"] "owner" (Z4 0)) (Z4 6)))) (Z02 (Z5c (X8 (Z4 4)) (X8 (Z4 5))) (Y0 (V9 (V5 "Teller" "settle" (Y7 5 (X5 [] W7)) (Z4 0) (Z3 (Z4 2) (Z3 (Z2b (Z3 (Z4 7) (Z7))) (Z3 (Y1k (Q0 (Y3 eqD (Z4 3) (m_c (.str "near")))) (Z4 6) (m_c .non)) (Z3 (Z4 7) (Z7))))))) (V9 (V5 "Teller" "change_to" (Y7 3 (X5 [] Z2a)) (Z4 0) (Z3 (Z4 2) (Z3 (V5 "Teller" "wished" (Y7 3 (X5 [] Z3k)) (Z4 0) (Z3 (Z4 2) (Z3 (X6 ["Step"] "later" (Z4 1)) (Z7)))) (Z7)))))) (V9 (V5 "Teller" "settle" (Y7 3 (X5 [.non, .non] W7)) (Z4 0) (Z3 (Z4 2) (Z3 (Z2b (Z7)) (Z7)))))))))))))
def Z4v (slf:List X→Sto→R X):List X→Sto→R X:=Y0p 8 (Y0t slf)
include Fx in
theorem Z94 {slf:List X→Sto→R X} {j:Nat} (hj:3 ≤ j) (K_slf:Kept P HasW.w K mg base j (He.ma K (He.ga K "Teller") "build") (spE K 3 slf)) (K_Teller_fresh_key:Kept P HasW.w K mg base 1 (He.ma K (He.ga K "Teller") "fresh_key") (spE K 1 U1)) (K_Teller_mover_from:Kept P HasW.w K mg base 2 (He.ma K (He.ga K "Teller") "mover_from") (spE K 3 Z4f)) (K_Teller_stranger_near:Kept P HasW.w K mg base 2 (He.ma K (He.ga K "Teller") "stranger_near") (spE K 3 Z3c)) (K_Teller_tell:Kept P HasW.w K mg base 1 (He.ma K (He.ga K "Teller") "tell") (spE K 4 Z3y)) (D_Teller_tell_2:KeptD P HasW.w K mg base 1 (He.ma K (He.ga K "Teller") "tell") (spE K 4 Z3y) [.non, .non]) (K_Teller_without:Kept P HasW.w K mg base 1 (He.ma K (He.ga K "Teller") "without") (spE K 2 Z29)) (K_Teller_settle:Kept P HasW.w K mg base 2 (He.ma K (He.ga K "Teller") "settle") (spE K 5 W7)) (K_Teller_change_to:Kept P HasW.w K mg base 3 (He.ma K (He.ga K "Teller") "change_to") (spE K 3 Z2a)) (K_Teller_wished:Kept P HasW.w K mg base 2 (He.ma K (He.ga K "Teller") "wished") (spE K 3 Z3k)) (D_Teller_settle_2:KeptD P HasW.w K mg base 2 (He.ma K (He.ga K "Teller") "settle") (spE K 5 W7) [.non, .non]) (F:FunD K "come" "Teller.come" (defArgs Z1u) (defBody Z1u) (defScope Z1u) dl [] f fd):FnG P HasW.w K mg base (j + 1) f fd ["self", "step", "key", "kind"] (spE K 4 (Z4v slf)):=fnE F Y51 fun cdv A outer s H E gu room=>by
  have h:Here (cxB P HasW.w K mg base Z7p "Teller.come" (defScope Z1u) f cdv A outer s H E) (wxE E) (j + 0):=W0 gu room
  unfold Y0t
  exact Z5 (Z7f rfl Z2n (i:=4) (j:=5) rfl rfl (by first | decide | omega) rfl rfl (Z1 (U6 (Y5 ["Step"] Fx.at_Step_later (Z0 1)) (Y6)) (Z1 (U6 (Y5 ["Step"] Fx.at_Step_later (Z0 1)) (Y6)) (Z6)))) (Z5 (W2 (i:=6) Z2n rfl (by first | exact Or.inl rfl | exact Or.inr rfl) (Z0j)) (Z5 (V2 (W4 h.isn (Y5 ["Step"] Fx.at_Step_source (Z0 1)) (Z0j)) (Z5 (W2 (i:=6) Z2n rfl (by first | exact Or.inl rfl | exact Or.inr rfl) (Z5l (h.callE K_Teller_fresh_key (by first | decide | omega)) Fx.c_Teller Fx.m_Teller_fresh_key (Z0 0))) (Z8 (W8 (W9 (h.callE K_slf (by first | decide | omega)) Fx.c_Teller Fx.m_Teller_build (Z0 0) (Z1 (Y5 ["Step"] Fx.at_Step_source (Z0 1)) (Z1 (Z0 6) (Z6))))))) (X4)) (Z5 (W2 (i:=7) Z2n rfl (by first | exact Or.inl rfl | exact Or.inr rfl) (Z44 (Z5m (Z03 (X0 (Z0 4)) (Z0l (W4 h.ne (Z0 3) (Y4))))) (Z6q rfl Fx.i_WATCHED) (Z0j))) (Z5 (V2 (W4 h.eq (Z0 3) (Y4)) (Z8 (W2 (i:=7) Z2n rfl (by first | exact Or.inl rfl | exact Or.inr rfl) (W9 (h.callE K_Teller_mover_from (by first | decide | omega)) Fx.c_Teller Fx.m_Teller_mover_from (Z0 0) (Z1 (Z0 6) (Z1 (U6 (Y5 ["Step"] Fx.at_Step_later (Z0 1)) (Y6)) (Z6)))))) (X4)) (Z5 (V2 (W4 h.is_ (Z0 7) (Z0j)) (Z8 (W2 (i:=7) Z2n rfl (by first | exact Or.inl rfl | exact Or.inr rfl) (W9 (h.callE K_Teller_stranger_near (by first | decide | omega)) Fx.c_Teller Fx.m_Teller_stranger_near (Z0 0) (Z1 (Z0 6) (Z1 (U6 (Y5 ["Step"] Fx.at_Step_later (Z0 1)) (Y6)) (Z6)))))) (X4)) (Z5 (V2 (Z5m (Z03 (W4 h.eq (Z0 3) (Y4)) (Z0l (W1x h.u1 (Z0 7) (Y5 ["Teller"] Fx.at_Teller_at (Z0 0)))))) (Z8 (W8 (W9 (h.callED (n:=2) (dxs:=[.non, .non]) D_Teller_tell_2 (by first | decide | omega)) Fx.c_Teller Fx.m_Teller_tell (Z0 0) (Z1 (W9 (h.callE K_Teller_without (by first | decide | omega)) Fx.c_Teller Fx.m_Teller_without (Z0 0) (Z1 (Z1g (Z1 (Z0 7) (Z6))) (Z6))) (Z6))))) (X4)) (Z5 (Y0g h.u1 (Y5 ["Teller"] Fx.at_Teller_owner (Z0 0)) (Z0 2) (Z44 (W4 h.is_ (Z0 6) (Z0j)) (Z0j) (Z51 h.u1 (Y5 ["Teller"] Fx.at_Teller_owner (Z0 0)) (Z0 6)))) (Z8 (V2 (Z5m (Z5s (X0 (Z0 4)) (Z38 (X0 (Z0 5))))) (Z5 (W8 (W9 (h.callE K_Teller_settle (by first | decide | omega)) Fx.c_Teller Fx.m_Teller_settle (Z0 0) (Z1 (Z0 2) (Z1 (Z1g (Z1 (Z0 7) (Z6))) (Z1 (Z44 (W4 h.eq (Z0 3) (Y4)) (Z0 6) (Z0j)) (Z1 (Z0 7) (Z6))))))) (Z8 (W8 (W9 (h.callE K_Teller_change_to (by first | decide | omega)) Fx.c_Teller Fx.m_Teller_change_to (Z0 0) (Z1 (Z0 2) (Z1 (W9 (h.callE K_Teller_wished (by first | decide | omega)) Fx.c_Teller Fx.m_Teller_wished (Z0 0) (Z1 (Z0 2) (Z1 (Y5 ["Step"] Fx.at_Step_later (Z0 1)) (Z6)))) (Z6))))))) (Z8 (W8 (W9 (h.callED (n:=3) (dxs:=[.non, .non]) D_Teller_settle_2 (by first | decide | omega)) Fx.c_Teller Fx.m_Teller_settle (Z0 0) (Z1 (Z0 2) (Z1 (Z1g (Z6)) (Z6)))))))))))))))
def Z97:List Str:=["self", "before", "step", "key", "word", "kind"]
theorem Z89:Z97.Nodup:=by decide +kernel
theorem Y90:FnScope Z97 ["self", "before", "step", "key"] (defScope Z2x):=⟨rfl,rfl,rfl,Z89,rfl,by decide +kernel,by decide +kernel⟩
def Y3u (slf:List X→Sto→R X):MS:=Y0 (Z8c (.tp [(.nm 4),(.nm 5)]) (X6 ["Step"] "how" (Z4 2))) (Y0 (Z02 (Q0 (Y3 eqD (Z4 4) (m_c (.str "give")))) (V9 (V5 "Teller" "give" (Y7 5 (X5 [] Z71)) (Z4 0) (Z3 (Z4 1) (Z3 (Z4 2) (Z3 (Z4 3) (Z3 (Z4 5) (Z7))))))) (Z02 (Q0 (Y3 eqD (Z4 4) (m_c (.str "check")))) (V9 (V5 "Teller" "check" (Y7 4 (X5 [] Z67)) (Z4 0) (Z3 (Z4 1) (Z3 (Z4 3) (Z3 (Z4 5) (Z7)))))) (Z02 (Q0 (Y3 inD (Z4 5) (Z1n (Z3 (m_c (.str "stay")) (Z3 (m_c (.str "drop")) (Z3 (m_c (.str "back")) (Z7))))))) (V9 (V5 "Teller" "stay" (Y7 4 (X5 [] Z74)) (Z4 0) (Z3 (Z4 2) (Z3 (Z4 3) (Z3 (Z4 5) (Z7)))))) (V9 (V5 "Teller" "come" (Y7 4 (X5 [] (Z4v slf))) (Z4 0) (Z3 (Z4 2) (Z3 (Z4 3) (Z3 (Z4 5) (Z7))))))))) (Z02 (Q0 (Y3 eqD (Z18 (X6 ["Step"] "later" (Z4 2)) (m_c (.int 0))) (X6 ["Tool"] "blank" (X6 ["Closure", "Teller"] "maker" (Z4 0))))) (Y24 (X6 ["Teller"] "owner" (Z4 0)) (Z4 3) (m_c .non)) (V3)))
def Z4e (slf:List X→Sto→R X):List X→Sto→R X:=Y0p 6 (Y3u slf)
include Fx in
theorem Y21 {slf:List X→Sto→R X} {j:Nat} (hj:4 ≤ j) (K_slf:Kept P HasW.w K mg base j (He.ma K (He.ga K "Teller") "build") (spE K 3 slf)) (K_Teller_give:Kept P HasW.w K mg base 4 (He.ma K (He.ga K "Teller") "give") (spE K 5 Z71)) (K_Teller_check:Kept P HasW.w K mg base 2 (He.ma K (He.ga K "Teller") "check") (spE K 4 Z67)) (K_Teller_stay:Kept P HasW.w K mg base 4 (He.ma K (He.ga K "Teller") "stay") (spE K 4 Z74)) (K_Teller_come:Kept P HasW.w K mg base (j + 1) (He.ma K (He.ga K "Teller") "come") (spE K 4 (Z4v slf))) (F:FunD K "go" "Teller.go" (defArgs Z2x) (defBody Z2x) (defScope Z2x) dl [] f fd):FnG P HasW.w K mg base (j + 2) f fd ["self", "before", "step", "key"] (spE K 4 (Z4e slf)):=fnE F Y90 fun cdv A outer s H E gu room=>by
  have h:Here (cxB P HasW.w K mg base Z97 "Teller.go" (defScope Z2x) f cdv A outer s H E) (wxE E) (j + 1):=W0 gu room
  unfold Y3u
  exact Z5 (Z6h (Y5 ["Step"] Fx.at_Step_how (Z0 2)) (Z2t rfl (Y9 (Y2 (i:=4) Z89 rfl (by first | exact Or.inl rfl | exact Or.inr rfl)) (Y9 (Y2 (i:=5) Z89 rfl (by first | exact Or.inl rfl | exact Or.inr rfl)) (Z07))))) (Z5 (V2 (W4 h.eq (Z0 4) (Y4)) (Z8 (W8 (W9 (h.callE K_Teller_give (by first | decide | omega)) Fx.c_Teller Fx.m_Teller_give (Z0 0) (Z1 (Z0 1) (Z1 (Z0 2) (Z1 (Z0 3) (Z1 (Z0 5) (Z6)))))))) (Z8 (V2 (W4 h.eq (Z0 4) (Y4)) (Z8 (W8 (W9 (h.callE K_Teller_check (by first | decide | omega)) Fx.c_Teller Fx.m_Teller_check (Z0 0) (Z1 (Z0 1) (Z1 (Z0 3) (Z1 (Z0 5) (Z6))))))) (Z8 (V2 (W4 h.in_ (Z0 5) (Z0k (Z1 (Y4) (Z1 (Y4) (Z1 (Y4) (Z6)))))) (Z8 (W8 (W9 (h.callE K_Teller_stay (by first | decide | omega)) Fx.c_Teller Fx.m_Teller_stay (Z0 0) (Z1 (Z0 2) (Z1 (Z0 3) (Z1 (Z0 5) (Z6))))))) (Z8 (W8 (W9 (h.callE K_Teller_come (by first | decide | omega)) Fx.c_Teller Fx.m_Teller_come (Z0 0) (Z1 (Z0 2) (Z1 (Z0 3) (Z1 (Z0 5) (Z6)))))))))))) (Z8 (V2 (W4 h.eq (U6 (Y5 ["Step"] Fx.at_Step_later (Z0 2)) (Y6)) (Y5 ["Tool"] Fx.at_Tool_blank (Y5 ["Closure", "Teller"] Fx.at_Closure_Teller_maker (Z0 0)))) (Z8 (Y0g h.u1 (Y5 ["Teller"] Fx.at_Teller_owner (Z0 0)) (Z0 3) (Z0j))) (X4))))
def Z61:List Str:=["self", "standing", "key", "before", "step"]
theorem Z6i:Z61.Nodup:=by decide +kernel
theorem Z9e:FnScope Z61 ["self", "standing", "key"] (defScope Q8):=⟨rfl,rfl,rfl,Z6i,rfl,by decide +kernel,by decide +kernel⟩
def Z66 (slf:List X→Sto→R X):MS:=Z40 (.tp [(.nm 3),(.nm 4)]) (Z05 (V5 "Teller" "path_to" (Y7 2 (X5 [] Z50)) (Z4 0) (Z3 (Z4 1) (Z7)))) (V9 (V5 "Teller" "go" (Y7 4 (X5 [] (Z4e slf))) (Z4 0) (Z3 (Z4 3) (Z3 (Z4 4) (Z3 (Z4 2) (Z7))))))
def Z1b:Nat→List X→Sto→R X
  | 0=>Y0p 5 X3t
  | n + 1=>Y0p 5 (Z66 (Z1b n))
def Z0c:List X→Sto→R X:=Z1b 60
theorem Y28 (F:FunD K "build" "Teller.build" (defArgs Q8) (defBody Q8) (defScope Q8) dl [] f fd):FnG P HasW.w K mg base 5 f fd ["self", "standing", "key"] (spE K 3 (Y0p 5 X3t)):=fnE F Z9e fun cdv A outer s H E gu room=>X9p (Wx:=wxE E)
include Fx in
theorem Y4x {slf:List X→Sto→R X} {j:Nat} (hj:1 ≤ j) (K_slf:Kept P HasW.w K mg base j (He.ma K (He.ga K "Teller") "build") (spE K 3 slf)) (K_Teller_path_to:Kept P HasW.w K mg base 1 (He.ma K (He.ga K "Teller") "path_to") (spE K 2 Z50)) (K_Teller_go:Kept P HasW.w K mg base (j + 2) (He.ma K (He.ga K "Teller") "go") (spE K 4 (Z4e slf))) (F:FunD K "build" "Teller.build" (defArgs Q8) (defBody Q8) (defScope Q8) dl [] f fd):FnG P HasW.w K mg base (j + 3) f fd ["self", "standing", "key"] (spE K 3 (Y0p 5 (Z66 slf))):=fnE F Z9e fun cdv A outer s H E gu room=>by
  have h:Here (cxB P HasW.w K mg base Z61 "Teller.build" (defScope Q8) f cdv A outer s H E) (wxE E) (j + 2):=W0 gu room
  unfold Z66
  exact Z8 (Z37 Z3h rfl (Q1 (W9 (h.callE K_Teller_path_to (by first | decide | omega)) Fx.c_Teller Fx.m_Teller_path_to (Z0 0) (Z1 (Z0 1) (Z6)))) (Z2t rfl (Y9 (Y2 (i:=3) Z6i rfl (by first | exact Or.inl rfl | exact Or.inr rfl)) (Y9 (Y2 (i:=4) Z6i rfl (by first | exact Or.inl rfl | exact Or.inr rfl)) (Z07)))) (Z8 (W8 (W9 (h.callE K_Teller_go (by first | decide | omega)) Fx.c_Teller Fx.m_Teller_go (Z0 0) (Z1 (Z0 3) (Z1 (Z0 4) (Z1 (Z0 2) (Z6))))))))
def Z7r:List Str:=["self", "standing", "elder", "key", "stranger"]
theorem Z5n:Z7r.Nodup:=by decide +kernel
theorem Y54:FnScope Z7r ["self", "standing"] (defScope Z1w):=⟨rfl,rfl,rfl,Z5n,rfl,by decide +kernel,by decide +kernel⟩
def Y0w:MS:=Y0 (V0 2 (V5 "Teller" "fresh_key" (X5 [] U1) (Z4 0) Z7)) (Y0 (V9 (V5 "Teller" "build" (Y7 3 (X5 [] Z0c)) (Z4 0) (Z3 (Z4 1) (Z3 (Z4 2) (Z7))))) (Y0 (V0 3 (V5 "Teller" "fresh_key" (X5 [] U1) (Z4 0) Z7)) (Z02 (Q0 (Y3 eqD (Z18 (V5 "Tool" "becomes" (Y7 3 (X5 [] (callP U4))) (X6 ["Closure", "Teller"] "maker" (Z4 0)) (Z3 (m_c (.str "carry")) (Z3 (Z18 (Z4 1) (m_c (.int 0))) (Z7)))) (m_c (.int 0))) (X6 ["Tool"] "blank" (X6 ["Closure", "Teller"] "maker" (Z4 0))))) (V9 (V5 "Teller" "settle" (Y7 3 (X5 [.non, .non] W7)) (Z4 0) (Z3 (Z4 3) (Z3 (Z2b (Z3 (m_c (.int 99)) (Z7))) (Z7))))) (Z02 (Q0 (Y3 inD (m_c (.str "near")) (X6 ["Closure", "Teller"] "lets" (Z4 0)))) (V9 (V5 "Teller" "settle" (Y7 5 (X5 [] W7)) (Z4 0) (Z3 (Z4 3) (Z3 (Z2b (Z3 (m_c (.int 99)) (Z7))) (Z3 (V5 "Teller" "fresh_key" (X5 [] U1) (Z4 0) Z7) (Z3 (m_c (.int 99)) (Z7))))))) (Y0 (V0 4 (V5 "Teller" "fresh_stranger" (X5 [] U9) (Z4 0) Z7)) (Y0 (V9 (V5 "Teller" "settle" (Y7 3 (X5 [.non, .non] W7)) (Z4 0) (Z3 (V5 "Teller" "fresh_key" (X5 [] U1) (Z4 0) Z7) (Z3 (Z2b (Z3 (Z4 4) (Z7))) (Z7))))) (V9 (V5 "Teller" "settle" (Y7 3 (X5 [.non, .non] W7)) (Z4 0) (Z3 (Z4 3) (Z3 (Z2b (Z3 (Z4 4) (Z3 (m_c (.int 99)) (Z7)))) (Z7)))))))))))
def Z73:List X→Sto→R X:=Y0p 5 Y0w
include Fx in
theorem Y5s (K_Teller_fresh_key:Kept P HasW.w K mg base 1 (He.ma K (He.ga K "Teller") "fresh_key") (spE K 1 U1)) (K_Teller_build:Kept P HasW.w K mg base 185 (He.ma K (He.ga K "Teller") "build") (spE K 3 Z0c)) (K_Tool_becomes:Kept P HasW.w K mg base 3 (He.ma K (He.ga K "Tool") "becomes") (spP K 3 U4)) (K_Teller_settle:Kept P HasW.w K mg base 2 (He.ma K (He.ga K "Teller") "settle") (spE K 5 W7)) (D_Teller_settle_2:KeptD P HasW.w K mg base 2 (He.ma K (He.ga K "Teller") "settle") (spE K 5 W7) [.non, .non]) (K_Teller_fresh_stranger:Kept P HasW.w K mg base 1 (He.ma K (He.ga K "Teller") "fresh_stranger") (spE K 1 U9)) (F:FunD K "lose" "Teller.lose" (defArgs Z1w) (defBody Z1w) (defScope Z1w) dl [] f fd):FnG P HasW.w K mg base 186 f fd ["self", "standing"] (spE K 2 Z73):=fnE F Y54 fun cdv A outer s H E gu room=>by
  have h:Here (cxB P HasW.w K mg base Z7r "Teller.lose" (defScope Z1w) f cdv A outer s H E) (wxE E) 185:=W0 gu room
  unfold Y0w
  exact Z5 (W2 (i:=2) Z5n rfl (by first | exact Or.inl rfl | exact Or.inr rfl) (Z5l (h.callE K_Teller_fresh_key (by decide)) Fx.c_Teller Fx.m_Teller_fresh_key (Z0 0))) (Z5 (W8 (W9 (h.callE K_Teller_build (by decide)) Fx.c_Teller Fx.m_Teller_build (Z0 0) (Z1 (Z0 1) (Z1 (Z0 2) (Z6))))) (Z5 (W2 (i:=3) Z5n rfl (by first | exact Or.inl rfl | exact Or.inr rfl) (Z5l (h.callE K_Teller_fresh_key (by decide)) Fx.c_Teller Fx.m_Teller_fresh_key (Z0 0))) (Z8 (V2 (W4 h.eq (U6 (W9 (h.callP K_Tool_becomes (by decide)) Fx.c_Tool Fx.m_Tool_becomes (Y5 ["Closure", "Teller"] Fx.at_Closure_Teller_maker (Z0 0)) (Z1 (Y4) (Z1 (U6 (Z0 1) (Y6)) (Z6)))) (Y6)) (Y5 ["Tool"] Fx.at_Tool_blank (Y5 ["Closure", "Teller"] Fx.at_Closure_Teller_maker (Z0 0)))) (Z8 (W8 (W9 (h.callED (n:=3) (dxs:=[.non, .non]) D_Teller_settle_2 (by decide)) Fx.c_Teller Fx.m_Teller_settle (Z0 0) (Z1 (Z0 3) (Z1 (Z1g (Z1 (Z6q rfl Fx.i_WATCHED) (Z6))) (Z6)))))) (Z8 (V2 (W4 h.in_ (Y4) (Y5 ["Closure", "Teller"] Fx.at_Closure_Teller_lets (Z0 0))) (Z8 (W8 (W9 (h.callE K_Teller_settle (by decide)) Fx.c_Teller Fx.m_Teller_settle (Z0 0) (Z1 (Z0 3) (Z1 (Z1g (Z1 (Z6q rfl Fx.i_WATCHED) (Z6))) (Z1 (Z5l (h.callE K_Teller_fresh_key (by decide)) Fx.c_Teller Fx.m_Teller_fresh_key (Z0 0)) (Z1 (Z6q rfl Fx.i_WATCHED) (Z6)))))))) (Z5 (W2 (i:=4) Z5n rfl (by first | exact Or.inl rfl | exact Or.inr rfl) (Z5l (h.callE K_Teller_fresh_stranger (by decide)) Fx.c_Teller Fx.m_Teller_fresh_stranger (Z0 0))) (Z5 (W8 (W9 (h.callED (n:=3) (dxs:=[.non, .non]) D_Teller_settle_2 (by decide)) Fx.c_Teller Fx.m_Teller_settle (Z0 0) (Z1 (Z5l (h.callE K_Teller_fresh_key (by decide)) Fx.c_Teller Fx.m_Teller_fresh_key (Z0 0)) (Z1 (Z1g (Z1 (Z0 4) (Z6))) (Z6))))) (Z8 (W8 (W9 (h.callED (n:=3) (dxs:=[.non, .non]) D_Teller_settle_2 (by decide)) Fx.c_Teller Fx.m_Teller_settle (Z0 0) (Z1 (Z0 3) (Z1 (Z1g (Z1 (Z0 4) (Z1 (Z6q rfl Fx.i_WATCHED) (Z6)))) (Z6))))))))))))))
def Z7z:List Str:=["word", "sign"]
theorem Z9c:Z7z.Nodup:=by decide +kernel
theorem Y97:FnScope Z7z ["word"] (defScope Z2k):=⟨rfl,rfl,rfl,Z9c,rfl,by decide +kernel,by decide +kernel⟩
def Y31:MS:=Y0 (Z02 (Z5c (Z0e (Q0 (Z76 leD leD (m_c (.int 1)) (Z9 Z9j (Z3 (Z4 0) (Z7))) (m_c (.int 2))))) (Z0e (X8 (Z9 (Y8l fun l=>l.all id) (Z3 (Z8m (.nm 1) (Z05 (Z4 0)) (Z2o) (Y3 inD (Z4 1) (m_c (.str "0123456789"))) [1]) (Z7)))))) (W3 (m_c .non)) (V3)) (Y0 (Z02 (Z0z (Q0 (Y3 eqD (Z9 Z9j (Z3 (Z4 0) (Z7))) (m_c (.int 2)))) (Q0 (Y3 eqD (Z18 (Z4 0) (m_c (.int 0))) (m_c (.str "0"))))) (W3 (m_c .non)) (V3)) (W3 (Z9 X4s (Z3 (Z4 0) (Z7)))))
def g_number_in:List D→PR:=Z53 2 Y31
include Fx in
theorem Y9r  (F:FunD K "number_in" "number_in" (defArgs Z2k) (defBody Z2k) (defScope Z2k) dl [] f fd):FnG P HasW.w K mg base 1 f fd ["word"] (spP K 1 g_number_in):=fnP F Y97 fun cdv A outer s H E gu room=>by
  have h:Here (cxB P HasW.w K mg base Z7z "number_in" (defScope Z2k) f cdv A outer s H E) (wxE E) 0:=W0 gu room
  unfold Y31
  exact Z5 (V2 (Z5m (Z5s (Z0o (X1y h.le h.le (Y6) (U8 Z35 Z36 rfl Fx.f_len (Z1 (Z0 0) (Z6))) (Y6))) (Z38 (Z0o (X0 (U8 (cr_all rfl) Y5i rfl Fx.f_all (Z1 (Z5d (own:=[("sign",1)]) (t:=(.nm 1)) rfl Z9c (Q1 (Z0 0)) (blkOk_by (N:=Z7z) (sc:=defScope Z2k) (by decide +kernel)) (by decide) (fun _ _ _ _ _=>Y2 (i:=1) Z9c rfl (by first | exact Or.inl rfl | exact Or.inr rfl)) (fun _ _ _ _ _=>Z08) (fun _ _ _ _ _=>Z2p (h.blk _ _ _ _ _).in_ (Z0 1) (Z1f rfl Fx.s_DIGITS))) (Z6)))))))) (Z8 (X7 (Z0j))) (X4)) (Z5 (V2 (Z5m (Z03 (W4 h.eq (U8 Z35 Z36 rfl Fx.f_len (Z1 (Z0 0) (Z6))) (Y6)) (Z0l (W4 h.eq (U6 (Z0 0) (Y6)) (Y4))))) (Z8 (X7 (Z0j))) (X4)) (Z8 (X7 (Z2v call_int_str W0z rfl Fx.f_int (Z1 (Z0 0) (Z6))))))
def Y3h:List Str:=["value", "parts", "part"]
theorem Y1m:Y3h.Nodup:=by decide +kernel
theorem X50:FnScope Y3h ["value"] (defScope Z42):=⟨rfl,rfl,rfl,Y1m,rfl,by decide +kernel,by decide +kernel⟩
def X17:MS:=Y0 (Z02 (Z0e (X8 (Y5m (Y6e "str") [("Row",false),("Tool",false),("Story",false)] (Z4 0)))) (W3 (m_c (.bl false))) (V3)) (Y0 (V0 1 (Y4o Z84 (Z4 0) (m_c (.str "@")))) (W3 (Z85 (Y3 leD (Z9 Z9j (Z3 (Z4 1) (Z7))) (m_c (.int 2))) (Z9 (Y8l fun l=>l.all id) (Z3 (Z8m (.nm 2) (Z05 (Z4 1)) (Z2o) (Z9 (Y7 1 (X5 [] (callP g_is_name))) (Z3 (Z4 2) (Z7))) [2]) (Z7))))))
def g_is_key:List D→PR:=Z53 3 X17
include Fx in
theorem X5k (K_is_name:Kept P HasW.w K mg base 1 (He.ga K "is_name") (spP K 1 g_is_name)) (F:FunD K "is_key" "is_key" (defArgs Z42) (defBody Z42) (defScope Z42) dl [] f fd):FnG P HasW.w K mg base 2 f fd ["value"] (spP K 1 g_is_key):=fnP F X50 fun cdv A outer s H E gu room=>by
  have h:Here (cxB P HasW.w K mg base Y3h "is_key" (defScope Z42) f cdv A outer s H E) (wxE E) 1:=W0 gu room
  unfold X17
  exact Z5 (V2 (Z0o (X0 (Y4p rfl Fx.f_isinstance (Z0 0) (X8f rfl Fx.f_str) Fx.is_str (.ty _)))) (Z8 (X7 (Z2r))) (X4)) (Z5 (W2 (i:=1) Y1m rfl (by first | exact Or.inl rfl | exact Or.inr rfl) (Y1l (Z0 0) (Y4))) (Z8 (X7 (Z6g (Z2p h.le (U8 Z35 Z36 rfl Fx.f_len (Z1 (Z0 1) (Z6))) (Y6)) (Z3g (U8 (cr_all rfl) Y5i rfl Fx.f_all (Z1 (Z5d (own:=[("part",2)]) (t:=(.nm 2)) rfl Y1m (Q1 (Z0 1)) (blkOk_by (N:=Y3h) (sc:=defScope Z42) (by decide +kernel)) (by decide) (fun _ _ _ _ _=>Y2 (i:=2) Y1m rfl (by first | exact Or.inl rfl | exact Or.inr rfl)) (fun _ _ _ _ _=>Z08) (fun _ _ _ _ _=>Y8 ((h.blk _ _ _ _ _).callP K_is_name (by decide)) rfl Fx.g_is_name K_is_name.kp (Z1 (Z0 2) (Z6)))) (Z6))))))))
def Y1y:List Str:=["word", "front", "colon", "rest", "place", "key", "sign", "source"]
theorem Z3o:Y1y.Nodup:=by decide +kernel
theorem X1w:FnScope Y1y ["word"] (defScope Z3w):=⟨rfl,rfl,rfl,Z3o,rfl,by decide +kernel,by decide +kernel⟩
def Y6m:MS:=Y0 (Z8c (.tp [(.nm 1),(.nm 2),(.nm 3)]) (Y4o Y8w (Z4 0) (m_c (.str ":")))) (Y0 (V0 4 (Z9 (Y7 1 (X5 [] (callP g_number_in))) (Z3 (Z4 1) (Z7)))) (Y0 (Z8c (.tp [(.nm 5),(.nm 6),(.nm 7)]) (Y4o Y8w (Z4 3) (m_c (.str "<")))) (Y0 (Z02 (Z5c (Q0 (Y3 isD (Z4 4) (m_c .non))) (Z5c (Q0 (Y3 eqD (Z4 2) (m_c (.str "")))) (Z5c (Z0e (X8 (Z9 (Y7 1 (X5 [] (callP g_is_key))) (Z3 (Z4 5) (Z7))))) (Z0z (Q0 (Y3 neD (Z4 6) (m_c (.str "")))) (Z0e (X8 (Z9 (Y7 1 (X5 [] (callP g_is_key))) (Z3 (Z4 7) (Z7))))))))) (W3 (m_c .non)) (V3)) (Y25 (Z3 (Z4 4) (Z3 (Z4 5) (Z3 (Y1k (Q0 (Y3 neD (Z4 6) (m_c (.str "")))) (Z4 7) (m_c .non)) (Z7))))))))
def g_place_in:List D→PR:=Z53 8 Y6m
include Fx in
theorem X1n (K_number_in:Kept P HasW.w K mg base 1 (He.ga K "number_in") (spP K 1 g_number_in)) (K_is_key:Kept P HasW.w K mg base 2 (He.ga K "is_key") (spP K 1 g_is_key)) (F:FunD K "place_in" "place_in" (defArgs Z3w) (defBody Z3w) (defScope Z3w) dl [] f fd):FnG P HasW.w K mg base 3 f fd ["word"] (spP K 1 g_place_in):=fnP F X1w fun cdv A outer s H E gu room=>by
  have h:Here (cxB P HasW.w K mg base Y1y "place_in" (defScope Z3w) f cdv A outer s H E) (wxE E) 2:=W0 gu room
  unfold Y6m
  exact Z5 (Z6h (X5c (Z0 0) (Y4)) (Z2t rfl (Y9 (Y2 (i:=1) Z3o rfl (by first | exact Or.inl rfl | exact Or.inr rfl)) (Y9 (Y2 (i:=2) Z3o rfl (by first | exact Or.inl rfl | exact Or.inr rfl)) (Y9 (Y2 (i:=3) Z3o rfl (by first | exact Or.inl rfl | exact Or.inr rfl)) (Z07)))))) (Z5 (W2 (i:=4) Z3o rfl (by first | exact Or.inl rfl | exact Or.inr rfl) (Y8 (h.callP K_number_in (by decide)) rfl Fx.g_number_in K_number_in.kp (Z1 (Z0 1) (Z6)))) (Z5 (Z6h (X5c (Z0 3) (Y4)) (Z2t rfl (Y9 (Y2 (i:=5) Z3o rfl (by first | exact Or.inl rfl | exact Or.inr rfl)) (Y9 (Y2 (i:=6) Z3o rfl (by first | exact Or.inl rfl | exact Or.inr rfl)) (Y9 (Y2 (i:=7) Z3o rfl (by first | exact Or.inl rfl | exact Or.inr rfl)) (Z07)))))) (Z5 (V2 (Z5m (Z5s (W4 h.is_ (Z0 4) (Z0j)) (Z5s (W4 h.eq (Z0 2) (Y4)) (Z5s (Z0o (X0 (Y8 (h.callP K_is_key (by decide)) rfl Fx.g_is_key K_is_key.kp (Z1 (Z0 5) (Z6))))) (Z38 (Z5m (Z03 (W4 h.ne (Z0 6) (Y4)) (Z0l (Z0o (X0 (Y8 (h.callP K_is_key (by decide)) rfl Fx.g_is_key K_is_key.kp (Z1 (Z0 7) (Z6))))))))))))) (Z8 (X7 (Z0j))) (X4)) (Z8 (Y0h (Z1 (Z0 4) (Z1 (Z0 5) (Z1 (Z44 (W4 h.ne (Z0 6) (Y4)) (Z0 7) (Z0j)) (Z6)))))))))
def Y0a:List Str:=["words", "found", "before", "word", "told"]
theorem Z5u:Y0a.Nodup:=by decide +kernel
theorem Y98:FnScope Y0a ["words"] (defScope Z20):=⟨rfl,rfl,rfl,Z5u,rfl,by decide +kernel,by decide +kernel⟩
def Y32:MS:=Y0 (Z02 (Q0 (Y3 eqD (Z4 0) (Z2b (Z3 (m_c (.str "-")) (Z7))))) (Y25 (Z7)) (V3)) (Y0 (Y1p 1 2 (Z3 (Z4j (Z7)) (Z3 (X6z (m_c (.int 1))) (Z7)))) (Y0 (Z40 (.nm 3) (Z05 (Z4 0)) (Y0 (V0 4 (Z9 (Y7 1 (X5 [] (callP g_place_in))) (Z3 (Z4 3) (Z7)))) (Y0 (Z02 (Z5c (Q0 (Y3 isD (Z4 4) (m_c .non))) (Q0 (Y3 leD (Z18 (Z4 4) (m_c (.int 0))) (Z4 2)))) (W3 (m_c .non)) (V3)) (Y0 (V0 2 (Z18 (Z4 4) (m_c (.int 0)))) (V9 (Z9l Z2q Z0f (Z4 1) (Z3 (Z4 4) (Z7)))))))) (W3 (Y1k (Q0 (Y3 gtD (Z9 Z9j (Z3 (Z4 1) (Z7))) (m_c (.int 0)))) (Z9 X0n (Z3 (Z4 1) (Z7))) (m_c .non)))))
def g_places_in:List D→PR:=Z53 5 Y32
include Fx in
theorem Y9s (K_place_in:Kept P HasW.w K mg base 3 (He.ga K "place_in") (spP K 1 g_place_in)) (F:FunD K "places_in" "places_in" (defArgs Z20) (defBody Z20) (defScope Z20) dl [] f fd):FnG P HasW.w K mg base 4 f fd ["words"] (spP K 1 g_places_in):=fnP F Y98 fun cdv A outer s H E gu room=>by
  have h:Here (cxB P HasW.w K mg base Y0a "places_in" (defScope Z20) f cdv A outer s H E) (wxE E) 3:=W0 gu room
  unfold Y32
  exact Z5 (V2 (W4 h.eq (Z0 0) (Z1g (Z1 (Y4) (Z6)))) (Z8 (Y0h (Z6))) (X4)) (Z5 (Z7f rfl Z5u (i:=1) (j:=2) rfl rfl (by decide) rfl rfl (Z1 (Z26 (Z6)) (Z1 (X5a (Y6)) (Z6)))) (Z5 (Z37 Z3h rfl (Q1 (Z0 0)) (Y2 (i:=3) Z5u rfl (by first | exact Or.inl rfl | exact Or.inr rfl)) (Z5 (W2 (i:=4) Z5u rfl (by first | exact Or.inl rfl | exact Or.inr rfl) (Y8 (h.callP K_place_in (by decide)) rfl Fx.g_place_in K_place_in.kp (Z1 (Z0 3) (Z6)))) (Z5 (V2 (Z5m (Z5s (W4 h.is_ (Z0 4) (Z0j)) (Z38 (W4 h.le (U6 (Z0 4) (Y6)) (Z0 2))))) (Z8 (X7 (Z0j))) (X4)) (Z5 (W2 (i:=2) Z5u rfl (by first | exact Or.inl rfl | exact Or.inr rfl) (U6 (Z0 4) (Y6))) (Z8 (W8 (Z45 PySem.F.slot_list_append PySem.F.type_list_append mt_append Z0p (Z0 1) (Z1 (Z0 4) (Z6))))))))) (Z8 (X7 (Z44 (W4 h.gt (U8 Z35 Z36 rfl Fx.f_len (Z1 (Z0 1) (Z6))) (Y6)) (Z2v call_tuple_of Y1z rfl Fx.f_tuple (Z1 (Z0 1) (Z6))) (Z0j))))))
def Y0s:List Str:=["event", "words", "numbers", "told", "word"]
theorem Z7h:Y0s.Nodup:=by decide +kernel
theorem X3y:FnScope Y0s ["event"] (defScope Z32):=⟨rfl,rfl,rfl,Z7h,rfl,by decide +kernel,by decide +kernel⟩
def Y8j:MS:=Y0 (Z02 (Z0e (X8 (Y5m (Y6e "str") [("Row",false),("Tool",false),("Story",false)] (Z4 0)))) (W3 (m_c .non)) (V3)) (Y0 (V0 1 (Y4o Z84 (Z4 0) (m_c (.str " ")))) (Y0 (Z02 (Q0 (Y3 eqD (Z18 (Z4 1) (m_c (.int 0))) (m_c (.str "edition")))) (Y0 (V0 3 (Z9 (Y7 1 (X5 [] (callP g_places_in))) (Z3 (Z17 (Z4 1) (Z34 (m_c (.int 1))) (Y5n)) (Z7)))) (W3 (Y1k (Q0 (Y3 isD (Z4 3) (m_c .non))) (m_c .non) (Z1n (Z3 (m_c (.str "edition")) (Z3 (Z4 3) (Z7))))))) (V3)) (Y0 (V0 2 (Z8m (.nm 4) (Z05 (Z17 (Z4 1) (Z34 (m_c (.int 1))) (Y5n))) (Z2o) (Z9 (Y7 1 (X5 [] (callP g_number_in))) (Z3 (Z4 4) (Z7))) [4])) (Y0 (Z02 (Q0 (Y3 inD (m_c .non) (Z4 2))) (W3 (m_c .non)) (V3)) (Y0 (Z02 (Z0z (Q0 (Y3 eqD (Z18 (Z4 1) (m_c (.int 0))) (m_c (.str "give")))) (Q0 (Y3 inD (Z9 Z9j (Z3 (Z4 2) (Z7))) (Z1n (Z3 (m_c (.int 1)) (Z3 (m_c (.int 2)) (Z7))))))) (Y25 (Z3 (m_c (.str "give")) (Z4k (Z4 2) (Z7)))) (V3)) (W3 (Y1k (Z0z (Q0 (Y3 eqD (Z18 (Z4 1) (m_c (.int 0))) (m_c (.str "check")))) (Q0 (Y3 eqD (Z9 Z9j (Z3 (Z4 2) (Z7))) (m_c (.int 1))))) (Z1n (Z3 (m_c (.str "check")) (Z3 (Z18 (Z4 2) (m_c (.int 0))) (Z7)))) (m_c .non))))))))
def g_move_in:List D→PR:=Z53 5 Y8j
include Fx in
theorem X3s (K_places_in:Kept P HasW.w K mg base 4 (He.ga K "places_in") (spP K 1 g_places_in)) (K_number_in:Kept P HasW.w K mg base 1 (He.ga K "number_in") (spP K 1 g_number_in)) (F:FunD K "move_in" "move_in" (defArgs Z32) (defBody Z32) (defScope Z32) dl [] f fd):FnG P HasW.w K mg base 5 f fd ["event"] (spP K 1 g_move_in):=fnP F X3y fun cdv A outer s H E gu room=>by
  have h:Here (cxB P HasW.w K mg base Y0s "move_in" (defScope Z32) f cdv A outer s H E) (wxE E) 4:=W0 gu room
  unfold Y8j
  exact Z5 (V2 (Z0o (X0 (Y4p rfl Fx.f_isinstance (Z0 0) (X8f rfl Fx.f_str) Fx.is_str (.ty _)))) (Z8 (X7 (Z0j))) (X4)) (Z5 (W2 (i:=1) Z7h rfl (by first | exact Or.inl rfl | exact Or.inr rfl) (Y1l (Z0 0) (Y4))) (Z5 (V2 (W4 h.eq (U6 (Z0 1) (Y6)) (Y4)) (Z5 (W2 (i:=3) Z7h rfl (by first | exact Or.inl rfl | exact Or.inr rfl) (Y8 (h.callP K_places_in (by decide)) rfl Fx.g_places_in K_places_in.kp (Z1 (Z16 (Z0 1) (Z3e (Y6)) (Z3d)) (Z6)))) (Z8 (X7 (Z44 (W4 h.is_ (Z0 3) (Z0j)) (Z0j) (Z0k (Z1 (Y4) (Z1 (Z0 3) (Z6)))))))) (X4)) (Z5 (Z6t (i:=2) (own:=[("word",4)]) (t:=(.nm 4)) rfl Z7h rfl rfl rfl (Q1 (Z16 (Z0 1) (Z3e (Y6)) (Z3d))) (blkOk_by (N:=Y0s) (sc:=defScope Z32) (by decide +kernel)) (by decide) (fun _ _ _ _ _=>Y2 (i:=4) Z7h rfl (by first | exact Or.inl rfl | exact Or.inr rfl)) (fun _ _ _ _ _=>Z08) (fun _ _ _ _ _=>Y8 ((h.blk _ _ _ _ _).callP K_number_in (by decide)) rfl Fx.g_number_in K_number_in.kp (Z1 (Z0 4) (Z6)))) (Z5 (V2 (W4 h.in_ (Z0j) (Z0 2)) (Z8 (X7 (Z0j))) (X4)) (Z5 (V2 (Z5m (Z03 (W4 h.eq (U6 (Z0 1) (Y6)) (Y4)) (Z0l (W4 h.in_ (U8 Z35 Z36 rfl Fx.f_len (Z1 (Z0 2) (Z6))) (Z0k (Z1 (Y6) (Z1 (Y6) (Z6)))))))) (Z8 (Y0h (Z1 (Y4) (Z25 (Z0 2) (Z6))))) (X4)) (Z8 (X7 (Z44 (Z5m (Z03 (W4 h.eq (U6 (Z0 1) (Y6)) (Y4)) (Z0l (W4 h.eq (U8 Z35 Z36 rfl Fx.f_len (Z1 (Z0 2) (Z6))) (Y6))))) (Z0k (Z1 (Y4) (Z1 (U6 (Z0 2) (Y6)) (Z6)))) (Z0j)))))))))
def Y0r:List Str:=["pairs", "place", "key"]
theorem Z9k:Y0r.Nodup:=by decide +kernel
theorem X3x:FnScope Y0r ["pairs"] (defScope Z31):=⟨rfl,rfl,rfl,Z9k,rfl,by decide +kernel,by decide +kernel⟩
def Y8i:MS:=W3 (W0p (.tp [(.nm 1),(.nm 2)]) (Z05 (Z4 0)) (Z2o) (Z4 1) (Z4 2) [1,2])
def g_keys_of:List D→PR:=Z53 3 Y8i
include Fx in
theorem X3r  (F:FunD K "keys_of" "keys_of" (defArgs Z31) (defBody Z31) (defScope Z31) dl [] f fd):FnG P HasW.w K mg base 1 f fd ["pairs"] (spP K 1 g_keys_of):=fnP F X3x fun cdv A outer s H E gu room=>by
  have h:Here (cxB P HasW.w K mg base Y0r "keys_of" (defScope Z31) f cdv A outer s H E) (wxE E) 0:=W0 gu room
  unfold Y8i
  exact Z8 (X7 (X61 (own:=[("place",1),("key",2)]) (t:=(.tp [(.nm 1),(.nm 2)])) rfl Z9k (Q1 (Z0 0)) (blkOk_by (N:=Y0r) (sc:=defScope Z31) (by decide +kernel)) (by decide) (fun _ _ _ _ _=>Z2t rfl (Y9 (Y2 (i:=1) Z9k rfl (by first | exact Or.inl rfl | exact Or.inr rfl)) (Y9 (Y2 (i:=2) Z9k rfl (by first | exact Or.inl rfl | exact Or.inr rfl)) (Z07)))) (fun _ _ _ _ _=>Z08) (fun _ _ _ _ _=>Z0 1) (fun _ _ _ _ _=>Z0 2)))
def Z7w:List Str:=["move", "editions", "number"]
theorem Z68:Z7w.Nodup:=by decide +kernel
theorem Y6a:FnScope Z7w ["move", "editions"] (defScope Z1z):=⟨rfl,rfl,rfl,Z68,rfl,by decide +kernel,by decide +kernel⟩
def Y01:MS:=Y0 (Z02 (Q0 (Y3 eqD (Z18 (Z4 0) (m_c (.int 0))) (m_c (.str "edition")))) (W3 (m_c (.bl true))) (V3)) (Y0 (V0 2 (Y3 W2v (Z9 Z9j (Z3 (Z4 1) (Z7))) (m_c (.int 1)))) (Y0 (Z02 (Q0 (Y3 eqD (Z9 Z9j (Z3 (Z4 0) (Z7))) (m_c (.int 3)))) (V0 2 (Z18 (Z4 0) (m_c (.int 2)))) (V3)) (W3 (Z85 (Z76 leD ltD (m_c (.int 0)) (Z4 2) (Z9 Z9j (Z3 (Z4 1) (Z7)))) (X08 false (Z18 (Z4 0) (m_c (.int 1))) (Z9 (Y7 1 (X5 [] (callP g_keys_of))) (Z3 (Z18 (Z4 1) (Z4 2)) (Z7))))))))
def g_is_possible:List D→PR:=Z53 3 Y01
include Fx in
theorem Y5x (K_keys_of:Kept P HasW.w K mg base 1 (He.ga K "keys_of") (spP K 1 g_keys_of)) (F:FunD K "is_possible" "is_possible" (defArgs Z1z) (defBody Z1z) (defScope Z1z) dl [] f fd):FnG P HasW.w K mg base 2 f fd ["move", "editions"] (spP K 2 g_is_possible):=fnP F Y6a fun cdv A outer s H E gu room=>by
  have h:Here (cxB P HasW.w K mg base Z7w "is_possible" (defScope Z1z) f cdv A outer s H E) (wxE E) 1:=W0 gu room
  unfold Y01
  exact Z5 (V2 (W4 h.eq (U6 (Z0 0) (Y6)) (Y4)) (Z8 (X7 (Z2r))) (X4)) (Z5 (W2 (i:=2) Z68 rfl (by first | exact Or.inl rfl | exact Or.inr rfl) (Z8p h.sub (U8 Z35 Z36 rfl Fx.f_len (Z1 (Z0 1) (Z6))) (Y6))) (Z5 (V2 (W4 h.eq (U8 Z35 Z36 rfl Fx.f_len (Z1 (Z0 0) (Z6))) (Y6)) (Z8 (W2 (i:=2) Z68 rfl (by first | exact Or.inl rfl | exact Or.inr rfl) (U6 (Z0 0) (Y6)))) (X4)) (Z8 (X7 (Z6g (X84 h.le h.lt (Y6) (Z0 2) (U8 Z35 Z36 rfl Fx.f_len (Z1 (Z0 1) (Z6)))) (Z3g (X79 h.u1 (U6 (Z0 0) (Y6)) (Y8 (h.callP K_keys_of (by decide)) rfl Fx.g_keys_of K_keys_of.kp (Z1 (U6 (Z0 1) (Z0 2)) (Z6))))))))))
def Z4i:List Str:=["elder", "places", "found", "keys", "now", "ahead", "past", "place", "key", "stays", "source", "edition", "other"]
theorem V6:Z4i.Nodup:=by decide +kernel
theorem X1v:FnScope Z4i ["elder", "places"] (defScope Z09):=⟨rfl,rfl,rfl,V6,rfl,by decide +kernel,by decide +kernel⟩
def Y6l:MS:=Y0 (V0 2 (Z4j (Z7))) (Y0 (V0 3 (Z8m (.tp [(.nm 7),(.nm 8),(.nm 10)]) (Z05 (Z4 1)) (Z2o) (Z4 8) [7,8,10])) (Y0 (Z02 (Q0 (Y3 ltD (Y7n (Z4 3)) (Z9 Z9j (Z3 (Z4 3) (Z7))))) (V9 (Z9l Z2q Z0f (Z4 2) (Z3 (m_c (.str "alike")) (Z7)))) (V3)) (Y0 (Z02 (X8 (Z9 (Y8l fun l=>l.any id) (Z3 (Z8m (.tp [(.nm 7),(.nm 8),(.nm 10)]) (Z05 (Z4 1)) (Z2o) (Y3 X9e (Z4 10) (m_c .non)) [7,8,10]) (Z7)))) (V9 (Z9l Z2q Z0f (Z4 2) (Z3 (m_c (.str "near")) (Z7)))) (V3)) (Y0 (V0 4 (W0p (.tp [(.nm 7),(.nm 8),(.nm 10)]) (Z05 (Z4 1)) (Z2o) (Z4 7) (Z4 8) [7,8,10])) (Y0 (V0 5 (Y1k (Q0 (Y3 gtD (Z9 Z9j (Z3 (Z4 0) (Z7))) (m_c (.int 0)))) (Z9 (Y7 1 (X5 [] (callP g_keys_of))) (Z3 (Z18 (Z4 0) (X6z (m_c (.int 1)))) (Z7))) (X78))) (Y0 (V0 6 (X9j (.nm 11) (Z05 (Z4 0)) (Z2o) (.tp [(.nm 7),(.nm 8)]) (Z05 (Z4 11)) (Z2o) (Z4 8) [11,7,8] [7,8])) (Y0 (Z40 (.nm 7) (Y4i (Z4 4)) (Y0 (V0 8 (Z7e (Z4 4) (Z4 7))) (Y0 (V0 9 (Z8m (.nm 12) (Y4i (Z4 5)) (Z0z (Q0 (Y3 eqD (Z7e (Z4 5) (Z4 12)) (Z4 8))) (Q0 (Y3 eqD (X07 (Z4 4) (Z4 12)) (Z4 8)))) (Z4 12) [12])) (Z02 (Z0z (Q0 (Y3 neD (X07 (Z4 5) (Z4 7)) (Z4 8))) (Z0z (Q0 (Y3 inD (Z4 8) (Z4 6))) (Q0 (Y3 eqD (Z9 Z9j (Z3 (Z4 9) (Z7))) (m_c (.int 0)))))) (V9 (Z9l Z2q Z0f (Z4 2) (Z3 (m_c (.str "back")) (Z7)))) (V3))))) (W3 (Z4 2)))))))))
def g_needs_of:List D→PR:=Z53 13 Y6l
include Fx in
theorem X1m (K_keys_of:Kept P HasW.w K mg base 1 (He.ga K "keys_of") (spP K 1 g_keys_of)) (F:FunD K "needs_of" "needs_of" (defArgs Z09) (defBody Z09) (defScope Z09) dl [] f fd):FnG P HasW.w K mg base 2 f fd ["elder", "places"] (spP K 2 g_needs_of):=fnP F X1v fun cdv A outer s H E gu room=>by
  have h:Here (cxB P HasW.w K mg base Z4i "needs_of" (defScope Z09) f cdv A outer s H E) (wxE E) 1:=W0 gu room
  unfold Y6l
  exact Z5 (W2 (i:=2) V6 rfl (by first | exact Or.inl rfl | exact Or.inr rfl) (Z26 (Z6))) (Z5 (Z6t (i:=3) (own:=[("place",7),("key",8),("source",10)]) (t:=(.tp [(.nm 7),(.nm 8),(.nm 10)])) rfl V6 rfl rfl rfl (Q1 (Z0 1)) (blkOk_by (N:=Z4i) (sc:=defScope Z09) (by decide +kernel)) (by decide) (fun _ _ _ _ _=>Z2t rfl (Y9 (Y2 (i:=7) V6 rfl (by first | exact Or.inl rfl | exact Or.inr rfl)) (Y9 (Y2 (i:=8) V6 rfl (by first | exact Or.inl rfl | exact Or.inr rfl)) (Y9 (Y2 (i:=10) V6 rfl (by first | exact Or.inl rfl | exact Or.inr rfl)) (Z07))))) (fun _ _ _ _ _=>Z08) (fun _ _ _ _ _=>Z0 8)) (Z5 (V2 (W4 h.lt (Y83 rfl rfl Fx.f_len rfl Fx.f_set (Z0 3)) (U8 Z35 Z36 rfl Fx.f_len (Z1 (Z0 3) (Z6)))) (Z8 (W8 (Z45 PySem.F.slot_list_append PySem.F.type_list_append mt_append Z0p (Z0 2) (Z1 (Y4) (Z6))))) (X4)) (Z5 (V2 (X0 (U8 (cr_any rfl) X8w rfl Fx.f_any (Z1 (Z5d (own:=[("place",7),("key",8),("source",10)]) (t:=(.tp [(.nm 7),(.nm 8),(.nm 10)])) rfl V6 (Q1 (Z0 1)) (blkOk_by (N:=Z4i) (sc:=defScope Z09) (by decide +kernel)) (by decide) (fun _ _ _ _ _=>Z2t rfl (Y9 (Y2 (i:=7) V6 rfl (by first | exact Or.inl rfl | exact Or.inr rfl)) (Y9 (Y2 (i:=8) V6 rfl (by first | exact Or.inl rfl | exact Or.inr rfl)) (Y9 (Y2 (i:=10) V6 rfl (by first | exact Or.inl rfl | exact Or.inr rfl)) (Z07))))) (fun _ _ _ _ _=>Z08) (fun _ _ _ _ _=>Z2p (h.blk _ _ _ _ _).isn (Z0 10) (Z0j))) (Z6)))) (Z8 (W8 (Z45 PySem.F.slot_list_append PySem.F.type_list_append mt_append Z0p (Z0 2) (Z1 (Y4) (Z6))))) (X4)) (Z5 (W2 (i:=4) V6 rfl (by first | exact Or.inl rfl | exact Or.inr rfl) (X61 (own:=[("place",7),("key",8),("source",10)]) (t:=(.tp [(.nm 7),(.nm 8),(.nm 10)])) rfl V6 (Q1 (Z0 1)) (blkOk_by (N:=Z4i) (sc:=defScope Z09) (by decide +kernel)) (by decide) (fun _ _ _ _ _=>Z2t rfl (Y9 (Y2 (i:=7) V6 rfl (by first | exact Or.inl rfl | exact Or.inr rfl)) (Y9 (Y2 (i:=8) V6 rfl (by first | exact Or.inl rfl | exact Or.inr rfl)) (Y9 (Y2 (i:=10) V6 rfl (by first | exact Or.inl rfl | exact Or.inr rfl)) (Z07))))) (fun _ _ _ _ _=>Z08) (fun _ _ _ _ _=>Z0 7) (fun _ _ _ _ _=>Z0 8))) (Z5 (W2 (i:=5) V6 rfl (by first | exact Or.inl rfl | exact Or.inr rfl) (Z44 (W4 h.gt (U8 Z35 Z36 rfl Fx.f_len (Z1 (Z0 0) (Z6))) (Y6)) (Y8 (h.callP K_keys_of (by decide)) rfl Fx.g_keys_of K_keys_of.kp (Z1 (U6 (Z0 0) (X5a (Y6))) (Z6))) (X9k))) (Z5 (X5f (i:=6) (own:=[("edition",11),("place",7),("key",8)]) (t:=(.nm 11)) (t1:=(.tp [(.nm 7),(.nm 8)])) (vs1:=[7,8]) rfl V6 rfl rfl rfl (Q1 (Z0 0)) (blkOk_by (N:=Z4i) (sc:=defScope Z09) (by decide +kernel)) (by decide) (by decide) (by decide) (fun _ _ _ _ _=>Y2 (i:=11) V6 rfl (by first | exact Or.inl rfl | exact Or.inr rfl)) (fun _ _ _ _ _=>Z08) (fun _ _ _ _ _=>Q1 (Z0 11)) (fun _ _ _ _ _=>Z2t rfl (Y9 (Y2 (i:=7) V6 rfl (by first | exact Or.inl rfl | exact Or.inr rfl)) (Y9 (Y2 (i:=8) V6 rfl (by first | exact Or.inl rfl | exact Or.inr rfl)) (Z07)))) (fun _ _ _ _ _=>Z08) (fun _ _ _ _ _=>Z0 8)) (Z5 (Z37 Z3h rfl (Y19 (Z0 4)) (Y2 (i:=7) V6 rfl (by first | exact Or.inl rfl | exact Or.inr rfl)) (Z5 (W2 (i:=8) V6 rfl (by first | exact Or.inl rfl | exact Or.inr rfl) (Z51 h.u1 (Z0 4) (Z0 7))) (Z5 (Z6t (i:=9) (own:=[("other",12)]) (t:=(.nm 12)) rfl V6 rfl rfl rfl (Y19 (Z0 5)) (blkOk_by (N:=Z4i) (sc:=defScope Z09) (by decide +kernel)) (by decide) (fun _ _ _ _ _=>Y2 (i:=12) V6 rfl (by first | exact Or.inl rfl | exact Or.inr rfl)) (fun _ _ _ _ _=>Z4g (Z5m (Z03 (W4 (h.blk _ _ _ _ _).eq (Z51 (h.blk _ _ _ _ _).u1 (Z0 5) (Z0 12)) (Z0 8)) (Z0l (W4 (h.blk _ _ _ _ _).eq (X2w (h.blk _ _ _ _ _).u1 (Z0 4) (Z0 12)) (Z0 8)))))) (fun _ _ _ _ _=>Z0 12)) (Z8 (V2 (Z5m (Z03 (W4 h.ne (X2w h.u1 (Z0 5) (Z0 7)) (Z0 8)) (Z03 (W4 h.in_ (Z0 8) (Z0 6)) (Z0l (W4 h.eq (U8 Z35 Z36 rfl Fx.f_len (Z1 (Z0 9) (Z6))) (Y6)))))) (Z8 (W8 (Z45 PySem.F.slot_list_append PySem.F.type_list_append mt_append Z0p (Z0 2) (Z1 (Y4) (Z6))))) (X4)))))) (Z8 (X7 (Z0 2))))))))))
def Z7u:List Str:=["moves", "editions", "found", "many", "move", "word"]
theorem Z3m:Z7u.Nodup:=by decide +kernel
theorem Y93:FnScope Z7u ["moves", "editions"] (defScope Z2e):=⟨rfl,rfl,rfl,Z3m,rfl,by decide +kernel,by decide +kernel⟩
def Y3x:MS:=Y0 (Y1p 2 3 (Z3 (Y4n) (Z3 (m_c (.int 0)) (Z7)))) (Y0 (Z40 (.nm 4) (Z05 (Z4 0)) (Z02 (Q0 (Y3 eqD (Z18 (Z4 4) (m_c (.int 0))) (m_c (.str "edition")))) (Y0 (Z40 (.nm 5) (Z05 (Z9 (Y7 2 (X5 [] (callP g_needs_of))) (Z3 (Z17 (Z4 1) (Y5n) (Z34 (Z4 3))) (Z3 (Z18 (Z4 4) (m_c (.int 1))) (Z7))))) (Y24 (Z4 2) (Z4 5) (m_c (.bl true)))) (X7m 3 W0m (m_c (.int 1)))) (Z02 (Z0z (Q0 (Y3 eqD (Z9 Z9j (Z3 (Z4 4) (Z7))) (m_c (.int 3)))) (Q0 (Y3 neD (Z18 (Z4 4) (m_c (.int 2))) (Y3 W2v (Z4 3) (m_c (.int 1)))))) (Y24 (Z4 2) (m_c (.str "late")) (m_c (.bl true))) (V3)))) (W3 (Z9 X0n (Z3 (Z9 Z6s (Z3 (Z8m (.nm 5) (Y4i (Z4 2)) (Z2o) (Z9 Y4h (Z3 (Z4 5) (Z7))) [5]) (Z7))) (Z7)))))
def g_all_needs:List D→PR:=Z53 6 Y3x
include Fx in
theorem Y9m (K_needs_of:Kept P HasW.w K mg base 2 (He.ga K "needs_of") (spP K 2 g_needs_of)) (F:FunD K "all_needs" "all_needs" (defArgs Z2e) (defBody Z2e) (defScope Z2e) dl [] f fd):FnG P HasW.w K mg base 3 f fd ["moves", "editions"] (spP K 2 g_all_needs):=fnP F Y93 fun cdv A outer s H E gu room=>by
  have h:Here (cxB P HasW.w K mg base Z7u "all_needs" (defScope Z2e) f cdv A outer s H E) (wxE E) 2:=W0 gu room
  unfold Y3x
  exact Z5 (Z7f rfl Z3m (i:=2) (j:=3) rfl rfl (by decide) rfl rfl (Z1 (Y3m) (Z1 (Y6) (Z6)))) (Z5 (Z37 Z3h rfl (Q1 (Z0 0)) (Y2 (i:=4) Z3m rfl (by first | exact Or.inl rfl | exact Or.inr rfl)) (Z8 (V2 (W4 h.eq (U6 (Z0 4) (Y6)) (Y4)) (Z5 (Z37 Z3h rfl (Q1 (Y8 (h.callP K_needs_of (by decide)) rfl Fx.g_needs_of K_needs_of.kp (Z1 (Z16 (Z0 1) (Z3d) (Z3e (Z0 3))) (Z1 (U6 (Z0 4) (Y6)) (Z6))))) (Y2 (i:=5) Z3m rfl (by first | exact Or.inl rfl | exact Or.inr rfl)) (Z8 (Y0g h.u1 (Z0 2) (Z0 5) (Z2r)))) (Z8 (X8a (i:=3) Z3m rfl (by first | exact Or.inl rfl | exact Or.inr rfl) (Y6) ip_add Y9f))) (Z8 (V2 (Z5m (Z03 (W4 h.eq (U8 Z35 Z36 rfl Fx.f_len (Z1 (Z0 4) (Z6))) (Y6)) (Z0l (W4 h.ne (U6 (Z0 4) (Y6)) (Z8p h.sub (Z0 3) (Y6)))))) (Z8 (Y0g h.u1 (Z0 2) (Y4) (Z2r))) (X4)))))) (Z8 (X7 (Z2v call_tuple_of Y1z rfl Fx.f_tuple (Z1 (U8 (Bv.CallR.or cr_sortedI cr_sortedS) Z9h rfl Fx.f_sorted (Z1 (Z5d (own:=[("word",5)]) (t:=(.nm 5)) rfl Z3m (Y19 (Z0 2)) (blkOk_by (N:=Z7u) (sc:=defScope Z2e) (by decide +kernel)) (by decide) (fun _ _ _ _ _=>Y2 (i:=5) Z3m rfl (by first | exact Or.inl rfl | exact Or.inr rfl)) (fun _ _ _ _ _=>Z08) (fun _ _ _ _ _=>Z2v Y8m Y8k rfl Fx.f_str (Z1 (Z0 5) (Z6)))) (Z6))) (Z6))))))
def Z6l:List Str:=["self", "events", "editions", "moves", "at", "event", "move", "place", "key", "source"]
theorem Z1q:Z6l.Nodup:=by decide +kernel
theorem Y74:FnScope Z6l ["self", "events"] (defScope Z1s):=⟨rfl,rfl,rfl,Z1q,rfl,by decide +kernel,by decide +kernel⟩
def Y2o:MS:=Y0 (Z02 (Z0e (X8 (Z9 (Y7 1 (X5 [] (callP g_is_sequence))) (Z3 (Z4 1) (Z7))))) (Z3q "InvalidEvent" "at" (Z3 (m_c (.int 0)) (Z7))) (V3)) (Y0 (Y1p 2 3 (Z3 (Z4j (Z7)) (Z3 (Z4j (Z7)) (Z7)))) (Y0 (Z40 (.tp [(.nm 4),(.nm 5)]) (Y8x (Z3 (Z4 1) (Z7))) (Y0 (V0 6 (Z9 (Y7 1 (X5 [] (callP g_move_in))) (Z3 (Z4 5) (Z7)))) (Y0 (Z02 (Z5c (Q0 (Y3 isD (Z4 6) (m_c .non))) (Z0e (X8 (Z9 (Y7 2 (X5 [] (callP g_is_possible))) (Z3 (Z4 6) (Z3 (Z4 2) (Z7))))))) (Z3q "InvalidEvent" "at" (Z3 (Z4 4) (Z7))) (V3)) (Y0 (V9 (Z9l Z2q Z0f (Z4 3) (Z3 (Z4 6) (Z7)))) (Z02 (Q0 (Y3 eqD (Z18 (Z4 6) (m_c (.int 0))) (m_c (.str "edition")))) (V9 (Z9l Z2q Z0f (Z4 2) (Z3 (Z9 X0n (Z3 (Z8m (.tp [(.nm 7),(.nm 8),(.nm 9)]) (Z05 (Z18 (Z4 6) (m_c (.int 1)))) (Z2o) (Z1n (Z3 (Z4 7) (Z3 (Z4 8) (Z7)))) [7,8,9]) (Z7))) (Z7)))) (V3)))))) (Y0 (Z3p ["Story"] "events" (Z4 0) (Z9 X0n (Z3 (Z4 1) (Z7)))) (Y0 (Z3p ["Story"] "editions" (Z4 0) (Z9 X0n (Z3 (Z4 2) (Z7)))) (Y0 (Z3p ["Story"] "moves" (Z4 0) (Z9 X0n (Z3 (Z4 3) (Z7)))) (Z3p ["Story"] "asked_for" (Z4 0) (Z9 (Y7 2 (X5 [] (callP g_all_needs))) (Z3 (X6 ["Story"] "moves" (Z4 0)) (Z3 (X6 ["Story"] "editions" (Z4 0)) (Z7))))))))))
def Z5r:List X→Sto→R X:=Y0p 10 Y2o
include Fx in
theorem Y7v (X_InvalidEvent:Xe.ErrOk P K (He.ga K "InvalidEvent") (X03 "InvalidEvent" K) "at") (K_is_sequence:Kept P HasW.w K mg base 1 (He.ga K "is_sequence") (spP K 1 g_is_sequence)) (K_move_in:Kept P HasW.w K mg base 5 (He.ga K "move_in") (spP K 1 g_move_in)) (K_is_possible:Kept P HasW.w K mg base 2 (He.ga K "is_possible") (spP K 2 g_is_possible)) (K_all_needs:Kept P HasW.w K mg base 3 (He.ga K "all_needs") (spP K 2 g_all_needs)) (F:FunD K "__init__" "Story.__init__" (defArgs Z1s) (defBody Z1s) (defScope Z1s) dl [] f fd):FnG P HasW.w K mg base 6 f fd ["self", "events"] (spE K 2 Z5r):=fnE F Y74 fun cdv A outer s H E gu room=>by
  have h:Here (cxB P HasW.w K mg base Z6l "Story.__init__" (defScope Z1s) f cdv A outer s H E) (wxE E) 5:=W0 gu room
  unfold Y2o
  exact Z5 (V2 (Z0o (X0 (Y8 (h.callP K_is_sequence (by decide)) rfl Fx.g_is_sequence K_is_sequence.kp (Z1 (Z0 1) (Z6))))) (Z8 (Z2s rfl h X_InvalidEvent Fx.g_InvalidEvent rfl (Z1 (Y6) (Z6)))) (X4)) (Z5 (Z7f rfl Z1q (i:=2) (j:=3) rfl rfl (by decide) rfl rfl (Z1 (Z26 (Z6)) (Z1 (Z26 (Z6)) (Z6)))) (Z5 (Z37 Z3h rfl (Y7p rfl Fx.f_enumerate (Z1 (Z0 1) (Z6))) (Z2t rfl (Y9 (Y2 (i:=4) Z1q rfl (by first | exact Or.inl rfl | exact Or.inr rfl)) (Y9 (Y2 (i:=5) Z1q rfl (by first | exact Or.inl rfl | exact Or.inr rfl)) (Z07)))) (Z5 (W2 (i:=6) Z1q rfl (by first | exact Or.inl rfl | exact Or.inr rfl) (Y8 (h.callP K_move_in (by decide)) rfl Fx.g_move_in K_move_in.kp (Z1 (Z0 5) (Z6)))) (Z5 (V2 (Z5m (Z5s (W4 h.is_ (Z0 6) (Z0j)) (Z38 (Z0o (X0 (Y8 (h.callP K_is_possible (by decide)) rfl Fx.g_is_possible K_is_possible.kp (Z1 (Z0 6) (Z1 (Z0 2) (Z6))))))))) (Z8 (Z2s rfl h X_InvalidEvent Fx.g_InvalidEvent rfl (Z1 (Z0 4) (Z6)))) (X4)) (Z5 (W8 (Z45 PySem.F.slot_list_append PySem.F.type_list_append mt_append Z0p (Z0 3) (Z1 (Z0 6) (Z6)))) (Z8 (V2 (W4 h.eq (U6 (Z0 6) (Y6)) (Y4)) (Z8 (W8 (Z45 PySem.F.slot_list_append PySem.F.type_list_append mt_append Z0p (Z0 2) (Z1 (Z2v call_tuple_of Y1z rfl Fx.f_tuple (Z1 (Z5d (own:=[("place",7),("key",8),("source",9)]) (t:=(.tp [(.nm 7),(.nm 8),(.nm 9)])) rfl Z1q (Q1 (U6 (Z0 6) (Y6))) (blkOk_by (N:=Z6l) (sc:=defScope Z1s) (by decide +kernel)) (by decide) (fun _ _ _ _ _=>Z2t rfl (Y9 (Y2 (i:=7) Z1q rfl (by first | exact Or.inl rfl | exact Or.inr rfl)) (Y9 (Y2 (i:=8) Z1q rfl (by first | exact Or.inl rfl | exact Or.inr rfl)) (Y9 (Y2 (i:=9) Z1q rfl (by first | exact Or.inl rfl | exact Or.inr rfl)) (Z07))))) (fun _ _ _ _ _=>Z08) (fun _ _ _ _ _=>Z0k (Z1 (Z0 7) (Z1 (Z0 8) (Z6))))) (Z6))) (Z6))))) (X4))))))) (Z5 (Z1o ["Story"] Fx.at_Story_events (Z0 0) (Z2v call_tuple_of Y1z rfl Fx.f_tuple (Z1 (Z0 1) (Z6)))) (Z5 (Z1o ["Story"] Fx.at_Story_editions (Z0 0) (Z2v call_tuple_of Y1z rfl Fx.f_tuple (Z1 (Z0 2) (Z6)))) (Z5 (Z1o ["Story"] Fx.at_Story_moves (Z0 0) (Z2v call_tuple_of Y1z rfl Fx.f_tuple (Z1 (Z0 3) (Z6)))) (Z8 (Z1o ["Story"] Fx.at_Story_asked_for (Z0 0) (Y8 (h.callP K_all_needs (by decide)) rfl Fx.g_all_needs K_all_needs.kp (Z1 (Y5 ["Story"] Fx.at_Story_moves (Z0 0)) (Z1 (Y5 ["Story"] Fx.at_Story_editions (Z0 0)) (Z6)))))))))))
def X0w:List Str:=["tool", "lets", "fault", "let", "closure", "standing", "teller", "steps", "key"]
theorem Z79:X0w.Nodup:=by decide +kernel
theorem X7p:FnScope X0w ["tool", "lets", "fault"] (defScope Z6x):=⟨rfl,rfl,rfl,Z79,rfl,by decide +kernel,by decide +kernel⟩
def X4e:MS:=Y0 (V0 3 (Z9 (Y7 1 (X5 [] (callP g_need_lets))) (Z3 (Z4 1) (Z7)))) (Y0 (V9 (Z9 (Y7 1 (X5 [] (callP g_need_fault))) (Z3 (Z4 2) (Z7)))) (Y0 (V0 4 (Z9 (Y7 2 (X5 [] (made "Closure" mkM Z0b))) (Z3 (Z4 0) (Z3 (Z4 3) (Z7))))) (Y0 (Z40 (.nm 5) (Z05 (X6 ["Closure"] "order" (Z4 4))) (Y0 (V0 6 (Z9 (Y7 3 (X5 [] (made "Teller" mkM Z72))) (Z3 (Z4 0) (Z3 (Z4 3) (Z3 (Z4 4) (Z7)))))) (Y0 (Z02 (Z0z (Q0 (Y3 eqD (Z4 2) (m_c (.str "lost")))) (X8 (Z9 (Y7 3 (X5 [] (callP g_is_lost_from))) (Z3 (Z4 0) (Z3 (Z4 3) (Z3 (Z4 5) (Z7))))))) (Y0 (V9 (V5 "Teller" "lose" (Y7 2 (X5 [] Z73)) (Z4 6) (Z3 (Z4 5) (Z7)))) (W3 (Z9 (Y7 1 (X5 [] (made "Story" mkF Z5r))) (Z3 (X6 ["Story", "Teller"] "events" (Z4 6)) (Z7))))) (V3)) (Y0 (Z02 (X8 (Z9 (Y7 3 (X5 [] (callP g_shows_fault))) (Z3 (Z4 0) (Z3 (Z4 2) (Z3 (Z4 5) (Z7)))))) (Y0 (V9 (V5 "Teller" "build" (Y7 3 (X5 [] Z0c)) (Z4 6) (Z3 (Z4 5) (Z3 (V5 "Teller" "fresh_key" (X5 [] U1) (Z4 6) Z7) (Z7))))) (W3 (Z9 (Y7 1 (X5 [] (made "Story" mkF Z5r))) (Z3 (X6 ["Story", "Teller"] "events" (Z4 6)) (Z7))))) (V3)) (Y0 (V0 7 (Z9 (Y7 4 (X5 [] (callP g_steps_to_fault))) (Z3 (Z4 0) (Z3 (Z4 3) (Z3 (Z4 2) (Z3 (Z4 5) (Z7))))))) (Z02 (Q0 (Y3 gtD (Z9 Z9j (Z3 (Z4 7) (Z7))) (m_c (.int 0)))) (Y0 (V0 8 (V5 "Teller" "fresh_key" (X5 [] U1) (Z4 6) Z7)) (Y0 (V9 (V5 "Teller" "build" (Y7 3 (X5 [] Z0c)) (Z4 6) (Z3 (Z4 5) (Z3 (Z4 8) (Z7))))) (Y0 (V9 (V5 "Teller" "go" (Y7 4 (X5 [] (Z4e Z0c))) (Z4 6) (Z3 (Z4 5) (Z3 (Z18 (Z4 7) (m_c (.int 0))) (Z3 (Z4 8) (Z7)))))) (W3 (Z9 (Y7 1 (X5 [] (made "Story" mkF Z5r))) (Z3 (X6 ["Story", "Teller"] "events" (Z4 6)) (Z7))))))) (V3))))))) (W3 (m_c .non)))))
def g_story:List D→PR:=Z53 9 X4e
include Fx in
theorem X24 (K_need_lets:Kept P HasW.w K mg base 2 (He.ga K "need_lets") (spP K 1 g_need_lets)) (K_need_fault:Kept P HasW.w K mg base 2 (He.ga K "need_fault") (spP K 1 g_need_fault)) (K_Closure_init:Kept P HasW.w K mg base 9 (He.ma K (He.ga K "Closure") "__init__") (spE K 3 Z0b)) (K_Teller_init:Kept P HasW.w K mg base 1 (He.ma K (He.ga K "Teller") "__init__") (spE K 4 Z72)) (K_is_lost_from:Kept P HasW.w K mg base 4 (He.ga K "is_lost_from") (spP K 3 g_is_lost_from)) (K_Teller_lose:Kept P HasW.w K mg base 186 (He.ma K (He.ga K "Teller") "lose") (spE K 2 Z73)) (K_Story_init:Kept P HasW.w K mg base 6 (He.ma K (He.ga K "Story") "__init__") (spE K 2 Z5r)) (K_shows_fault:Kept P HasW.w K mg base 6 (He.ga K "shows_fault") (spP K 3 g_shows_fault)) (K_Teller_build:Kept P HasW.w K mg base 185 (He.ma K (He.ga K "Teller") "build") (spE K 3 Z0c)) (K_Teller_fresh_key:Kept P HasW.w K mg base 1 (He.ma K (He.ga K "Teller") "fresh_key") (spE K 1 U1)) (K_steps_to_fault:Kept P HasW.w K mg base 6 (He.ga K "steps_to_fault") (spP K 4 g_steps_to_fault)) (K_Teller_go:Kept P HasW.w K mg base 187 (He.ma K (He.ga K "Teller") "go") (spE K 4 (Z4e Z0c))) (F:FunD K "story" "story" (defArgs Z6x) (defBody Z6x) (defScope Z6x) dl [] f fd):FnG P HasW.w K mg base 188 f fd ["tool", "lets", "fault"] (spP K 3 g_story):=fnP F X7p fun cdv A outer s H E gu room=>by
  have h:Here (cxB P HasW.w K mg base X0w "story" (defScope Z6x) f cdv A outer s H E) (wxE E) 187:=W0 gu room
  unfold X4e
  exact Z5 (W2 (i:=3) Z79 rfl (by first | exact Or.inl rfl | exact Or.inr rfl) (Y8 (h.callP K_need_lets (by decide)) rfl Fx.g_need_lets K_need_lets.kp (Z1 (Z0 1) (Z6)))) (Z5 (W8 (Y8 (h.callP K_need_fault (by decide)) rfl Fx.g_need_fault K_need_fault.kp (Z1 (Z0 2) (Z6)))) (Z5 (W2 (i:=4) Z79 rfl (by first | exact Or.inl rfl | exact Or.inr rfl) (Y8 (h.make X3n (n:=2) Fx.M_Closure K_Closure_init (by decide)) rfl Fx.g_Closure Fx.M_Closure.kp (Z1 (Z0 0) (Z1 (Z0 3) (Z6))))) (Z5 (Z37 Z3h rfl (Q1 (Y5 ["Closure"] Fx.at_Closure_order (Z0 4))) (Y2 (i:=5) Z79 rfl (by first | exact Or.inl rfl | exact Or.inr rfl)) (Z5 (W2 (i:=6) Z79 rfl (by first | exact Or.inl rfl | exact Or.inr rfl) (Y8 (h.make X3n (n:=3) Fx.M_Teller K_Teller_init (by decide)) rfl Fx.g_Teller Fx.M_Teller.kp (Z1 (Z0 0) (Z1 (Z0 3) (Z1 (Z0 4) (Z6)))))) (Z5 (V2 (Z5m (Z03 (W4 h.eq (Z0 2) (Y4)) (Z0l (X0 (Y8 (h.callP K_is_lost_from (by decide)) rfl Fx.g_is_lost_from K_is_lost_from.kp (Z1 (Z0 0) (Z1 (Z0 3) (Z1 (Z0 5) (Z6))))))))) (Z5 (W8 (W9 (h.callE K_Teller_lose (by decide)) Fx.c_Teller Fx.m_Teller_lose (Z0 6) (Z1 (Z0 5) (Z6)))) (Z8 (X7 (Y8 (h.make Y4q (n:=1) Fx.M_Story K_Story_init (by decide)) rfl Fx.g_Story Fx.M_Story.kp (Z1 (Y5 ["Story", "Teller"] Fx.at_Story_Teller_events (Z0 6)) (Z6)))))) (X4)) (Z5 (V2 (X0 (Y8 (h.callP K_shows_fault (by decide)) rfl Fx.g_shows_fault K_shows_fault.kp (Z1 (Z0 0) (Z1 (Z0 2) (Z1 (Z0 5) (Z6)))))) (Z5 (W8 (W9 (h.callE K_Teller_build (by decide)) Fx.c_Teller Fx.m_Teller_build (Z0 6) (Z1 (Z0 5) (Z1 (Z5l (h.callE K_Teller_fresh_key (by decide)) Fx.c_Teller Fx.m_Teller_fresh_key (Z0 6)) (Z6))))) (Z8 (X7 (Y8 (h.make Y4q (n:=1) Fx.M_Story K_Story_init (by decide)) rfl Fx.g_Story Fx.M_Story.kp (Z1 (Y5 ["Story", "Teller"] Fx.at_Story_Teller_events (Z0 6)) (Z6)))))) (X4)) (Z5 (W2 (i:=7) Z79 rfl (by first | exact Or.inl rfl | exact Or.inr rfl) (Y8 (h.callP K_steps_to_fault (by decide)) rfl Fx.g_steps_to_fault K_steps_to_fault.kp (Z1 (Z0 0) (Z1 (Z0 3) (Z1 (Z0 2) (Z1 (Z0 5) (Z6))))))) (Z8 (V2 (W4 h.gt (U8 Z35 Z36 rfl Fx.f_len (Z1 (Z0 7) (Z6))) (Y6)) (Z5 (W2 (i:=8) Z79 rfl (by first | exact Or.inl rfl | exact Or.inr rfl) (Z5l (h.callE K_Teller_fresh_key (by decide)) Fx.c_Teller Fx.m_Teller_fresh_key (Z0 6))) (Z5 (W8 (W9 (h.callE K_Teller_build (by decide)) Fx.c_Teller Fx.m_Teller_build (Z0 6) (Z1 (Z0 5) (Z1 (Z0 8) (Z6))))) (Z5 (W8 (W9 (h.callE K_Teller_go (by decide)) Fx.c_Teller Fx.m_Teller_go (Z0 6) (Z1 (Z0 5) (Z1 (U6 (Z0 7) (Y6)) (Z1 (Z0 8) (Z6)))))) (Z8 (X7 (Y8 (h.make Y4q (n:=1) Fx.M_Story K_Story_init (by decide)) rfl Fx.g_Story Fx.M_Story.kp (Z1 (Y5 ["Story", "Teller"] Fx.at_Story_Teller_events (Z0 6)) (Z6)))))))) (X4)))))))) (Z8 (X7 (Z0j))))))
def Y1w:List Str:=["self"]
theorem X1f:Y1w.Nodup:=by decide +kernel
theorem X1s:FnScope Y1w ["self"] (defScope Z3u):=⟨rfl,rfl,rfl,X1f,rfl,by decide +kernel,by decide +kernel⟩
def Y6i:MS:=W3 (Z9 Z9j (Z3 (X6 ["Tool"] "rows" (Z4 0)) (Z7)))
def Y16:List D→PR:=Z53 1 Y6i
include Fx in
theorem X1j  (F:FunD K "__len__" "Tool.__len__" (defArgs Z3u) (defBody Z3u) (defScope Z3u) dl [] f fd):FnG P HasW.w K mg base 1 f fd ["self"] (spP K 1 Y16):=fnP F X1s fun cdv A outer s H E gu room=>by
  have h:Here (cxB P HasW.w K mg base Y1w "Tool.__len__" (defScope Z3u) f cdv A outer s H E) (wxE E) 0:=W0 gu room
  unfold Y6i
  exact Z8 (X7 (U8 Z35 Z36 rfl Fx.f_len (Z1 (Y5 ["Tool"] Fx.at_Tool_rows (Z0 0)) (Z6))))
def X0v:List Str:=["tool", "lets", "at", "let"]
theorem X21:X0v.Nodup:=by decide +kernel
theorem X7o:FnScope X0v ["tool", "lets", "at"] (defScope Z6w):=⟨rfl,rfl,rfl,X21,rfl,by decide +kernel,by decide +kernel⟩
def X4c:MS:=Y0 (V0 3 (Z9 (Y7 1 (X5 [] (callP g_need_lets))) (Z3 (Z4 1) (Z7)))) (Y0 (Z02 (Z0e (Q0 (Z76 leD ltD (m_c (.int 0)) (Z4 2) (Z9 (X2m "Tool" Y16) (Z3 (Z4 0) (Z7)))))) (X3t) (V3)) (W3 (X08 false (Z4 2) (X6 ["Closure"] "rows_done" (Z9 (Y7 2 (X5 [] (made "Closure" mkM Z0b))) (Z3 (Z4 0) (Z3 (Z4 3) (Z7))))))))
def g_comes:List D→PR:=Z53 4 X4c
include Fx in
theorem X23 (K_need_lets:Kept P HasW.w K mg base 2 (He.ga K "need_lets") (spP K 1 g_need_lets)) (K_Tool_len:Kept P HasW.w K mg base 1 (He.ma K (He.ga K "Tool") "__len__") (spP K 1 Y16)) (K_Closure_init:Kept P HasW.w K mg base 9 (He.ma K (He.ga K "Closure") "__init__") (spE K 3 Z0b)) (F:FunD K "comes" "comes" (defArgs Z6w) (defBody Z6w) (defScope Z6w) dl [] f fd):FnG P HasW.w K mg base 11 f fd ["tool", "lets", "at"] (spP K 3 g_comes):=fnP F X7o fun cdv A outer s H E gu room=>by
  have h:Here (cxB P HasW.w K mg base X0v "comes" (defScope Z6w) f cdv A outer s H E) (wxE E) 10:=W0 gu room
  unfold X4c
  exact Z5 (W2 (i:=3) X21 rfl (by first | exact Or.inl rfl | exact Or.inr rfl) (Y8 (h.callP K_need_lets (by decide)) rfl Fx.g_need_lets K_need_lets.kp (Z1 (Z0 1) (Z6)))) (Z5 (V2 (Z0o (X1y h.le h.lt (Y6) (Z0 2) ((K_Tool_len.lenO Fx.sp_Tool___len__ h (by decide) rfl Fx.f_len (Z1 (Z0 0) (Z6)))))) (Z8 (X8b)) (X4)) (Z8 (X7 (X79 h.u1 (Z0 2) (Y5 ["Closure"] Fx.at_Closure_rows_done (Y8 (h.make X3n (n:=2) Fx.M_Closure K_Closure_init (by decide)) rfl Fx.g_Closure Fx.M_Closure.kp (Z1 (Z0 0) (Z1 (Z0 3) (Z6)))))))))
def X8t:List Str:=["_law_script", "_law_za", "_law_zb", "_law_zhead", "_law_zmade", "_law_zmay", "_law_zword"]
theorem Y4t:X8t.Nodup:=by decide +kernel
theorem W2e:FnScope X8t ["_law_script"] (defScope Y26):=⟨rfl,rfl,rfl,Y4t,rfl,by decide +kernel,by decide +kernel⟩
def X8y:MS:=Y0 (Z8c (.tp [(.nm 1),(.nm 2)]) (Z18 (Z2b (Z3 (Z1n (Z3 (m_c (.str "x")) (Z3 (m_c (.str "y")) (Z7)))) (Z3 (Z1n (Z3 (m_c (.str "none")) (Z3 (m_c (.str "good")) (Z7)))) (Z3 (Z1n (Z3 (m_c (.str "old")) (Z3 (m_c (.str "a")) (Z7)))) (Z7))))) (Y3 X20 (Z9 X38 (Z3 (Z9 (Y7 2 (X5 [] (callP g__law_number))) (Z3 (Z4 0) (Z3 (m_c (.int 1)) (Z7)))) (Z7))) (m_c (.int 3))))) (Y0 (V0 3 (Y3 Z7o (Y3 Z7o (Y3 Z7o (Y3 Z7o (Y3 Z7o (m_c (.str "marks ")) (Z4 1)) (m_c (.str " "))) (Z4 2)) (m_c (.str "\nshown "))) (Z4 2))) (Y0 (V0 4 (Y7m "Tool" (Y7 2 (X5 [] (callP Z75))) (m_c (.gl "Tool")) (Z3 (Y3 Z7o (Y3 Z7o (Y3 Z7o (Y3 Z7o (Z4 3) (m_c (.str "\nasked "))) (Z4 1)) (m_c (.str "\ngive any take to "))) (Z4 2)) (Z7)))) (Y0 (V0 5 (Z18 (Z2b (Z3 (Z2b (Z3 (m_c (.str "late")) (Z7))) (Z3 (Z2b (Z3 (m_c (.str "back")) (Z7))) (Z3 (Z2b (Z3 (m_c (.str "alike")) (Z3 (m_c (.str "near")) (Z7)))) (Z3 (Z2b (Z7)) (Z7)))))) (Y3 Y7h (Z9 (Y7 2 (X5 [] (callP g__law_number))) (Z3 (Z4 0) (Z3 (m_c (.int 2)) (Z7)))) (m_c (.int 2))))) (Y0 (Z02 (Q0 (Y3 neD (Z9 (Y7 2 (Y2i [1,0] (callP g_faults))) (Z3 (Z4 5) (Z3 (Z4 4) (Z7)))) (Z9 (Y7 2 (X5 [] (callP g_faults))) (Z3 (Z4 4) (Z3 (Z4 5) (Z7)))))) (W3 (m_c (.bl false))) (V3)) (Y0 (Z02 (Q0 (Y3 neD (Z9 (Y7 2 (Y2i [1,0] (callP g_standings))) (Z3 (Z4 5) (Z3 (Z4 4) (Z7)))) (Z9 (Y7 2 (X5 [] (callP g_standings))) (Z3 (Z4 4) (Z3 (Z4 5) (Z7)))))) (W3 (m_c (.bl false))) (V3)) (Y0 (Z40 (.nm 6) (Z05 (Z1n (Z3 (m_c (.str "again")) (Z3 (m_c (.str "fallen")) (Z3 (m_c (.str "lost")) (Z3 (m_c (.str "strange")) (Z3 (m_c (.str "stuck")) (Z3 (m_c (.str "vain")) (Z7))))))))) (Y0 (Z02 (Q0 (Y3 neD (Z9 (Y7 3 (Y2i [2,1,0] (callP g_happens))) (Z3 (Z4 6) (Z3 (Z4 5) (Z3 (Z4 4) (Z7))))) (Z9 (Y7 3 (X5 [] (callP g_happens))) (Z3 (Z4 4) (Z3 (Z4 5) (Z3 (Z4 6) (Z7))))))) (W3 (m_c (.bl false))) (V3)) (Z02 (Q0 (Y3 eqD (Y3 isD (Z9 (Y7 3 (Y2i [1,2,0] (callP g_story))) (Z3 (Z4 6) (Z3 (Z4 4) (Z3 (Z4 5) (Z7))))) (m_c .non)) (Z9 (Y7 3 (X5 [] (callP g_happens))) (Z3 (Z4 4) (Z3 (Z4 5) (Z3 (Z4 6) (Z7))))))) (W3 (m_c (.bl false))) (V3)))) (W3 (Z85 (Y3 Bv.isB (Z9 (Y7 3 (Y2i [2,1,0] (callP g_comes))) (Z3 (m_c (.int 0)) (Z3 (Z4 5) (Z3 (Z4 4) (Z7))))) (m_c (.bl true))) (Y3 Bv.isB (Z9 (Y7 3 (X5 [] (callP g_comes))) (Z3 (Z4 4) (Z3 (Z4 5) (Z3 (m_c (.int 0)) (Z7))))) (m_c (.bl true)))))))))))
def g_law:List D→PR:=Z53 7 X8y
include Fx in
theorem W12 (K__law_number:Kept P HasW.w K mg base 1 (He.ga K "_law_number") (spP K 2 g__law_number)) (K_Tool_read:Kept P HasW.w K mg base 5 (X6h "Tool" "read" K) (spP K 2 Z75)) (K_faults:Kept P HasW.w K mg base 11 (He.ga K "faults") (spP K 2 g_faults)) (N_faults_0_lets_tool:KeptN P HasW.w K mg base 11 (He.ga K "faults") (spP K 2 g_faults) 0 ["lets", "tool"] [1,0]) (K_standings:Kept P HasW.w K mg base 11 (He.ga K "standings") (spP K 2 g_standings)) (N_standings_0_lets_tool:KeptN P HasW.w K mg base 11 (He.ga K "standings") (spP K 2 g_standings) 0 ["lets", "tool"] [1,0]) (K_happens:Kept P HasW.w K mg base 11 (He.ga K "happens") (spP K 3 g_happens)) (N_happens_0_fault_lets_tool:KeptN P HasW.w K mg base 11 (He.ga K "happens") (spP K 3 g_happens) 0 ["fault", "lets", "tool"] [2,1,0]) (K_story:Kept P HasW.w K mg base 188 (He.ga K "story") (spP K 3 g_story)) (N_story_0_fault_tool_lets:KeptN P HasW.w K mg base 188 (He.ga K "story") (spP K 3 g_story) 0 ["fault", "tool", "lets"] [1,2,0]) (K_comes:Kept P HasW.w K mg base 11 (He.ga K "comes") (spP K 3 g_comes)) (N_comes_0_at_lets_tool:KeptN P HasW.w K mg base 11 (He.ga K "comes") (spP K 3 g_comes) 0 ["at", "lets", "tool"] [2,1,0]) (F:FunD K "law" "law" (defArgs Y26) (defBody Y26) (defScope Y26) dl [] f fd):FnG P HasW.w K mg base 189 f fd ["_law_script"] (spP K 1 g_law):=fnP F W2e fun cdv A outer s H E gu room=>by
  have h:Here (cxB P HasW.w K mg base X8t "law" (defScope Y26) f cdv A outer s H E) (wxE E) 188:=W0 gu room
  unfold X8y
  exact Z5 (Z6h (U6 (Z1g (Z1 (Z0k (Z1 (Y4) (Z1 (Y4) (Z6)))) (Z1 (Z0k (Z1 (Y4) (Z1 (Y4) (Z6)))) (Z1 (Z0k (Z1 (Y4) (Z1 (Y4) (Z6)))) (Z6))))) (Z8p h.mod (Z2v call_int1 X3g rfl Fx.f_int (Z1 (Y8 (h.callP K__law_number (by decide)) rfl Fx.g__law_number K__law_number.kp (Z1 (Z0 0) (Z1 (Y6) (Z6)))) (Z6))) (Y6))) (Z2t rfl (Y9 (Y2 (i:=1) Y4t rfl (by first | exact Or.inl rfl | exact Or.inr rfl)) (Y9 (Y2 (i:=2) Y4t rfl (by first | exact Or.inl rfl | exact Or.inr rfl)) (Z07))))) (Z5 (W2 (i:=3) Y4t rfl (by first | exact Or.inl rfl | exact Or.inr rfl) (Z8p h.add (Z8p h.add (Z8p h.add (Z8p h.add (Z8p h.add (Y4) (Z0 1)) (Y4)) (Z0 2)) (Y4)) (Z0 2))) (Z5 (W2 (i:=4) Y4t rfl (by first | exact Or.inl rfl | exact Or.inr rfl) (W1r (h.callP K_Tool_read (by decide)) Fx.cm_Tool_read (X7z rfl Fx.g_Tool) (Z1 (Z8p h.add (Z8p h.add (Z8p h.add (Z8p h.add (Z0 3) (Y4)) (Z0 1)) (Y4)) (Z0 2)) (Z6)))) (Z5 (W2 (i:=5) Y4t rfl (by first | exact Or.inl rfl | exact Or.inr rfl) (U6 (Z1g (Z1 (Z1g (Z1 (Y4) (Z6))) (Z1 (Z1g (Z1 (Y4) (Z6))) (Z1 (Z1g (Z1 (Y4) (Z1 (Y4) (Z6)))) (Z1 (Z1g (Z6)) (Z6)))))) (Z8p h.fdiv (Y8 (h.callP K__law_number (by decide)) rfl Fx.g__law_number K__law_number.kp (Z1 (Z0 0) (Z1 (Y6) (Z6)))) (Y6)))) (Z5 (V2 (W4 h.ne (Z86 (h.callNP N_faults_0_lets_tool (by decide) (by decide)) rfl Fx.g_faults N_faults_0_lets_tool.kp (Z5e (Z0 5) (Z5e (Z0 4) (Y84)))) (Y8 (h.callP K_faults (by decide)) rfl Fx.g_faults K_faults.kp (Z1 (Z0 4) (Z1 (Z0 5) (Z6))))) (Z8 (X7 (Z2r))) (X4)) (Z5 (V2 (W4 h.ne (Z86 (h.callNP N_standings_0_lets_tool (by decide) (by decide)) rfl Fx.g_standings N_standings_0_lets_tool.kp (Z5e (Z0 5) (Z5e (Z0 4) (Y84)))) (Y8 (h.callP K_standings (by decide)) rfl Fx.g_standings K_standings.kp (Z1 (Z0 4) (Z1 (Z0 5) (Z6))))) (Z8 (X7 (Z2r))) (X4)) (Z5 (Z37 Z3h rfl (Q1 (Z0k (Z1 (Y4) (Z1 (Y4) (Z1 (Y4) (Z1 (Y4) (Z1 (Y4) (Z1 (Y4) (Z6))))))))) (Y2 (i:=6) Y4t rfl (by first | exact Or.inl rfl | exact Or.inr rfl)) (Z5 (V2 (W4 h.ne (Z86 (h.callNP N_happens_0_fault_lets_tool (by decide) (by decide)) rfl Fx.g_happens N_happens_0_fault_lets_tool.kp (Z5e (Z0 6) (Z5e (Z0 5) (Z5e (Z0 4) (Y84))))) (Y8 (h.callP K_happens (by decide)) rfl Fx.g_happens K_happens.kp (Z1 (Z0 4) (Z1 (Z0 5) (Z1 (Z0 6) (Z6)))))) (Z8 (X7 (Z2r))) (X4)) (Z8 (V2 (W4 h.eq (Z2p h.is_ (Z86 (h.callNP N_story_0_fault_tool_lets (by decide) (by decide)) rfl Fx.g_story N_story_0_fault_tool_lets.kp (Z5e (Z0 6) (Z5e (Z0 4) (Z5e (Z0 5) (Y84))))) (Z0j)) (Y8 (h.callP K_happens (by decide)) rfl Fx.g_happens K_happens.kp (Z1 (Z0 4) (Z1 (Z0 5) (Z1 (Z0 6) (Z6)))))) (Z8 (X7 (Z2r))) (X4))))) (Z8 (X7 (Z6g (Z2p h.isB (Z86 (h.callNP N_comes_0_at_lets_tool (by decide) (by decide)) rfl Fx.g_comes N_comes_0_at_lets_tool.kp (Z5e (Y6) (Z5e (Z0 5) (Z5e (Z0 4) (Y84))))) (Z2r)) (Z3g (Z2p h.isB (Y8 (h.callP K_comes (by decide)) rfl Fx.g_comes K_comes.kp (Z1 (Z0 4) (Z1 (Z0 5) (Z1 (Y6) (Z6))))) (Z2r))))))))))))
end
end Lw
set_option maxHeartbeats 0
namespace Lw
open PySem PySem.Spec L2 Bv
open PyProof.Rows hiding St
theorem X6p {K:PySem.W.Frag} {h:Heap} {mg:Str→Option Value} (X:K.In h) (G:h.Ns mainGlobals mg) (c:Y7d tsL dsL K):Facts K mg:=⟨
  Z3f X G (c.test 0 rfl),
  Z3f X G (c.test 1 rfl),
  W5 X G (c.test 2 rfl),
  c.test 3 rfl,
  W5 X G (c.test 4 rfl),
  Z3f X G (c.test 5 rfl),
  Z3f X G (c.test 6 rfl),
  W5 X G (c.test 7 rfl),
  Z3f X G (c.test 8 rfl),
  X40 (u:=fun K=>(.type "str")) (c.test 9 rfl),
  Z3f X G (c.test 10 rfl),
  c.test 11 rfl,
  W5 X G (c.test 12 rfl),
  X4w X G (c.test 13 rfl),
  Y0o X G (c.test 14 rfl),
  Z3f X G (c.test 15 rfl),
  W5 X G (c.test 16 rfl),
  W5 X G (c.test 17 rfl),
  X2c (c.test 18 rfl),
  W2c (c.test 19 rfl),
  c.test 20 rfl,
  W5 X G (c.test 21 rfl),
  X2c (c.test 22 rfl),
  W2c (c.test 23 rfl),
  c.test 24 rfl,
  W5 X G (c.test 25 rfl),
  W5 X G (c.test 26 rfl),
  W5 X G (c.test 27 rfl),
  X40 (u:=fun K=>(.type "bool")) (c.test 28 rfl),
  Z3f X G (c.test 29 rfl),
  Q4 (c.test 30 rfl),
  Q4 (c.test 31 rfl),
  Q4 (c.test 32 rfl),
  Q4 (c.test 33 rfl),
  Y2a (c.test 34 rfl),
  W5 X G (c.test 35 rfl),
  W05 (c.test 36 rfl),
  X9c (c.test 37 rfl),
  Z3f X G (c.test 38 rfl),
  Z3f X G (c.test 39 rfl),
  W5 X G (c.test 40 rfl),
  Z3f X G (c.test 41 rfl),
  W5 X G (c.test 42 rfl),
  W5 X G (c.test 43 rfl),
  W5 X G (c.test 44 rfl),
  X40 (u:=fun K=>(.ref (He.ga K "Row"))) (c.test 45 rfl),
  Z3f X G (c.test 46 rfl),
  Q4 (c.test 47 rfl),
  Q4 (c.test 48 rfl),
  Q4 (c.test 49 rfl),
  Q4 (c.test 50 rfl),
  Q4 (c.test 51 rfl),
  Y2a (c.test 52 rfl),
  W5 X G (c.test 53 rfl),
  W05 (c.test 54 rfl),
  c.test 55 rfl,
  W5 X G (c.test 56 rfl),
  X4o (c.test 57 rfl),
  W5 X G (c.test 58 rfl),
  W5 X G (c.test 59 rfl),
  Q4 (c.test 60 rfl),
  Q4 (c.test 61 rfl),
  Y0o X G (c.test 62 rfl),
  W5 X G (c.test 63 rfl),
  Q4 (c.test 64 rfl),
  Q4 (c.test 65 rfl),
  Q4 (c.test 66 rfl),
  Q4 (c.test 67 rfl),
  Q4 (c.test 68 rfl),
  Q4 (c.test 69 rfl),
  He.cls_ok (c.test 70 rfl),
  He.meth_ok (c.test 71 rfl),
  He.cls_ok (c.test 72 rfl),
  He.meth_ok (c.test 73 rfl),
  He.cls_ok (c.test 74 rfl),
  He.meth_ok (c.test 75 rfl),
  He.meth_ok (c.test 76 rfl),
  Q4 (c.test 77 rfl),
  Q4 (c.test 78 rfl),
  Y2a (c.test 79 rfl),
  W5 X G (c.test 80 rfl),
  Y0o X G (c.test 81 rfl),
  W5 X G (c.test 82 rfl),
  Y0o X G (c.test 83 rfl),
  Y0o X G (c.test 84 rfl),
  W5 X G (c.test 85 rfl),
  W5 X G (c.test 86 rfl),
  W5 X G (c.test 87 rfl),
  W5 X G (c.test 88 rfl),
  W5 X G (c.test 89 rfl),
  W5 X G (c.test 90 rfl),
  W5 X G (c.test 91 rfl),
  W5 X G (c.test 92 rfl),
  W5 X G (c.test 93 rfl),
  W5 X G (c.test 94 rfl),
  Q4 (c.test 95 rfl),
  Q4 (c.test 96 rfl),
  W5 X G (c.test 97 rfl),
  He.meth_ok (c.test 98 rfl),
  Y2a (c.test 99 rfl),
  W5 X G (c.test 100 rfl),
  c.test 101 rfl,
  W5 X G (c.test 102 rfl),
  W5 X G (c.test 103 rfl),
  W5 X G (c.test 104 rfl),
  W5 X G (c.test 105 rfl),
  W5 X G (c.test 106 rfl),
  W5 X G (c.test 107 rfl),
  W5 X G (c.test 108 rfl),
  W5 X G (c.test 109 rfl),
  Z3f X G (c.test 110 rfl),
  W5 X G (c.test 111 rfl),
  X4o (c.test 112 rfl),
  W5 X G (c.test 113 rfl),
  W5 X G (c.test 114 rfl),
  W5 X G (c.test 115 rfl),
  Q4 (c.test 116 rfl),
  Q4 (c.test 117 rfl),
  Q4 (c.test 118 rfl),
  Q4 (c.test 119 rfl),
  Q4 (c.test 120 rfl),
  Q4 (c.test 121 rfl),
  Q4 (c.test 122 rfl),
  Q4 (c.test 123 rfl),
  Q4 (c.test 124 rfl),
  Q4 (c.test 125 rfl),
  Y2a (c.test 126 rfl),
  W5 X G (c.test 127 rfl),
  Y0o X G (c.test 128 rfl),
  He.cls_ok (c.test 129 rfl),
  He.meth_ok (c.test 130 rfl),
  He.meth_ok (c.test 131 rfl),
  X4w X G (c.test 132 rfl),
  He.meth_ok (c.test 133 rfl),
  He.meth_ok (c.test 134 rfl),
  Q4 (c.test 135 rfl),
  He.meth_ok (c.test 136 rfl),
  He.meth_ok (c.test 137 rfl),
  He.meth_ok (c.test 138 rfl),
  He.meth_ok (c.test 139 rfl),
  He.meth_ok (c.test 140 rfl),
  Z3f X G (c.test 141 rfl),
  He.meth_ok (c.test 142 rfl),
  He.meth_ok (c.test 143 rfl),
  He.meth_ok (c.test 144 rfl),
  He.meth_ok (c.test 145 rfl),
  He.meth_ok (c.test 146 rfl),
  He.meth_ok (c.test 147 rfl),
  He.meth_ok (c.test 148 rfl),
  He.meth_ok (c.test 149 rfl),
  He.meth_ok (c.test 150 rfl),
  He.meth_ok (c.test 151 rfl),
  W5 X G (c.test 152 rfl),
  Y0o X G (c.test 153 rfl),
  W5 X G (c.test 154 rfl),
  W5 X G (c.test 155 rfl),
  W5 X G (c.test 156 rfl),
  W5 X G (c.test 157 rfl),
  W5 X G (c.test 158 rfl),
  W5 X G (c.test 159 rfl),
  W5 X G (c.test 160 rfl),
  Q4 (c.test 161 rfl),
  Q4 (c.test 162 rfl),
  Q4 (c.test 163 rfl),
  W5 X G (c.test 164 rfl),
  W5 X G (c.test 165 rfl),
  Q4 (c.test 166 rfl),
  Y2a (c.test 167 rfl),
  W5 X G (c.test 168 rfl),
  W5 X G (c.test 169 rfl),
  X97 (c.test 170 rfl),
  W5 X G (c.test 171 rfl),
  W5 X G (c.test 172 rfl)⟩
theorem all [HasW] {P:Program} {K:PySem.W.Frag} {h:Heap} {mg:Str→Option Value} {f:Addr} (X:K.In h) (G:h.Ns mainGlobals mg) (cx:X3f tsL dsL xsL K) (hP:P.main.file=PySem.Challenge.pw_wordingkept_k37_deciding_by_names.main.file) (hT:(P.main.scope.names.lookup ("super" : Str)).isSome=false) (hf:mg "law" = some (.ref f)) :
    ∃ fd:FuncData,(∀ (s:Shared) (v:Value),BindsTo s fd ⟨[v],[]⟩ [("_law_script",v)])∧∀ base:Heap,K.In base→base.Ns mainGlobals mg→FnG P HasW.w K mg base 189 f fd ["_law_script"] (spP K 1 g_law):=by
  have c:=cx.toB
  have Fx:=X6p X G c
  have e0:=hf.symm.trans (W5 X G (c.test 172 rfl))
  cases e0
  obtain ⟨fd_Step_init,F_Step_init⟩:=c.fun 0 (d:=Y34) rfl
  obtain ⟨fd_begun,F_begun⟩:=c.fun 1 (d:=X4h) rfl
  obtain ⟨fd_is_of_others,F_is_of_others⟩:=c.fun 2 (d:=Z92) rfl
  obtain ⟨fd_shows_own,F_shows_own⟩:=c.fun 3 (d:=Y4d) rfl
  obtain ⟨fd_is_let,F_is_let⟩:=c.fun 4 (d:=X2g) rfl
  obtain ⟨fd_movers,F_movers⟩:=c.fun 5 (d:=X2i) rfl
  obtain ⟨fd_Closure_note,F_Closure_note⟩:=c.fun 6 (d:=Z9w) rfl
  obtain ⟨fd_is_name,F_is_name⟩:=c.fun 7 (d:=Y8p) rfl
  obtain ⟨fd_is_sequence,F_is_sequence⟩:=c.fun 8 (d:=Y1e) rfl
  obtain ⟨fd_are_unlike,F_are_unlike⟩:=c.fun 9 (d:=Y2u) rfl
  obtain ⟨fd_is_word,F_is_word⟩:=c.fun 10 (d:=Y8q) rfl
  obtain ⟨fd_number_in,F_number_in⟩:=c.fun 11 (d:=Y4b) rfl
  obtain ⟨fd_keys_of,F_keys_of⟩:=c.fun 12 (d:=Y8r) rfl
  obtain ⟨fd_Teller_init,F_Teller_init⟩:=c.fun 13 (d:=Y07) rfl
  obtain ⟨fd_Teller_fresh_key,F_Teller_fresh_key⟩:=c.fun 14 (d:=Z6p) rfl
  obtain ⟨fd_Teller_fresh_stranger,F_Teller_fresh_stranger⟩:=c.fun 15 (d:=Z4t) rfl
  obtain ⟨fd_Teller_those_at,F_Teller_those_at⟩:=c.fun 16 (d:=Z7d) rfl
  obtain ⟨fd_Teller_tell,F_Teller_tell⟩:=c.fun 17 (d:=Z58) rfl
  obtain ⟨fd_Teller_without,F_Teller_without⟩:=c.fun 18 (d:=Z8j) rfl
  obtain ⟨fd_Teller_path_to,F_Teller_path_to⟩:=c.fun 19 (d:=Z8i) rfl
  obtain ⟨fd_Row_fits,F_Row_fits⟩:=c.fun 20 (d:=Y6n) rfl
  obtain ⟨fd_Tool_len,F_Tool_len⟩:=c.fun 21 (d:=Y6p) rfl
  obtain ⟨fd__law_number,F__law_number⟩:=c.fun 22 (d:=Y1a) rfl
  obtain ⟨fd_whose_then,F_whose_then⟩:=c.fun 23 (d:=Y2y) rfl
  obtain ⟨fd_is_key,F_is_key⟩:=c.fun 24 (d:=X2f) rfl
  obtain ⟨fd_need_lets,F_need_lets⟩:=c.fun 25 (d:=Y4a) rfl
  obtain ⟨fd_need_fault,F_need_fault⟩:=c.fun 26 (d:=Y2x) rfl
  obtain ⟨fd_is_possible,F_is_possible⟩:=c.fun 27 (d:=Y1d) rfl
  obtain ⟨fd_needs_of,F_needs_of⟩:=c.fun 28 (d:=Y6s) rfl
  obtain ⟨fd_Teller_settle,F_Teller_settle⟩:=c.fun 29 (d:=Z4u) rfl
  obtain ⟨fd_Teller_wished,F_Teller_wished⟩:=c.fun 30 (d:=Z8z) rfl
  obtain ⟨fd_Teller_elder_stranger,F_Teller_elder_stranger⟩:=c.fun 31 (d:=Z4s) rfl
  obtain ⟨fd_Teller_check,F_Teller_check⟩:=c.fun 32 (d:=Z9y) rfl
  obtain ⟨fd_Teller_mover_from,F_Teller_mover_from⟩:=c.fun 33 (d:=Z6f) rfl
  obtain ⟨fd_Teller_stranger_near,F_Teller_stranger_near⟩:=c.fun 34 (d:=Z47) rfl
  obtain ⟨fd_Row_init,F_Row_init⟩:=c.fun 35 (d:=Y10) rfl
  obtain ⟨fd_are_names,F_are_names⟩:=c.fun 36 (d:=Y39) rfl
  obtain ⟨fd_names_in,F_names_in⟩:=c.fun 37 (d:=Y6r) rfl
  obtain ⟨fd_Tool_row_for,F_Tool_row_for⟩:=c.fun 38 (d:=Z90) rfl
  obtain ⟨fd_place_in,F_place_in⟩:=c.fun 39 (d:=Y6t) rfl
  obtain ⟨fd_all_needs,F_all_needs⟩:=c.fun 40 (d:=Y37) rfl
  obtain ⟨fd_Teller_change_to,F_Teller_change_to⟩:=c.fun 41 (d:=Z6o) rfl
  obtain ⟨fd_Tool_init,F_Tool_init⟩:=c.fun 42 (d:=Y0e) rfl
  obtain ⟨fd_Tool_becomes,F_Tool_becomes⟩:=c.fun 43 (d:=Z9z) rfl
  obtain ⟨fd_given_step,F_given_step⟩:=c.fun 44 (d:=Y2v) rfl
  obtain ⟨fd_looked_step,F_looked_step⟩:=c.fun 45 (d:=Y1f) rfl
  obtain ⟨fd_carry_steps,F_carry_steps⟩:=c.fun 46 (d:=Y1b) rfl
  obtain ⟨fd_is_lost_from,F_is_lost_from⟩:=c.fun 47 (d:=Z91) rfl
  obtain ⟨fd_places_in,F_places_in⟩:=c.fun 48 (d:=Y4c) rfl
  obtain ⟨fd_Teller_give,F_Teller_give⟩:=c.fun 49 (d:=Y06) rfl
  obtain ⟨fd_Teller_stay,F_Teller_stay⟩:=c.fun 50 (d:=Y09) rfl
  obtain ⟨fd_Row_read,F_Row_read⟩:=c.fun 51 (d:=Y6o) rfl
  obtain ⟨fd_delivery_steps,F_delivery_steps⟩:=c.fun 52 (d:=Z8k) rfl
  obtain ⟨fd_look_steps,F_look_steps⟩:=c.fun 53 (d:=Y2w) rfl
  obtain ⟨fd_editions_to,F_editions_to⟩:=c.fun 54 (d:=Y1c) rfl
  obtain ⟨fd_is_stuck,F_is_stuck⟩:=c.fun 55 (d:=Y6q) rfl
  obtain ⟨fd_move_in,F_move_in⟩:=c.fun 56 (d:=Y8s) rfl
  obtain ⟨fd_Tool_read,F_Tool_read⟩:=c.fun 57 (d:=Y36) rfl
  obtain ⟨fd_edition_steps,F_edition_steps⟩:=c.fun 58 (d:=Z80) rfl
  obtain ⟨fd_shows_fault,F_shows_fault⟩:=c.fun 59 (d:=Y1g) rfl
  obtain ⟨fd_steps_to_fault,F_steps_to_fault⟩:=c.fun 60 (d:=Z8l) rfl
  obtain ⟨fd_Story_init,F_Story_init⟩:=c.fun 61 (d:=Z8y) rfl
  obtain ⟨fd_all_steps,F_all_steps⟩:=c.fun 62 (d:=Y38) rfl
  obtain ⟨fd_is_met,F_is_met⟩:=c.fun 63 (d:=X2h) rfl
  obtain ⟨fd_Closure_go_from,F_Closure_go_from⟩:=c.fun 64 (d:=Z7c) rfl
  obtain ⟨fd_Closure_init,F_Closure_init⟩:=c.fun 65 (d:=Z9v) rfl
  obtain ⟨fd_happens,F_happens⟩:=c.fun 66 (d:=Y8o) rfl
  obtain ⟨fd_faults,F_faults⟩:=c.fun 67 (d:=X2e) rfl
  obtain ⟨fd_standings,F_standings⟩:=c.fun 68 (d:=Y4e) rfl
  obtain ⟨fd_comes,F_comes⟩:=c.fun 69 (d:=X4i) rfl
  obtain ⟨fd_Teller_build,F_Teller_build⟩:=c.fun 70 (d:=Z9x) rfl
  obtain ⟨fd_Teller_come,F_Teller_come⟩:=c.fun 71 (d:=Y05) rfl
  obtain ⟨fd_Teller_lose,F_Teller_lose⟩:=c.fun 72 (d:=Y08) rfl
  obtain ⟨fd_Teller_go,F_Teller_go⟩:=c.fun 73 (d:=Y35) rfl
  obtain ⟨fd_story,F_story⟩:=c.fun 74 (d:=X4j) rfl
  obtain ⟨fd_law,F_law⟩:=c.fun 75 (d:=W06) rfl
  have b0:=F_law.bindsA (ps:=["_law_script"]) fun _ _ _ _ _ _ us hl=>match us,hl with | [_],_=>rfl
  refine ⟨fd_law,fun s v=>b0 s [v] rfl,fun base _ _=>?_⟩
  have X_InvalidText:Xe.ErrOk P K (He.ga K "InvalidText") (X03 "InvalidText" K) "at" := X2k (d:=Z6a) (b := .ve) Y5j (.inr (.inl rfl)) (cx.seen 0 rfl) (c.test 175 rfl) (c.test 176 rfl) (c.test 177 rfl) hP hT
  have X_InvalidRow:Xe.ErrOk P K (He.ga K "InvalidRow") (X03 "InvalidRow" K) "word" := X2k (d:=Z6y) (b := .ve) Y7g (.inl rfl) (cx.seen 1 rfl) (c.test 178 rfl) (c.test 179 rfl) (c.test 180 rfl) hP hT
  have X_InvalidTool:Xe.ErrOk P K (He.ga K "InvalidTool") (X03 "InvalidTool" K) "word" := X2k (d:=Z6b) (b := .ve) Y5k (.inl rfl) (cx.seen 2 rfl) (c.test 181 rfl) (c.test 182 rfl) (c.test 183 rfl) hP hT
  have X_InvalidEvent:Xe.ErrOk P K (He.ga K "InvalidEvent") (X03 "InvalidEvent" K) "at" := X2k (d:=Z5q) (b := .ve) Y4f (.inr (.inl rfl)) (cx.seen 3 rfl) (c.test 184 rfl) (c.test 185 rfl) (c.test 186 rfl) hP hT
  have K_Step_init:=Q5 F_Step_init (Y9j (P:=P) (base:=base) Fx  F_Step_init) fun _ _ _ _ _ _ us hl=>match us,hl with | [_,_,_,_,_],_=>rfl
  have K_begun:=Q5 F_begun (X7a (P:=P) (base:=base) Fx  F_begun) fun _ _ _ _ _ _ us hl=>match us,hl with | [_],_=>rfl
  have K_is_of_others:=Q5 F_is_of_others (Y42 (P:=P) (base:=base) Fx  F_is_of_others) fun _ _ _ _ _ _ us hl=>match us,hl with | [_],_=>rfl
  have K_shows_own:=Q5 F_shows_own (Y9t (P:=P) (base:=base) Fx  F_shows_own) fun _ _ _ _ _ _ us hl=>match us,hl with | [_,_,_],_=>rfl
  have K_is_let:=Q5 F_is_let (X5l (P:=P) (base:=base) Fx  F_is_let) fun _ _ _ _ _ _ us hl=>match us,hl with | [_,_,_,_],_=>rfl
  have K_movers:=Q5 F_movers (X5n (P:=P) (base:=base) Fx  F_movers) fun _ _ _ _ _ _ us hl=>match us,hl with | [_,_,_,_],_=>rfl
  have K_Closure_note:=Q5 F_Closure_note (Y4w (P:=P) (base:=base) Fx  F_Closure_note) fun _ _ _ _ _ _ us hl=>match us,hl with | [_,_,_],_=>rfl
  have K_is_name:=Q5 F_is_name (X3p (P:=P) (base:=base) Fx  F_is_name) fun _ _ _ _ _ _ us hl=>match us,hl with | [_],_=>rfl
  have K_is_sequence:=Q5 F_is_sequence (Y5y (P:=P) (base:=base) Fx  F_is_sequence) fun _ _ _ _ _ _ us hl=>match us,hl with | [_],_=>rfl
  have K_are_unlike:=Q5 F_are_unlike (Y7w (P:=P) (base:=base) Fx  F_are_unlike) fun _ _ _ _ _ _ us hl=>match us,hl with | [_],_=>rfl
  have K_is_word:=Q5 F_is_word (X3q (P:=P) (base:=base) Fx  F_is_word) fun _ _ _ _ _ _ us hl=>match us,hl with | [_,_],_=>rfl
  have K_number_in:=Q5 F_number_in (Y9r (P:=P) (base:=base) Fx  F_number_in) fun _ _ _ _ _ _ us hl=>match us,hl with | [_],_=>rfl
  have K_keys_of:=Q5 F_keys_of (X3r (P:=P) (base:=base) Fx  F_keys_of) fun _ _ _ _ _ _ us hl=>match us,hl with | [_],_=>rfl
  have K_Teller_init:=Q5 F_Teller_init (Y5r (P:=P) (base:=base) Fx  F_Teller_init) fun _ _ _ _ _ _ us hl=>match us,hl with | [_,_,_,_],_=>rfl
  have K_Teller_fresh_key:=Q5 F_Teller_fresh_key (Y0j (P:=P) (base:=base) Fx  F_Teller_fresh_key) fun _ _ _ _ _ _ us hl=>match us,hl with | [_],_=>rfl
  have K_Teller_fresh_stranger:=Q5 F_Teller_fresh_stranger (Z7j (P:=P) (base:=base) Fx  F_Teller_fresh_stranger) fun _ _ _ _ _ _ us hl=>match us,hl with | [_],_=>rfl
  have K_Teller_those_at:=Q5 F_Teller_those_at (Y1o (P:=P) (base:=base) Fx  F_Teller_those_at) fun _ _ _ _ _ _ us hl=>match us,hl with | [_,_],_=>rfl
  have K_Teller_tell:=X41 F_Teller_tell (Z95 (P:=P) (base:=base) Fx  F_Teller_tell) (by simp [DefB.dvs,Z58]) fun _ _ _ _ _ _ _ us its hl hi=>match us,its,hl,hi with | [_,_,_,_],[_,_],_,_=>⟨_,rfl,rfl⟩
  have D_Teller_tell_2:=W1l (dxs:=[.non, .non]) F_Teller_tell (Z95 (P:=P) (base:=base) Fx  F_Teller_tell) 2 0 (by simp [DefB.dvs,Z58]) rfl (fun W H => .cons (.non) (.cons (.non) (.nil))) fun _ _ _ _ _ _ _ us its hl hi=>match us,its,hl,hi with | [_,_],[_,_],_,_=>⟨_,rfl,rfl⟩
  have K_Teller_without:=Q5 F_Teller_without (Y2e (P:=P) (base:=base) Fx  F_Teller_without) fun _ _ _ _ _ _ us hl=>match us,hl with | [_,_],_=>rfl
  have K_Teller_path_to:=Q5 F_Teller_path_to (Y2d (P:=P) (base:=base) Fx  F_Teller_path_to) fun _ _ _ _ _ _ us hl=>match us,hl with | [_,_],_=>rfl
  have K_Row_fits:=Q5 F_Row_fits (X1g (P:=P) (base:=base) Fx  F_Row_fits) fun _ _ _ _ _ _ us hl=>match us,hl with | [_,_,_],_=>rfl
  have K_Tool_len:=Q5 F_Tool_len (X1j (P:=P) (base:=base) Fx  F_Tool_len) fun _ _ _ _ _ _ us hl=>match us,hl with | [_],_=>rfl
  have K__law_number:=Q5 F__law_number (Y5u (P:=P) (base:=base) Fx  F__law_number) fun _ _ _ _ _ _ us hl=>match us,hl with | [_,_],_=>rfl
  have K_whose_then:=Q5 F_whose_then (Y70 (P:=P) (base:=base) Fx K_is_of_others F_whose_then) fun _ _ _ _ _ _ us hl=>match us,hl with | [_,_,_],_=>rfl
  have K_is_key:=Q5 F_is_key (X5k (P:=P) (base:=base) Fx K_is_name F_is_key) fun _ _ _ _ _ _ us hl=>match us,hl with | [_],_=>rfl
  have K_need_lets:=Q5 F_need_lets (Y9q (P:=P) (base:=base) Fx K_is_sequence K_is_word K_are_unlike F_need_lets) fun _ _ _ _ _ _ us hl=>match us,hl with | [_],_=>rfl
  have K_need_fault:=Q5 F_need_fault (Y7z (P:=P) (base:=base) Fx K_is_word F_need_fault) fun _ _ _ _ _ _ us hl=>match us,hl with | [_],_=>rfl
  have K_is_possible:=Q5 F_is_possible (Y5x (P:=P) (base:=base) Fx K_keys_of F_is_possible) fun _ _ _ _ _ _ us hl=>match us,hl with | [_,_],_=>rfl
  have K_needs_of:=Q5 F_needs_of (X1m (P:=P) (base:=base) Fx K_keys_of F_needs_of) fun _ _ _ _ _ _ us hl=>match us,hl with | [_,_],_=>rfl
  have K_Teller_settle:=X41 F_Teller_settle (Z8o (P:=P) (base:=base) Fx K_Teller_without K_Teller_those_at K_Teller_tell F_Teller_settle) (by simp [DefB.dvs,Z4u]) fun _ _ _ _ _ _ _ us its hl hi=>match us,its,hl,hi with | [_,_,_,_,_],[_,_],_,_=>⟨_,rfl,rfl⟩
  have D_Teller_settle_2:=W1l (dxs:=[.non, .non]) F_Teller_settle (Z8o (P:=P) (base:=base) Fx K_Teller_without K_Teller_those_at K_Teller_tell F_Teller_settle) 3 0 (by simp [DefB.dvs,Z4u]) rfl (fun W H => .cons (.non) (.cons (.non) (.nil))) fun _ _ _ _ _ _ _ us its hl hi=>match us,its,hl,hi with | [_,_,_],[_,_],_,_=>⟨_,rfl,rfl⟩
  have K_Teller_wished:=Q5 F_Teller_wished (Y29 (P:=P) (base:=base) Fx K_Teller_those_at K_Teller_fresh_stranger F_Teller_wished) fun _ _ _ _ _ _ us hl=>match us,hl with | [_,_,_],_=>rfl
  have K_Teller_elder_stranger:=Q5 F_Teller_elder_stranger (Z7i (P:=P) (base:=base) Fx K_Teller_those_at F_Teller_elder_stranger) fun _ _ _ _ _ _ us hl=>match us,hl with | [_,_],_=>rfl
  have K_Teller_check:=Q5 F_Teller_check (Y4y (P:=P) (base:=base) Fx K_Teller_those_at F_Teller_check) fun _ _ _ _ _ _ us hl=>match us,hl with | [_,_,_,_],_=>rfl
  have K_Teller_mover_from:=Q5 F_Teller_mover_from (Z9m (P:=P) (base:=base) Fx K_Teller_those_at F_Teller_mover_from) fun _ _ _ _ _ _ us hl=>match us,hl with | [_,_,_],_=>rfl
  have K_Teller_stranger_near:=Q5 F_Teller_stranger_near (Z8a (P:=P) (base:=base) Fx K_Teller_fresh_stranger F_Teller_stranger_near) fun _ _ _ _ _ _ us hl=>match us,hl with | [_,_,_],_=>rfl
  have K_Row_init:=X41 F_Row_init (X1h (P:=P) (base:=base) Fx X_InvalidRow K_is_word K_is_name F_Row_init) (by simp [DefB.dvs,Y10]) fun _ _ _ _ _ _ _ us its hl hi=>match us,its,hl,hi with | [_,_,_,_,_],[_],_,_=>⟨_,rfl,rfl⟩
  have K_are_names:=Q5 F_are_names (Y9o (P:=P) (base:=base) Fx K_is_sequence K_is_name K_are_unlike F_are_names) fun _ _ _ _ _ _ us hl=>match us,hl with | [_],_=>rfl
  have K_names_in:=Q5 F_names_in (X1l (P:=P) (base:=base) Fx K_is_name F_names_in) fun _ _ _ _ _ _ us hl=>match us,hl with | [_,_],_=>rfl
  have K_Tool_row_for:=Q5 F_Tool_row_for (Y40 (P:=P) (base:=base) Fx K_Row_fits F_Tool_row_for) fun _ _ _ _ _ _ us hl=>match us,hl with | [_,_,_],_=>rfl
  have K_place_in:=Q5 F_place_in (X1n (P:=P) (base:=base) Fx K_number_in K_is_key F_place_in) fun _ _ _ _ _ _ us hl=>match us,hl with | [_],_=>rfl
  have K_all_needs:=Q5 F_all_needs (Y9m (P:=P) (base:=base) Fx K_needs_of F_all_needs) fun _ _ _ _ _ _ us hl=>match us,hl with | [_,_],_=>rfl
  have K_Teller_change_to:=Q5 F_Teller_change_to (Y0i (P:=P) (base:=base) Fx K_Teller_those_at K_Teller_settle D_Teller_settle_2 F_Teller_change_to) fun _ _ _ _ _ _ us hl=>match us,hl with | [_,_,_],_=>rfl
  have K_Tool_init:=X41 F_Tool_init (Y9k (P:=P) (base:=base) Fx X_InvalidTool K_are_names K_is_sequence F_Tool_init) (by simp [DefB.dvs,Y0e]) fun _ _ _ _ _ _ _ us its hl hi=>match us,its,hl,hi with | [_,_,_,_,_],[_],_,_=>⟨_,rfl,rfl⟩
  have K_Tool_becomes:=Q5 F_Tool_becomes (Y4z (P:=P) (base:=base) Fx K_Tool_row_for F_Tool_becomes) fun _ _ _ _ _ _ us hl=>match us,hl with | [_,_,_],_=>rfl
  have K_given_step:=Q5 F_given_step (Y7x (P:=P) (base:=base) Fx K_Tool_becomes K_Step_init K_Tool_row_for F_given_step) fun _ _ _ _ _ _ us hl=>match us,hl with | [_,_,_,_],_=>rfl
  have K_looked_step:=Q5 F_looked_step (Y5z (P:=P) (base:=base) Fx K_Tool_becomes K_Step_init K_Tool_row_for F_looked_step) fun _ _ _ _ _ _ us hl=>match us,hl with | [_,_,_,_],_=>rfl
  have K_carry_steps:=Q5 F_carry_steps (Y5v (P:=P) (base:=base) Fx K_Tool_becomes K_Tool_row_for K_whose_then K_movers K_Step_init F_carry_steps) fun _ _ _ _ _ _ us hl=>match us,hl with | [_,_,_,_],_=>rfl
  have K_is_lost_from:=Q5 F_is_lost_from (Y41 (P:=P) (base:=base) Fx K_Tool_becomes F_is_lost_from) fun _ _ _ _ _ _ us hl=>match us,hl with | [_,_,_],_=>rfl
  have K_places_in:=Q5 F_places_in (Y9s (P:=P) (base:=base) Fx K_place_in F_places_in) fun _ _ _ _ _ _ us hl=>match us,hl with | [_],_=>rfl
  have K_Teller_give:=Q5 F_Teller_give (Y5q (P:=P) (base:=base) Fx K_Teller_those_at K_Teller_elder_stranger K_Tool_becomes F_Teller_give) fun _ _ _ _ _ _ us hl=>match us,hl with | [_,_,_,_,_],_=>rfl
  have K_Teller_stay:=Q5 F_Teller_stay (Y5t (P:=P) (base:=base) Fx K_Teller_wished K_Teller_settle D_Teller_settle_2 K_Teller_change_to F_Teller_stay) fun _ _ _ _ _ _ us hl=>match us,hl with | [_,_,_,_],_=>rfl
  have K_Row_read:=Q5 F_Row_read (X1i (P:=P) (base:=base) Fx X_InvalidText K_Row_init F_Row_read) fun _ _ _ _ _ _ us hl=>match us,hl with | [_,_],_=>rfl
  have K_delivery_steps:=Q5 F_delivery_steps (Y2f (P:=P) (base:=base) Fx K_given_step F_delivery_steps) fun _ _ _ _ _ _ us hl=>match us,hl with | [_,_,_],_=>rfl
  have K_look_steps:=Q5 F_look_steps (Y7y (P:=P) (base:=base) Fx K_looked_step F_look_steps) fun _ _ _ _ _ _ us hl=>match us,hl with | [_,_],_=>rfl
  have K_editions_to:=Q5 F_editions_to (Y5w (P:=P) (base:=base) Fx K_whose_then K_Step_init K_Tool_becomes K_Tool_row_for K_carry_steps F_editions_to) fun _ _ _ _ _ _ us hl=>match us,hl with | [_,_,_,_,_,_],_=>rfl
  have K_is_stuck:=Q5 F_is_stuck (X1k (P:=P) (base:=base) Fx K_shows_own K_given_step K_looked_step F_is_stuck) fun _ _ _ _ _ _ us hl=>match us,hl with | [_,_,_],_=>rfl
  have K_move_in:=Q5 F_move_in (X3s (P:=P) (base:=base) Fx K_places_in K_number_in F_move_in) fun _ _ _ _ _ _ us hl=>match us,hl with | [_],_=>rfl
  have K_Tool_read:=Q5 F_Tool_read (Y9l (P:=P) (base:=base) Fx X_InvalidText K_names_in K_Row_read K_Tool_init F_Tool_read) fun _ _ _ _ _ _ us hl=>match us,hl with | [_,_],_=>rfl
  have K_edition_steps:=Q5 F_edition_steps (Y3a (P:=P) (base:=base) Fx K_is_let K_editions_to F_edition_steps) fun _ _ _ _ _ _ us hl=>match us,hl with | [_,_,_,_],_=>rfl
  have K_shows_fault:=Q5 F_shows_fault (Y50 (P:=P) (base:=base) Fx K_is_of_others K_is_stuck F_shows_fault) fun _ _ _ _ _ _ us hl=>match us,hl with | [_,_,_],_=>rfl
  have K_steps_to_fault:=Q5 F_steps_to_fault (Y2g (P:=P) (base:=base) Fx K_given_step K_shows_own K_delivery_steps K_look_steps F_steps_to_fault) fun _ _ _ _ _ _ us hl=>match us,hl with | [_,_,_,_],_=>rfl
  have K_Story_init:=X41 F_Story_init (Y7v (P:=P) (base:=base) Fx X_InvalidEvent K_is_sequence K_move_in K_is_possible K_all_needs F_Story_init) (by simp [DefB.dvs,Z8y]) fun _ _ _ _ _ _ _ us its hl hi=>match us,its,hl,hi with | [_,_],[_],_,_=>⟨_,rfl,rfl⟩
  have K_all_steps:=Q5 F_all_steps (Y9n (P:=P) (base:=base) Fx K_delivery_steps K_look_steps K_edition_steps F_all_steps) fun _ _ _ _ _ _ us hl=>match us,hl with | [_,_,_,_],_=>rfl
  have K_is_met:=Q5 F_is_met (X5m (P:=P) (base:=base) Fx K_shows_fault K_steps_to_fault K_is_lost_from F_is_met) fun _ _ _ _ _ _ us hl=>match us,hl with | [_,_,_,_],_=>rfl
  have K_Closure_go_from:=Q5 F_Closure_go_from (Y1n (P:=P) (base:=base) Fx K_Closure_note K_all_steps K_edition_steps F_Closure_go_from) fun _ _ _ _ _ _ us hl=>match us,hl with | [_,_,_],_=>rfl
  have K_Closure_init:=Q5 F_Closure_init (Y4v (P:=P) (base:=base) Fx K_begun K_Closure_go_from F_Closure_init) fun _ _ _ _ _ _ us hl=>match us,hl with | [_,_,_],_=>rfl
  have K_happens:=Q5 F_happens (Y61 (P:=P) (base:=base) Fx K_need_lets K_need_fault K_is_met K_Closure_init F_happens) fun _ _ _ _ _ _ us hl=>match us,hl with | [_,_,_],_=>rfl
  have N_happens_0_fault_lets_tool:=Y8y 0 ["fault", "lets", "tool"] [2,1,0] F_happens (Y61 (P:=P) (base:=base) Fx K_need_lets K_need_fault K_is_met K_Closure_init F_happens) fun _ _ _ _ _ _ us ws h1 h2=>match us,ws,h1,h2 with | [],[_,_,_],_,_=>rfl
  have K_faults:=Q5 F_faults (Y9p (P:=P) (base:=base) Fx K_need_lets K_Closure_init K_is_met F_faults) fun _ _ _ _ _ _ us hl=>match us,hl with | [_,_],_=>rfl
  have N_faults_0_lets_tool:=Y8y 0 ["lets", "tool"] [1,0] F_faults (Y9p (P:=P) (base:=base) Fx K_need_lets K_Closure_init K_is_met F_faults) fun _ _ _ _ _ _ us ws h1 h2=>match us,ws,h1,h2 with | [],[_,_],_,_=>rfl
  have K_standings:=Q5 F_standings (Y22 (P:=P) (base:=base) Fx K_Closure_init K_need_lets F_standings) fun _ _ _ _ _ _ us hl=>match us,hl with | [_,_],_=>rfl
  have N_standings_0_lets_tool:=Y8y 0 ["lets", "tool"] [1,0] F_standings (Y22 (P:=P) (base:=base) Fx K_Closure_init K_need_lets F_standings) fun _ _ _ _ _ _ us ws h1 h2=>match us,ws,h1,h2 with | [],[_,_],_,_=>rfl
  have K_comes:=Q5 F_comes (X23 (P:=P) (base:=base) Fx K_need_lets K_Tool_len K_Closure_init F_comes) fun _ _ _ _ _ _ us hl=>match us,hl with | [_,_,_],_=>rfl
  have N_comes_0_at_lets_tool:=Y8y 0 ["at", "lets", "tool"] [2,1,0] F_comes (X23 (P:=P) (base:=base) Fx K_need_lets K_Tool_len K_Closure_init F_comes) fun _ _ _ _ _ _ us ws h1 h2=>match us,ws,h1,h2 with | [],[_,_,_],_,_=>rfl
  have KB:∀ i:Nat,Kept P HasW.w K mg base (5 + 3 * i) (He.ma K (He.ga K "Teller") "build") (spE K 3 (Z1b i)):=fun i=>by
    induction i with
    | zero=>exact Q5 F_Teller_build (Y28 (P:=P) (base:=base) F_Teller_build) fun _ _ _ _ _ _ us hl=>match us,hl with | [_,_,_],_=>rfl
    | succ i ih =>
      have K_Teller_come:Kept P HasW.w K mg base (5 + 3 * i + 1) (He.ma K (He.ga K "Teller") "come") (spE K 4 (Z4v (Z1b i))):=Q5 F_Teller_come (Z94 (P:=P) (base:=base) Fx (slf:=Z1b i) (by omega) ih K_Teller_fresh_key K_Teller_mover_from K_Teller_stranger_near K_Teller_tell D_Teller_tell_2 K_Teller_without K_Teller_settle K_Teller_change_to K_Teller_wished D_Teller_settle_2 F_Teller_come) fun _ _ _ _ _ _ us hl=>match us,hl with | [_,_,_,_],_=>rfl
      have K_Teller_go:Kept P HasW.w K mg base (5 + 3 * i + 2) (He.ma K (He.ga K "Teller") "go") (spE K 4 (Z4e (Z1b i))):=Q5 F_Teller_go (Y21 (P:=P) (base:=base) Fx (slf:=Z1b i) (by omega) ih K_Teller_give K_Teller_check K_Teller_stay K_Teller_come F_Teller_go) fun _ _ _ _ _ _ us hl=>match us,hl with | [_,_,_,_],_=>rfl
      exact (show Kept P HasW.w K mg base (5 + 3 * i + 3) (He.ma K (He.ga K "Teller") "build") (spE K 3 (Z1b (i + 1))) from Q5 F_Teller_build (Y4x (P:=P) (base:=base) Fx (slf:=Z1b i) (by omega) ih K_Teller_path_to K_Teller_go F_Teller_build) fun _ _ _ _ _ _ us hl=>match us,hl with | [_,_,_],_=>rfl)
  have K_Teller_build:Kept P HasW.w K mg base (185) (He.ma K (He.ga K "Teller") "build") (spE K 3 Z0c):=KB 60
  have K_Teller_come:Kept P HasW.w K mg base (186) (He.ma K (He.ga K "Teller") "come") (spE K 4 (Z4v Z0c)):=Q5 F_Teller_come (Z94 (P:=P) (base:=base) Fx (slf:=Z0c) (by omega) K_Teller_build K_Teller_fresh_key K_Teller_mover_from K_Teller_stranger_near K_Teller_tell D_Teller_tell_2 K_Teller_without K_Teller_settle K_Teller_change_to K_Teller_wished D_Teller_settle_2 F_Teller_come) fun _ _ _ _ _ _ us hl=>match us,hl with | [_,_,_,_],_=>rfl
  have K_Teller_go:Kept P HasW.w K mg base (187) (He.ma K (He.ga K "Teller") "go") (spE K 4 (Z4e Z0c)):=Q5 F_Teller_go (Y21 (P:=P) (base:=base) Fx (slf:=Z0c) (by omega) K_Teller_build K_Teller_give K_Teller_check K_Teller_stay K_Teller_come F_Teller_go) fun _ _ _ _ _ _ us hl=>match us,hl with | [_,_,_,_],_=>rfl
  have K_Teller_lose:=Q5 F_Teller_lose (Y5s (P:=P) (base:=base) Fx K_Teller_fresh_key K_Teller_build K_Tool_becomes K_Teller_settle D_Teller_settle_2 K_Teller_fresh_stranger F_Teller_lose) fun _ _ _ _ _ _ us hl=>match us,hl with | [_,_],_=>rfl
  have K_story:=Q5 F_story (X24 (P:=P) (base:=base) Fx K_need_lets K_need_fault K_Closure_init K_Teller_init K_is_lost_from K_Teller_lose K_Story_init K_shows_fault K_Teller_build K_Teller_fresh_key K_steps_to_fault K_Teller_go F_story) fun _ _ _ _ _ _ us hl=>match us,hl with | [_,_,_],_=>rfl
  have N_story_0_fault_tool_lets:=Y8y 0 ["fault", "tool", "lets"] [1,2,0] F_story (X24 (P:=P) (base:=base) Fx K_need_lets K_need_fault K_Closure_init K_Teller_init K_is_lost_from K_Teller_lose K_Story_init K_shows_fault K_Teller_build K_Teller_fresh_key K_steps_to_fault K_Teller_go F_story) fun _ _ _ _ _ _ us ws h1 h2=>match us,ws,h1,h2 with | [],[_,_,_],_,_=>rfl
  exact W12 (P:=P) (base:=base) Fx K__law_number K_Tool_read K_faults N_faults_0_lets_tool K_standings N_standings_0_lets_tool K_happens N_happens_0_fault_lets_tool K_story N_story_0_fault_tool_lets K_comes N_comes_0_at_lets_tool F_law
end Lw
set_option maxHeartbeats 4000000
namespace Bv
open PySem PySem.Spec L2
open PyProof.Rows hiding St
variable [HasW]
theorem W3d {i j:Int} (h:-(2 ^ 64) < j∧j < 2 ^ 64):W1z (.int i) (.int j)=some (.int (i * j)):=by
  show (if CMul i j then some (D.int (i * j)) else none)=_
  rw [if_pos (show CMul i j from .inr h)]
theorem X9n {i j:Int} (h:0 < j):X20 (.int i) (.int j)=some (.int (i % j)):=by
  show (if 0 < j then some (D.int (i % j)) else none)=_
  rw [if_pos h]
theorem X71 {i j:Int} (h:0 < j∧j < 1073741824):Y7h (.int i) (.int j)=some (.int (i / j)):=by
  show (if CDiv i j then some (D.int (i / j)) else none)=_
  rw [if_pos (show CDiv i j from h)]
theorem X8u {i j:Int}:Z7o (.int i) (.int j)=some (.int (i + j)):=rfl
theorem Z59 {v:D} {S:Sto}:(X.d v).get S=some v:=rfl
theorem W22 (l:List D):ds? (l.map X.d)=some l:=by
  induction l with
  | nil=>rfl
  | cons d r ih=>simp [ds?,ih]
end Bv
namespace Bv
open PySem PySem.Spec L2
open PyProof.Rows hiding St
variable [HasW]
section
variable {e e1:Ev} {S S1 S2 S3 S4:Sto} {m ma mb mc mo mi mb':M} {ms:MG (List X)} {mt mt2:MG Bool} {x y z:X} {xs ys:List X} {d d1 d2:D} {r:R X} {rb:R Bool} {ro:RO} {b c:Bool} {i:Nat}
theorem Z6r (h:e[i]?=some (some x)):Z4 i e S = .ok x S:=by
  unfold Z4
  rw [h]
theorem Y5l:m_c d e S = .ok (.d d) S:=rfl
theorem Z33:Z7 e S = .ok [] S:=rfl
theorem Q6 (h1:m e S = .ok x S1) (h2:ms e S1 = .ok xs S2):Z3 m ms e S = .ok (x :: xs) S2:=by
  unfold Z3
  rw [h1]
  show (ms e S1).bind _=_
  rw [h2]
  rfl
theorem Z82 {f:D→D→Option D} (h1:ma e S = .ok x S1) (h2:mb e S1 = .ok y S2) (h3:x.get S2=some d1) (h4:y.get S2=some d2) (h:f d1 d2=some d):Y3 f ma mb e S = .ok (.d d) S2:=by
  unfold Y3
  rw [h1]
  show (mb e S1).bind _=_
  rw [h2]
  show op2 f S2 x y=_
  unfold op2
  rw [h3,h4]
  show (match f d1 d2 with
    | some d=>R.ok (X.d d) S2
    | none => .bad)=_
  rw [h]
theorem Z49 {g:List X→Sto→R X} (h1:ms e S = .ok xs S1) (h:g xs S1=r):Z9 g ms e S=r:=by
  unfold Z9
  rw [h1]
  exact h
theorem Y8v {n:Nat} {g:List X→Sto→R X} (hl:xs.length=n) (h:g xs S=r):Y7 n (X5 [] g) xs S=r:=by
  unfold Y7 X5
  rw [if_pos (decide_eq_true hl),List.map_nil,List.append_nil]
  exact h
theorem X4u:∀ ds:List D,X0s S (ds.map X.d)=some ds
  | []=>rfl
  | d :: ds=>by
    show (match (X.d d).get S,X0s S (ds.map X.d) with
      | some d,some l=>some (d :: l)
      | _,_=>none)=_
    rw [X4u ds]
    rfl
theorem X73:∀ ds:List D,(ds.map X.d).all X.isD=true
  | []=>rfl
  | d :: ds=>by
    rw [List.map_cons,List.all_cons,X73 ds]
    rfl
theorem W4d {g:List D→PR} {ds:List D} (hx:xs=ds.map X.d) (h:g ds = .ok d):callP g xs S = .ok (.d d) S:=by
  subst hx
  unfold callP
  rw [X4u,X73]
  show (match g ds with
    | .ok d=>if true || d.noL then R.ok (X.d d) S else .bad
    | .err C fs=>if true || D.noLf fs then .err C fs S else .bad
    | .bad => .bad)=_
  rw [h]
  rfl
theorem X6n {g:List D→PR} (h:g [d1,d2] = .ok d):callP g [.d d1, .d d2] S = .ok (.d d) S:=W4d (ds:=[d1,d2]) rfl h
theorem W1c {j:Int} (h1:ma e S = .ok x S1) (h2:mb e S1 = .ok (.d (.int j)) S2) (h:ixO S2 x j=some z):Z18 ma mb e S = .ok z S2:=by
  unfold Z18
  rw [h1]
  show (mb e S1).bind _=_
  rw [h2]
  show Y3b ((X6r (.d (.int j))).bind (ixO S2 x)) S2=_
  show Y3b (ixO S2 x j) S2=_
  rw [h]
  rfl
theorem X86 {Cs:List Str} {f:Str} (h1:m e S = .ok x S1) (h:Y8e Cs f S1 x=some z):X6 Cs f m e S = .ok z S1:=by
  unfold X6
  rw [h1]
  show Y3b (Y8e Cs f S1 x) S1=_
  rw [h]
  rfl
theorem X4q {ds:List D} (h1:ms e S = .ok xs S1) (hd:ds? xs=some ds) (hl:ds.length ≤ sizeLine):Z1n ms e S = .ok (.d (.tup ds)) S1:=by
  unfold Z1n
  rw [h1]
  show X6k xs S1=_
  unfold X6k
  rw [hd]
  show (if ds.length ≤ sizeLine then _ else _)=_
  rw [if_pos hl]
theorem Y6u {ds:List D} (h1:ms e S = .ok xs S1) (hd:ds? xs=some ds) (hl:ds.length ≤ sizeLine):Z2b ms e S = .ok (.d (.lst ds)) S1:=by
  unfold Z2b
  rw [h1]
  show X6j xs S1=_
  unfold X6j
  rw [hd]
  show (if ds.length ≤ sizeLine then _ else _)=_
  rw [if_pos hl]
theorem W23:Y5n e S = .ok none S:=rfl
theorem X87 {j:Int} (h:m e S = .ok (.d (.int j)) S1):Z34 m e S = .ok (some j) S1:=by
  unfold Z34
  rw [h]
  rfl
theorem X6o {ml mh:MG (Option Int)} {lo hi:Option Int} (h1:m e S = .ok x S1) (h2:ml e S1 = .ok lo S2) (h3:mh e S2 = .ok hi S3) (h:slX S3 x lo hi=some z):Z17 m ml mh e S = .ok z S3:=by
  unfold Z17
  rw [h1]
  show (ml e S1).bind _=_
  rw [h2]
  show (mh e S2).bind _=_
  rw [h3]
  show Y3b (slX S3 x lo hi) S3=_
  rw [h]
  rfl
theorem W24 (h:m e S = .ok (.d (.bl b)) S1):Q0 m e S = .ok b S1:=by
  unfold Q0
  rw [h]
  rfl
theorem W2k {m1 m2:MS} (h1:m1 e S = .go (.nx e1) S1) (h2:m2 e1 S1=ro):Y0 m1 m2 e S=ro:=by
  unfold Y0
  rw [h1]
  exact h2
theorem X8l (h:m e S = .ok x S1):V0 i m e S = .go (.nx (e.set i (some x))) S1:=by
  unfold V0
  rw [h]
  rfl
theorem X98 (h:m e S = .ok x S1) (hg:x.get S1=some d):W3 m e S = .go (.rp d) S1:=by
  unfold W3
  rw [h]
  show (match x.get S1 with
    | some d=>RO.go (.rp d) S1
    | none => .bad)=_
  rw [hg]
theorem W2i {t:Tg} (h:m e S = .ok x S1) (ha:t.asg S1 x e=some e1):Z8c t m e S = .go (.nx e1) S1:=by
  unfold Z8c
  rw [h]
  show (match t.asg S1 x e with
    | some e1=>RO.go (.nx e1) S1
    | none => .bad)=_
  rw [ha]
theorem W1k {l:Lk} (h:m e S = .ok x S1) (hw:W0j S1 x=some (xs,l)):Z05 m e S = .ok (xs,l) S1:=by
  unfold Z05
  rw [h]
  show Y3b (W0j S1 x) S1=_
  rw [hw]
  rfl
theorem W2j {t:Tg} {mt:MIt} {body:MS} {l:Lk} (h:mt e S = .ok (xs,l) S1) (h2:Y4g t l body xs e S1=ro):Z40 t mt body e S=ro:=by
  unfold Z40
  rw [h]
  exact h2
theorem X88 {t:Tg} {body:MS} {l:Lk} (h:l.ok S=true):Y4g t l body [] e S = .go (.nx e) S:=by
  unfold Y4g
  rw [if_pos h]
section
variable {C p:Str} {fs:List (Str × D)} {v:D} {tab:List (Str × Bool)} {mb:MS} {j:Nat} {sx:SX}
theorem X99 {m1 m2:MS} {d:D} (h:m1 e S = .go (.rp d) S1):Y0 m1 m2 e S = .go (.rp d) S1:=by
  unfold Y0
  rw [h]
  rfl
end
end
section
variable {e e1:Ev} {S S1 S2 S3 S4:Sto} {m ma mb mo mi mx:M} {ms:MG (List X)} {x y z:X} {xs:List X} {d k:D} {i:Nat} {r:R X}
end
end Bv
namespace Bv
open PySem PySem.Spec L2
open PyProof.Rows hiding St
variable [HasW]
theorem X7j {d:D} {ds:List D} {p:PyData} {l:List PyData} (h:d.py=some p) (h2:pys ds=some l):pys (d :: ds)=some (p :: l):=by
  show (match d.py,pys ds with
    | some p,some l=>some (p :: l)
    | _,_=>none)=_
  rw [h,h2]
theorem W3e {a b:D} {p q:PyData} (ha:a.py=some p) (hb:b.py=some q) (da:p.depth ≤ 64) (db:q.depth ≤ 64):neD a b=some (.bl (!PyData.eqv p q)):=by
  unfold neD
  rw [ha,hb]
  show (if dOk p && dOk q then some (D.bl (!PyData.eqv p q)) else none)=_
  rw [show dOk p=true from decide_eq_true da,show dOk q=true from decide_eq_true db]
  rfl
section
variable {S:Sto} {n:Nat} {x:X} {xs:List X} {ds:List D}
theorem W3y:X0n [.d (.lst ds)] S = .ok (.d (.tup ds)) S:=by simp [X0n,items,W22]
end
section
variable {α β:Type}
end
end Bv
namespace Bv
open PySem PySem.Spec L2
open PyProof.Rows hiding St
variable [HasW]
def Fw (r:RO) (Q:RO→Prop):Prop:=Q r
def Nx (P:Ev→Sto→Prop) (r:RO):Prop:=∃ e S,r = .go (.nx e) S∧P e S
section
variable {e e1 e2:Ev} {S S1 S2 S3 S4:Sto} {m ma mb mc mo mi mx:M} {ms:MG (List X)} {mt mt2:MG Bool} {x y z w:X} {xs ys:List X} {d d1 d2 d3 d4:D} {r:R X} {rb:R Bool} {ro:RO} {b c b1 b2:Bool} {i j l:Nat} {Q Q2:RO→Prop} {k k1 k2:MS}
theorem Fw.seq (h:k1 e S = .go (.nx e1) S1) (h2:Fw (k e1 S1) Q):Fw (Y0 k1 k e S) Q:=by
  unfold Fw
  rw [W2k h rfl]
  exact h2
theorem Fw.one (h:Fw (Y0 k V3 e S) Q):Fw (k e S) Q:=by
  have q:Y0 k V3 e S=k e S:=by
    unfold Y0
    cases h:k e S with
    | go o T=>cases o <;> rfl
    | err C fs e T=>rfl
    | bad=>rfl
  unfold Fw at h ⊢
  rw [q] at h
  exact h
theorem Fw.nil (h:Q (.go (.nx e) S)):Fw (V3 e S) Q:=h
theorem Fw.set (h:m e S = .ok x S1) (h2:Fw (k (e.set i (some x)) S1) Q):Fw (Y0 (V0 i m) k e S) Q := .seq (X8l h) h2
theorem Fw.retP (h:m e S = .ok x S1) (hg:x.get S1=some d) (h2:Q (.go (.rp d) S1)):Fw (Y0 (W3 m) k e S) Q:=by
  unfold Fw
  rw [X99 (X98 h hg)]
  exact h2
section
variable {t:Tg} {Cs:List Str} {f C:Str} {f2:D→D→Option D} {mit:MIt} {tab:List (Str × Bool)} {sx:SX} {mx2:Ev→SX}
end
inductive Trn (P P2:Ev→Sto→Prop) (Q:RO→Prop):RO→Prop where
  | nx {ε:Ev} {σ:Sto} (h:P ε σ):Trn P P2 Q (.go (.nx ε) σ)
  | ct {ε:Ev} {σ:Sto} (h:P ε σ):Trn P P2 Q (.go (.ct ε) σ)
  | bk {ε:Ev} {σ:Sto} (h:P2 ε σ):Trn P P2 Q (.go (.bk ε) σ)
  | rt {ξ:X} {σ:Sto} (h:Q (.go (.rt ξ) σ)):Trn P P2 Q (.go (.rt ξ) σ)
  | rp {δ:D} {σ:Sto} (h:Q (.go (.rp δ) σ)):Trn P P2 Q (.go (.rp δ) σ)
  | err {C:Str} {fs:List (Str × D)} {ε:Ev} {σ:Sto} (h:Q (.err C fs ε σ)):Trn P P2 Q (.err C fs ε σ)
theorem X7q (h:Y0 k1 k e S=k1 e S) (hq:Q (k1 e S)):Fw (Y0 k1 k e S) Q:=by
  unfold Fw
  rw [h]
  exact hq
theorem Y12 {α:Type} {t:Tg} {lk:Lk} {body:MS} (f:α→X) (I:List α→Ev→Sto→Prop) (P2:Ev→Sto→Prop) (hok:∀ l e S,I l e S→lk.ok S=true)
    (step:∀ a l e S,I (a :: l) e S→∃ e1,t.asg S (f a) e=some e1∧Fw (body e1 S) (Trn (I l) P2 Q)) :
    ∀ (l:List α) (e:Ev) (S:Sto),I l e S→(∃ e2 S2,Y4g t lk body (l.map f) e S = .go (.nx e2) S2∧(I [] e2 S2 ∨ P2 e2 S2)) ∨ ((∀ e2 S2,Y4g t lk body (l.map f) e S ≠ .go (.nx e2) S2)∧Q (Y4g t lk body (l.map f) e S))
  | [],e,S,h => .inl ⟨e,S,X88 (hok _ _ _ h), .inl h⟩
  | a :: l,e,S,h=>by
    obtain ⟨e1,h1,h2⟩:=step a l e S h
    have u:Y4g t lk body ((a :: l).map f) e S=(match body e1 S with
      | .go (.nx e2) S2=>Y4g t lk body (l.map f) e2 S2
      | .go (.ct e2) S2=>Y4g t lk body (l.map f) e2 S2
      | .go (.bk e2) S2 => .go (.nx e2) S2
      | r=>r):=by
      show Y4g t lk body (f a :: l.map f) e S=_
      rw [Y4g,if_pos (hok _ _ _ h),h1]
      try rfl
    rw [u]
    unfold Fw at h2
    generalize hb:body e1 S=r at h2
    cases h2 with
    | nx h=>exact Y12 f I P2 hok step l _ _ h
    | ct h=>exact Y12 f I P2 hok step l _ _ h
    | bk h=>exact .inl ⟨_,_,rfl, .inr h⟩
    | rt h=>exact .inr ⟨fun _ _ q=>(nomatch q),h⟩
    | rp h=>exact .inr ⟨fun _ _ q=>(nomatch q),h⟩
    | err h=>exact .inr ⟨fun _ _ q=>(nomatch q),h⟩
theorem Fw.for_ {α:Type} {t:Tg} {it:MIt} {lk:Lk} {body:MS} {f:α→X} {l:List α} (hi:it e S = .ok (l.map f,lk) S1) (I:List α→Ev→Sto→Prop) (P2:Ev→Sto→Prop) (h0:I l e S1) (hok:∀ l e S,I l e S→lk.ok S=true)
    (step:∀ a l e S,I (a :: l) e S→∃ e1,t.asg S (f a) e=some e1∧Fw (body e1 S) (Trn (I l) P2 Q)) (fin:∀ e2 S2,I [] e2 S2 ∨ P2 e2 S2→Fw (k e2 S2) Q):Fw (Y0 (Z40 t it body) k e S) Q:=by
  have z:Z40 t it body e S=Y4g t lk body (l.map f) e S1:=W2j hi rfl
  rcases Y12 f I P2 hok step l e S1 h0 with ⟨e2,S2,h,h2⟩ | ⟨h,h2⟩
  · exact .seq (z.trans h) (fin e2 S2 h2)
  · rw [← z] at h h2
    refine X7q ?_ h2
    unfold Y0
    cases q:Z40 t it body e S with
    | go o T=>cases o with
      | nx e2=>exact (h e2 T q).elim
      | _=>rfl
    | err C fs e T=>rfl
    | bad=>rfl
theorem X5y {N:Nat} {mb:MS} {ds:List D} {p:PR} (h:Fw (mb (ev0 N (ds.map .d)) []) (fun r=>W2r r=p)):Z53 N mb ds=p:=h
end
end Bv
namespace Bv
open PySem PySem.Spec L2
open PyProof.Rows hiding St
variable [HasW]
def fl:Nat→D→Bool
  | _, .non=>true
  | _, .int _=>true
  | _, .str _=>true
  | n + 1, .tup ds=>ds.all (fl n)
  | n + 1, .lst ds=>ds.all (fl n)
  | _,_=>false
end Bv
namespace Bv
open PySem PySem.Spec L2
open PyProof.Rows hiding St
variable [HasW]
section
variable {T:Sto}
end
end Bv
namespace Lw
open PySem PySem.Spec L2 Bv
open PyProof.Rows hiding St
variable [HasW]
structure Sp where
  m:Str
  wh:Str
  he:Bool
  ot:Bool
  wa:Bool
  we:Bool
def spD (s:Sp):D := .tup [.str s.m, .str s.wh, .bl s.he, .bl s.ot, .bl s.wa, .bl s.we]
def spP (s:Sp):PyData := .tuple [.str s.m, .str s.wh, .bool s.he, .bool s.ot, .bool s.wa, .bool s.we]
def W3x:D→Sp
  | .tup [.str m, .str w, .bl a, .bl b, .bl c, .bl d]=>⟨m,w,a,b,c,d⟩
  | _=>⟨"", "",false,false,false,false⟩
section
variable {s r:Sp} {l:List Sp}
theorem X8i:(spD s).py=some (spP s):=rfl
theorem X4n:Y5g (spD s)=spP s:=rfl
theorem X0d:(spP s).depth ≤ 2:=by simp [spP,PyData.depth,PyData.depthAll]
theorem X5x:∀ l:List Sp,pys (l.map spD)=some (l.map spP)
  | []=>rfl
  | s :: l=>X7j X8i (X5x l)
theorem X0f:∀ l:List Sp,PyData.depthAll (l.map spP) ≤ 2
  | []=>by simp [PyData.depthAll]
  | s :: l=>by
    have h1:=X0d (s:=s)
    have h2:=X0f l
    simp only [List.map_cons,PyData.depthAll]
    omega
theorem X55:(D.tup (l.map spD)).py=some (.tuple (l.map spP)):=by
  show (match pys (l.map spD) with
    | some l=>some (PyData.tuple l)
    | none=>none)=_
  rw [X5x]
theorem X3a:PySem.W.alike (spP s) (spP r)=true:=by simp [spP,PySem.W.alike,PySem.W.alikeAll]
theorem X0e:∀ l m:List Sp,PySem.W.alikeAll (l.map spP) (m.map spP)=true
  | [],_=>by simp [PySem.W.alikeAll]
  | _ :: _,[]=>by simp [PySem.W.alikeAll]
  | _ :: l,_ :: m=>by
    rw [List.map_cons,List.map_cons,PySem.W.alikeAll,X3a,X0e l m]
    rfl
theorem X9q:neD (.tup (l.map spD)) (.tup (l.map spD))=some (.bl false):=by
  have hd:(PyData.tuple (l.map spP)).depth ≤ 64:=by
    have:=X0f l
    simp only [PyData.depth]
    omega
  rw [W3e X55 X55 hd hd,PySem.W.eqv_refl_alike _ (by rw [PySem.W.alike]; exact X0e l l)]
  rfl
theorem X69 (h:l.length ≤ 4000):Y9h (l.map spD)=true:=by
  unfold Y9h
  rw [Bool.and_eq_true,Bool.and_eq_true,List.all_eq_true,List.all_eq_true,decide_eq_true_eq]
  refine ⟨fun d hd=>?_,fun d hd=>List.all_eq_true.mpr fun e he=>?_,by rw [List.length_map]; exact h⟩
  · obtain ⟨s,_,rfl⟩:=List.mem_map.mp hd
    rw [X8i,X4n,Bool.and_eq_true,Bool.and_eq_true,decide_eq_true_eq]
    exact ⟨rfl,rfl,Nat.le_trans X0d (by decide)⟩
  · obtain ⟨s,_,rfl⟩:=List.mem_map.mp hd
    obtain ⟨r,_,rfl⟩:=List.mem_map.mp he
    rw [X4n,X4n]
    exact X3a
theorem X96:∃ bs:List Sp,Y5b (l.map spD)=bs.map spD∧bs.length=l.length:=by
  have h:(Y5b (l.map spD)).Perm (l.map spD):=List.mergeSort_perm _ _
  have hs:∀ d ∈ Y5b (l.map spD),spD (W3x d)=d:=fun d hd=>by
    obtain ⟨s,_,rfl⟩:=List.mem_map.mp (h.mem_iff.mp hd)
    rfl
  refine ⟨(Y5b (l.map spD)).map W3x,?_,by rw [List.length_map,h.length_eq,List.length_map]⟩
  rw [List.map_map]
  exact ((List.map_congr_left fun d hd=>hs d hd).trans (List.map_id _)).symm
end
def isN:List Int:=[]
def W4g:MS:=(V0 2 (Y3 X20 (Z9 X38 (Z3 (Y3 Z7o (Y3 Z7o (Y3 W1z (Z4 2) (m_c (.int 31))) (Y3 X20 (Z9 X38 (Z3 (Z9 (X4x W2x) (Z3 (Z4 3) Z7)) Z7)) (m_c (.int 1000003)))) (Z4 1)) Z7)) (m_c (.int 1000003))))
def nu:MS:=(Y0 (V0 2 (Y3 Z7o (m_c (.int 43)) (Z4 1))) (Y0 (Z40 (.nm 3) (Z05 (Z17 (Z4 0) (Y5n) (Z34 (m_c (.int 50))))) W4g) (W3 (Y3 X20 (Z9 X38 (Z3 (Y3 Y7h (Z4 2) (m_c (.int 7))) Z7)) (m_c (.int 7))))))
theorem W3f:Z57=nu:=by kernel_rfl
theorem Y6z {ns:List Int} {k:Int} (hk:0 ≤ k):∃ n:Int,0 ≤ n∧n < 7∧g__law_number [.scr ns, .int k] = .ok (.int n):=by
  suffices h:Fw (Z57 (ev0 4 [.d (.scr ns), .d (.int k)]) []) (fun r=>∃ n:Int,0 ≤ n∧n < 7∧W2r r = .ok (.int n)) from h
  rw [W3f]
  unfold nu
  have q1:∀ i:Int,W1z (.int i) (.int 31)=some (.int (i * 31)):=fun i=>W3d (by decide)
  have q2:∀ i:Int,X20 (.int i) (.int 1000003)=some (.int (i % 1000003)):=fun i=>X9n (by decide)
  have q3:∀ i:Int,Y7h (.int i) (.int 7)=some (.int (i / 7)):=fun i=>X71 (by decide)
  have q4:∀ i:Int,X20 (.int i) (.int 7)=some (.int (i % 7)):=fun i=>X9n (by decide)
  refine Fw.set (Z82 Y5l (Z6r rfl) Z59 Z59 X8u) ?_
  refine Fw.for_ (l:=Y3k ns none (some 50)) (f:=fun i=>X.d (.int i)) (S1:=[]) (W1k (X6o (Z6r rfl) W23 (X87 Y5l) rfl) (by rw [show (Y3k ns none (some 50)).map (fun i=>X.d (.int i))=((Y3k ns none (some 50)).map D.int).map X.d by rw [List.map_map]; rfl]; rfl)) (fun _ e T=>∃ s o3,0 ≤ s∧T=[]∧e=[some (.d (.scr ns)),some (.d (.int k)),some (.d (.int s)),o3]) (fun _ _=>False) ⟨_,_,by omega,rfl,rfl⟩ (fun _ _ _ _=>rfl) ?_ ?_
  · rintro a l e T ⟨s,o4,hs,rfl,rfl⟩
    refine ⟨_,rfl,?_⟩
    exact Fw.one (Fw.set (Z82 (Z49 (Q6 (Z82 (Z82 (Z82 (Z6r rfl) Y5l Z59 Z59 (q1 _)) (Z82 (Z49 (Q6 (Z49 (Q6 (Z6r rfl) Z33) rfl) Z33) rfl) Y5l Z59 Z59 (q2 _)) Z59 Z59 X8u) (Z6r rfl) Z59 Z59 X8u) Z33) rfl) Y5l Z59 Z59 (q2 _)) (Fw.nil (.nx ⟨_,_,Int.emod_nonneg _ (by decide),rfl,rfl⟩)))
  · rintro e T (⟨s,o4,hs,rfl,rfl⟩ | h)
    · exact Fw.one (Fw.retP (Z82 (Z49 (Q6 (Z82 (Z6r rfl) Y5l Z59 Z59 (q3 _)) Z33) rfl) Y5l Z59 Z59 (q4 _)) Z59 ⟨_,Int.emod_nonneg _ (by decide),Int.emod_lt_of_pos _ (by decide),rfl⟩)
    · exact h.elim
def p0:MS:=Z8c (.tp [(.nm 1),(.nm 2)]) (Z18 (Z2b (Z3 (Z1n (Z3 (m_c (.str "x")) (Z3 (m_c (.str "y")) (Z7)))) (Z3 (Z1n (Z3 (m_c (.str "none")) (Z3 (m_c (.str "good")) (Z7)))) (Z3 (Z1n (Z3 (m_c (.str "old")) (Z3 (m_c (.str "a")) (Z7)))) (Z7))))) (Y3 X20 (Z9 X38 (Z3 (Z9 (Y7 2 (X5 [] (callP g__law_number))) (Z3 (Z4 0) (Z3 (m_c (.int 1)) (Z7)))) (Z7))) (m_c (.int 3))))
def p1:MS:=V0 3 (Y3 Z7o (Y3 Z7o (Y3 Z7o (Y3 Z7o (Y3 Z7o (m_c (.str "marks ")) (Z4 1)) (m_c (.str " "))) (Z4 2)) (m_c (.str "\nshown "))) (Z4 2))
def p2:MS:=V0 4 (Y7m "Tool" (Y7 2 (X5 [] (callP Z75))) (m_c (.gl "Tool")) (Z3 (Y3 Z7o (Y3 Z7o (Y3 Z7o (Y3 Z7o (Z4 3) (m_c (.str "\nasked "))) (Z4 1)) (m_c (.str "\ngive any take to "))) (Z4 2)) (Z7)))
def p3:MS:=V0 5 (Z18 (Z2b (Z3 (Z2b (Z3 (m_c (.str "late")) (Z7))) (Z3 (Z2b (Z3 (m_c (.str "back")) (Z7))) (Z3 (Z2b (Z3 (m_c (.str "alike")) (Z3 (m_c (.str "near")) (Z7)))) (Z3 (Z2b (Z7)) (Z7)))))) (Y3 Y7h (Z9 (Y7 2 (X5 [] (callP g__law_number))) (Z3 (Z4 0) (Z3 (m_c (.int 2)) (Z7)))) (m_c (.int 2))))
def p4:MS:=Z02 (Q0 (Y3 neD (Z9 (Y7 2 (Y2i [1,0] (callP g_faults))) (Z3 (Z4 5) (Z3 (Z4 4) (Z7)))) (Z9 (Y7 2 (X5 [] (callP g_faults))) (Z3 (Z4 4) (Z3 (Z4 5) (Z7)))))) (W3 (m_c (.bl false))) (V3)
def p5:MS:=Z02 (Q0 (Y3 neD (Z9 (Y7 2 (Y2i [1,0] (callP g_standings))) (Z3 (Z4 5) (Z3 (Z4 4) (Z7)))) (Z9 (Y7 2 (X5 [] (callP g_standings))) (Z3 (Z4 4) (Z3 (Z4 5) (Z7)))))) (W3 (m_c (.bl false))) (V3)
def p6:MS:=Z40 (.nm 6) (Z05 (Z1n (Z3 (m_c (.str "again")) (Z3 (m_c (.str "fallen")) (Z3 (m_c (.str "lost")) (Z3 (m_c (.str "strange")) (Z3 (m_c (.str "stuck")) (Z3 (m_c (.str "vain")) (Z7))))))))) (Y0 (Z02 (Q0 (Y3 neD (Z9 (Y7 3 (Y2i [2,1,0] (callP g_happens))) (Z3 (Z4 6) (Z3 (Z4 5) (Z3 (Z4 4) (Z7))))) (Z9 (Y7 3 (X5 [] (callP g_happens))) (Z3 (Z4 4) (Z3 (Z4 5) (Z3 (Z4 6) (Z7))))))) (W3 (m_c (.bl false))) (V3)) (Z02 (Q0 (Y3 eqD (Y3 isD (Z9 (Y7 3 (Y2i [1,2,0] (callP g_story))) (Z3 (Z4 6) (Z3 (Z4 4) (Z3 (Z4 5) (Z7))))) (m_c .non)) (Z9 (Y7 3 (X5 [] (callP g_happens))) (Z3 (Z4 4) (Z3 (Z4 5) (Z3 (Z4 6) (Z7))))))) (W3 (m_c (.bl false))) (V3)))
def p7:MS:=W3 (Z85 (Y3 Bv.isB (Z9 (Y7 3 (Y2i [2,1,0] (callP g_comes))) (Z3 (m_c (.int 0)) (Z3 (Z4 5) (Z3 (Z4 4) (Z7))))) (m_c (.bl true))) (Y3 Bv.isB (Z9 (Y7 3 (X5 [] (callP g_comes))) (Z3 (Z4 4) (Z3 (Z4 5) (Z3 (m_c (.int 0)) (Z7))))) (m_c (.bl true))))
def pR:MS:=Y0 p0 (Y0 p1 (Y0 p2 (Y0 p3 (Y0 p4 (Y0 p5 (Y0 p6 (p7)))))))
theorem W1m:X8y=pR:=rfl
def W4x (w o t:Str) (k:Bool):D := .obj "Row" [("word", .str w),("old", .str o),("then", .str t),("take", .bl k)]
def X8p (a b:Str):D := .obj "Tool" [("marks", .tup [.str a, .str b]),("shown", .tup [.str b]),("asked", .tup [.str a]),("rows", .tup [W4x "give" "any" b true]),("blank", .str a)]
def W0o (l:List Str):D := .lst (l.map D.str)
def e37 (ns:List Int) (a b zh:Str) (L:List Str) (o:Option X):Ev:=[some (.d (.scr ns)),some (.d (.str a)),some (.d (.str b)),some (.d (.str zh)),some (.d (X8p a b)),some (.d (W0o L)),o]
def Z8n (a b:Str) (L:List Str):R X:=made "Closure" mkM Z0b [.d (X8p a b), .d (.tup (L.map D.str))] []
def X0i:R X→Sto
  | .ok _ S=>S
  | _=>[]
def X91:R X→X
  | .ok x _=>x
  | _ => .d .non
def X5q (a b:Str) (L:List Str):X:=(Y8e ["Closure"] "order" (X0i (Z8n a b L)) (X91 (Z8n a b L))).getD (.d .non)
def X7s (a b:Str) (L:List Str):List Sp:=(((items (X0i (Z8n a b L)) (X5q a b L)).bind ds?).getD []).map W3x
structure St37 (a b:Str) (L:List Str):Prop where
  all:(callP g_need_lets [.d (W0o L)] [],Z8n a b L,Y8e ["Closure"] "order" (X0i (Z8n a b L)) (X91 (Z8n a b L)),Z2q (X0i (Z8n a b L)) (X5q a b L),(items (X0i (Z8n a b L)) (X5q a b L)).bind ds?,decide ((X7s a b L).length ≤ 100)) =
    (.ok (.d (.tup (L.map D.str))) [], .ok (X91 (Z8n a b L)) (X0i (Z8n a b L)),some (X5q a b L),true,some ((X7s a b L).map spD),true)
theorem St37.run {a b:Str} {L:List Str} (h:St37 a b L):∃ l:List Sp,g_standings [X8p a b,W0o L] = .ok (.tup (l.map spD)):=by
  have h0:=h.all
  simp only [Prod.mk.injEq] at h0
  obtain ⟨h1,h2,h3,h4,h5,h6⟩:=h0
  have h6:=of_decide_eq_true h6
  obtain ⟨bs,e,hb⟩:=X96 (l:=X7s a b L)
  refine ⟨bs,X5y ?_⟩
  unfold Y0d
  have s1:Z83 [X5q a b L] (X0i (Z8n a b L)) = .ok (.d (.lst (bs.map spD))) (X0i (Z8n a b L)):=by
    simp only [Z83,h4,h5,if_true,X69 (l:=X7s a b L) (by omega),e]
  exact Fw.one (Fw.retP (Z49 (Q6 (Z49 (Q6 (X86 (Z49 (Q6 (Z6r rfl) (Q6 (Z49 (Q6 (Z6r rfl) Z33) (Y8v rfl h1)) Z33)) (Y8v rfl h2)) h3) Z33) s1) Z33) W3y) Z59 rfl)
theorem St37.same {ns:List Int} {a b zh:Str} {L:List Str} {o:Option X} (h:St37 a b L):p5 (e37 ns a b zh L o) [] = .go (.nx (e37 ns a b zh L o)) []:=by
  obtain ⟨l,hl⟩:=h.run
  have e1:Q0 (Y3 neD (Z9 (Y7 2 (Y2i [1,0] (callP g_standings))) (Z3 (Z4 5) (Z3 (Z4 4) (Z7)))) (Z9 (Y7 2 (X5 [] (callP g_standings))) (Z3 (Z4 4) (Z3 (Z4 5) (Z7))))) (e37 ns a b zh L o) [] = .ok false [] :=
    W24 (Z82 (x := .d (.tup (l.map spD))) (Z49 (Q6 (Z6r rfl) (Q6 (Z6r rfl) Z33)) (show Y7 2 (Y2i [1,0] (callP g_standings)) [.d (W0o L), .d (X8p a b)] []=_ from X6n hl)) (Z49 (Q6 (Z6r rfl) (Q6 (Z6r rfl) Z33)) (Y8v rfl (X6n hl))) Z59 Z59 X9q)
  unfold p5 Z02
  rw [e1]
  rfl
structure Run37 (a b zh:Str) (L:List Str):Prop where
  st:St37 a b L
  a1:∀ ns:List Int,(p4 (e37 ns a b zh L none) [],p6 (e37 ns a b zh L none) [],p7 (e37 ns a b zh L (some (.d (.str "vain")))) [])=(.go (.nx (e37 ns a b zh L none)) [], .go (.nx (e37 ns a b zh L (some (.d (.str "vain"))))) [], .go (.rp (.bl true)) [])
theorem X0b {m1 m2:MS} {e e1:Ev} {S S1:Sto} {r:RO} (h1:m1 e S = .go (.nx e1) S1) (h2:m2 e1 S1=r):Y0 m1 m2 e S=r:=by
  unfold Y0
  rw [h1]
  exact h2
end Lw
namespace Lw
open PySem PySem.Spec L2 Bv
open PyProof.Rows hiding St
variable [HasW]
theorem rd0 (ns:List Int) (o5 o6:Option X):Y0 p1 p2 [some (.d (.scr ns)),some (.d (.str "x")),some (.d (.str "y")),none,none,o5,o6] [] = .go (.nx [some (.d (.scr ns)),some (.d (.str "x")),some (.d (.str "y")),some (.d (.str "marks x y\nshown y")),some (.d (X8p "x" "y")),o5,o6]) []:=by kernel_rfl
theorem W4y:St37 "x" "y" ["late"]:=⟨by kernel_rfl⟩
theorem W4l:Run37 "x" "y" "marks x y\nshown y" ["late"]:=⟨W4y,fun ns=>by kernel_rfl⟩
theorem W4z:St37 "x" "y" ["back"]:=⟨by kernel_rfl⟩
theorem W4m:Run37 "x" "y" "marks x y\nshown y" ["back"]:=⟨W4z,fun ns=>by kernel_rfl⟩
theorem W40:St37 "x" "y" ["alike", "near"]:=⟨by kernel_rfl⟩
theorem W4n:Run37 "x" "y" "marks x y\nshown y" ["alike", "near"]:=⟨W40,fun ns=>by kernel_rfl⟩
theorem W41:St37 "x" "y" []:=⟨by kernel_rfl⟩
theorem W4o:Run37 "x" "y" "marks x y\nshown y" []:=⟨W41,fun ns=>by kernel_rfl⟩
theorem rd1 (ns:List Int) (o5 o6:Option X):Y0 p1 p2 [some (.d (.scr ns)),some (.d (.str "none")),some (.d (.str "good")),none,none,o5,o6] [] = .go (.nx [some (.d (.scr ns)),some (.d (.str "none")),some (.d (.str "good")),some (.d (.str "marks none good\nshown good")),some (.d (X8p "none" "good")),o5,o6]) []:=by kernel_rfl
theorem W42:St37 "none" "good" ["late"]:=⟨by kernel_rfl⟩
theorem W4p:Run37 "none" "good" "marks none good\nshown good" ["late"]:=⟨W42,fun ns=>by kernel_rfl⟩
theorem W43:St37 "none" "good" ["back"]:=⟨by kernel_rfl⟩
theorem W4q:Run37 "none" "good" "marks none good\nshown good" ["back"]:=⟨W43,fun ns=>by kernel_rfl⟩
theorem W44:St37 "none" "good" ["alike", "near"]:=⟨by kernel_rfl⟩
theorem W4r:Run37 "none" "good" "marks none good\nshown good" ["alike", "near"]:=⟨W44,fun ns=>by kernel_rfl⟩
theorem W45:St37 "none" "good" []:=⟨by kernel_rfl⟩
theorem W4s:Run37 "none" "good" "marks none good\nshown good" []:=⟨W45,fun ns=>by kernel_rfl⟩
theorem rd2 (ns:List Int) (o5 o6:Option X):Y0 p1 p2 [some (.d (.scr ns)),some (.d (.str "old")),some (.d (.str "a")),none,none,o5,o6] [] = .go (.nx [some (.d (.scr ns)),some (.d (.str "old")),some (.d (.str "a")),some (.d (.str "marks old a\nshown a")),some (.d (X8p "old" "a")),o5,o6]) []:=by kernel_rfl
theorem W46:St37 "old" "a" ["late"]:=⟨by kernel_rfl⟩
theorem W4t:Run37 "old" "a" "marks old a\nshown a" ["late"]:=⟨W46,fun ns=>by kernel_rfl⟩
theorem W47:St37 "old" "a" ["back"]:=⟨by kernel_rfl⟩
theorem W4u:Run37 "old" "a" "marks old a\nshown a" ["back"]:=⟨W47,fun ns=>by kernel_rfl⟩
theorem W48:St37 "old" "a" ["alike", "near"]:=⟨by kernel_rfl⟩
theorem W4v:Run37 "old" "a" "marks old a\nshown a" ["alike", "near"]:=⟨W48,fun ns=>by kernel_rfl⟩
theorem W49:St37 "old" "a" []:=⟨by kernel_rfl⟩
theorem W4w:Run37 "old" "a" "marks old a\nshown a" []:=⟨W49,fun ns=>by kernel_rfl⟩
end Lw
namespace Lw
open PySem PySem.Spec L2 Bv
open PyProof.Rows hiding St
variable [HasW]
def Y8c (i:Int):Str × Str:=if i % 3=0 then ("x", "y") else if i % 3=1 then ("none", "good") else ("old", "a")
def Z5b (j:Int):List Str:=if j / 2=0 then ["late"] else if j / 2=1 then ["back"] else if j / 2=2 then ["alike", "near"] else []
theorem W14 {ns:List Int} {n:Int} (h0:0 ≤ n) (h1:n < 7) (h:g__law_number [.scr ns, .int 1] = .ok (.int n)):p0 [some (.d (.scr ns)),none,none,none,none,none,none] [] = .go (.nx [some (.d (.scr ns)),some (.d (.str (Y8c n).1)),some (.d (.str (Y8c n).2)),none,none,none,none]) []:=by
  have q3:X20 (.int n) (.int 3)=some (.int (n % 3)):=X9n (by decide)
  have hz:ixO [] (.d (.lst [.tup [.str "x", .str "y"], .tup [.str "none", .str "good"], .tup [.str "old", .str "a"]])) (n % 3)=some (.d (.tup [.str (Y8c n).1, .str (Y8c n).2])):=by
    have hc:n=0 ∨ n=1 ∨ n=2 ∨ n=3 ∨ n=4 ∨ n=5 ∨ n=6:=by omega
    rcases hc with rfl | rfl | rfl | rfl | rfl | rfl | rfl <;> rfl
  exact W2i (W1c (Y6u (ds:=[.tup [.str "x", .str "y"], .tup [.str "none", .str "good"], .tup [.str "old", .str "a"]]) (Q6 (X4q (ds:=[.str "x", .str "y"]) (Q6 Y5l (Q6 Y5l Z33)) rfl (by decide)) (Q6 (X4q (ds:=[.str "none", .str "good"]) (Q6 Y5l (Q6 Y5l Z33)) rfl (by decide)) (Q6 (X4q (ds:=[.str "old", .str "a"]) (Q6 Y5l (Q6 Y5l Z33)) rfl (by decide)) Z33))) rfl (by decide)) (Z82 (Z49 (Q6 (Z49 (Q6 (Z6r rfl) (Q6 Y5l Z33)) (Y8v rfl (X6n h))) Z33) rfl) Y5l Z59 Z59 q3) hz) rfl
theorem W15 {ns:List Int} {n:Int} {o1 o2 o3 o4:Option X} (h0:0 ≤ n) (h1:n < 7) (h:g__law_number [.scr ns, .int 2] = .ok (.int n)):p3 [some (.d (.scr ns)),o1,o2,o3,o4,none,none] [] = .go (.nx [some (.d (.scr ns)),o1,o2,o3,o4,some (.d (W0o (Z5b n))),none]) []:=by
  have q3:Y7h (.int n) (.int 2)=some (.int (n / 2)):=X71 (by decide)
  have hz:ixO [] (.d (.lst [.lst [.str "late"], .lst [.str "back"], .lst [.str "alike", .str "near"], .lst []])) (n / 2)=some (.d (W0o (Z5b n))):=by
    have hc:n=0 ∨ n=1 ∨ n=2 ∨ n=3 ∨ n=4 ∨ n=5 ∨ n=6:=by omega
    rcases hc with rfl | rfl | rfl | rfl | rfl | rfl | rfl <;> rfl
  exact X8l (W1c (Y6u (ds:=[.lst [.str "late"], .lst [.str "back"], .lst [.str "alike", .str "near"], .lst []]) (Q6 (Y6u (ds:=[.str "late"]) (Q6 Y5l Z33) rfl (by decide)) (Q6 (Y6u (ds:=[.str "back"]) (Q6 Y5l Z33) rfl (by decide)) (Q6 (Y6u (ds:=[.str "alike", .str "near"]) (Q6 Y5l (Q6 Y5l Z33)) rfl (by decide)) (Q6 (Y6u (ds:=[]) Z33 rfl (by decide)) Z33)))) rfl (by decide)) (Z82 (Z49 (Q6 (Z6r rfl) (Q6 Y5l Z33)) (Y8v rfl (X6n h))) Y5l Z59 Z59 q3) hz)
theorem X85 {ns:List Int} {a b zh:Str} {L:List Str} (h:Run37 a b zh L):Y0 p4 (Y0 p5 (Y0 p6 p7)) (e37 ns a b zh L none) [] = .go (.rp (.bl true)) []:=by
  have h0:=h.a1 ns
  simp only [Prod.mk.injEq] at h0
  exact X0b h0.1 (X0b h.st.same (X0b h0.2.1 h0.2.2))
theorem X7l {ns:List Int} {n m:Int} (h0:0 ≤ n) (h1:n < 7) (k0:0 ≤ m) (k1:m < 7):∃ zh:Str,(∀ o5 o6,Y0 p1 p2 [some (.d (.scr ns)),some (.d (.str (Y8c n).1)),some (.d (.str (Y8c n).2)),none,none,o5,o6] [] = .go (.nx [some (.d (.scr ns)),some (.d (.str (Y8c n).1)),some (.d (.str (Y8c n).2)),some (.d (.str zh)),some (.d (X8p (Y8c n).1 (Y8c n).2)),o5,o6]) [])∧Run37 (Y8c n).1 (Y8c n).2 zh (Z5b m):=by
  have hc:n % 3=0 ∨ n % 3=1 ∨ n % 3=2:=by omega
  have hd:m / 2=0 ∨ m / 2=1 ∨ m / 2=2 ∨ m / 2=3:=by omega
  rcases hc with hc | hc | hc
  · have e1:Y8c n=(("x", "y"):Str × Str):=by unfold Y8c; simp [hc]
    rw [e1]
    rcases hd with hd | hd | hd | hd
    · have e2:Z5b m=(["late"]:List Str):=by unfold Z5b; simp [hd]
      rw [e2]; exact ⟨_,rd0 ns,W4l⟩
    · have e2:Z5b m=(["back"]:List Str):=by unfold Z5b; simp [hd]
      rw [e2]; exact ⟨_,rd0 ns,W4m⟩
    · have e2:Z5b m=(["alike", "near"]:List Str):=by unfold Z5b; simp [hd]
      rw [e2]; exact ⟨_,rd0 ns,W4n⟩
    · have e2:Z5b m=([]:List Str):=by unfold Z5b; simp [hd]
      rw [e2]; exact ⟨_,rd0 ns,W4o⟩
  · have e1:Y8c n=(("none", "good"):Str × Str):=by unfold Y8c; simp [hc]
    rw [e1]
    rcases hd with hd | hd | hd | hd
    · have e2:Z5b m=(["late"]:List Str):=by unfold Z5b; simp [hd]
      rw [e2]; exact ⟨_,rd1 ns,W4p⟩
    · have e2:Z5b m=(["back"]:List Str):=by unfold Z5b; simp [hd]
      rw [e2]; exact ⟨_,rd1 ns,W4q⟩
    · have e2:Z5b m=(["alike", "near"]:List Str):=by unfold Z5b; simp [hd]
      rw [e2]; exact ⟨_,rd1 ns,W4r⟩
    · have e2:Z5b m=([]:List Str):=by unfold Z5b; simp [hd]
      rw [e2]; exact ⟨_,rd1 ns,W4s⟩
  · have e1:Y8c n=(("old", "a"):Str × Str):=by unfold Y8c; simp [hc]
    rw [e1]
    rcases hd with hd | hd | hd | hd
    · have e2:Z5b m=(["late"]:List Str):=by unfold Z5b; simp [hd]
      rw [e2]; exact ⟨_,rd2 ns,W4t⟩
    · have e2:Z5b m=(["back"]:List Str):=by unfold Z5b; simp [hd]
      rw [e2]; exact ⟨_,rd2 ns,W4u⟩
    · have e2:Z5b m=(["alike", "near"]:List Str):=by unfold Z5b; simp [hd]
      rw [e2]; exact ⟨_,rd2 ns,W4v⟩
    · have e2:Z5b m=([]:List Str):=by unfold Z5b; simp [hd]
      rw [e2]; exact ⟨_,rd2 ns,W4w⟩
theorem plain (ns:List Int) (hl:ns.length ≤ 63):g_law [.scr ns] = .ok (.bl true):=by
  obtain ⟨n,h0,h1,h⟩:=Y6z (ns:=ns) (k:=1) (by decide)
  obtain ⟨m,k0,k1,k⟩:=Y6z (ns:=ns) (k:=2) (by decide)
  obtain ⟨zh,r1,r2⟩:=X7l (ns:=ns) h0 h1 k0 k1
  refine X5y ?_
  rw [W1m]
  unfold pR
  have hh:Y0 p0 (Y0 p1 (Y0 p2 (Y0 p3 (Y0 p4 (Y0 p5 (Y0 p6 p7)))))) (ev0 7 [.d (.scr ns)]) [] = .go (.rp (.bl true)) []:=by
    refine X0b (W14 h0 h1 h) ?_
    have e:=r1 none none
    have sq:∀ {m1 m2 m3:MS} {e e1:Ev} {r:RO},Y0 m1 m2 e [] = .go (.nx e1) []→m3 e1 []=r→Y0 m1 (Y0 m2 m3) e []=r:=by
      intro m1 m2 m3 e e1 r q1 q2
      unfold Y0 at q1 ⊢
      cases z:m1 e [] with
      | bad=>rw [z] at q1; cases q1
      | err _ _ _ _=>rw [z] at q1; cases q1
      | go o S1 =>
        rw [z] at q1
        cases o with
        | nx e2 =>
          have q1:m2 e2 S1 = .go (.nx e1) []:=q1
          show (m2 e2 S1).then m3=r
          rw [q1]
          exact q2
        | _=>cases q1
    refine sq e (X0b (W15 k0 k1 k) (X85 r2))
  show Fw _ _
  rw [show ev0 7 ([D.scr ns].map X.d)=ev0 7 [.d (.scr ns)] from rfl,hh]
  rfl
end Lw
set_option maxHeartbeats 0
namespace Lw
end Lw
open PySem PySem.W PySem.Calls PyProof.Rows
theorem PySem.Challenge.cw_wordingkept_k37_deciding_by_names_holds : PySem.Challenge.rw_wordingkept_k37_deciding_by_names.Holds := by
  w_on; o_law
  refine HandSHeadRun.head_any (r:=Lw.Rw) (q:=Lw.Vw) (H:=Lw.hkL) (ob:=Lw.obL) (M:=60000) (loose:=Lw.looseL) (d:=HandSHeadRun.topDef Lw.Rw.prog 83) (kwd:=[]) Lw.obL_eq
    (by kernel_rfl) (fun s=>by kernel_rfl) Lw.runL (by kernel_rfl) (by kernel_rfl) (by kernel_rfl) (by rfl) (by first | assumption | decide +kernel) (by decide +kernel) ⟨rfl,rfl,rfl,rfl,rfl,by decide +kernel⟩ ?hw ?hc
  case hw=>w_witness2
  case hc =>
    refine Bv.walk_ofG (l:=PySem.Challenge.rw_wordingkept_k37_deciding_by_names) (n:=63) (k:=189) (x := "_law_script") rfl (by decide) (by kernel_rfl) ⟨rfl,by decide,by decide⟩ ?F
    intro w mg fa h Y G hmg0
    obtain ⟨K,KX,c⟩:=Y
    have hmg:mg ("law" : PySem.Str)=some (.ref fa):=by
      have e:(HandSHeadRun.topDef Lw.Rw.prog 83).name=("law" : PySem.Str):=by kernel_rfl
      rw [← e]
      exact hmg0
    letI:Bv.HasW:=⟨w⟩
    obtain ⟨fd,hb,hF⟩:=Lw.all (P:=(PySem.Challenge.rw_wordingkept_k37_deciding_by_names).prog) KX G c (by kernel_rfl) (by kernel_rfl) hmg
    exact ⟨K,fd,Bv.spP K 1 Lw.g_law,KX,hb,fun H a ns hl only hS=>Bv.law_sp Lw.plain H a ns hl only hS,hF⟩
