import PyProof.Rows.All
import Wide.All
import OpenK.AllK
import Wide.FinOn
import HandS.ForMost
import HandS.Exc
import HandS.WordsExc
import HandS.IsInst
import HandS.Flow
import HandS.HeadHook1
import KE.KDictCopyH
import HandS.TupAny
import HandS.Deep
import HandS.Wide
import HandS.Star
import HandS.Walk
import HandS.ExcOwn
import HandS.ExcCtx
import HandS.SuiteRaise
import HandS.RaiseFrom
import KE.KExcRaise
import HandS.CallSlots
import HandS.Defaults
import HandS.HeadEnd
import HandS.Dict
import HandS.More
import HandS.List
import HandS.Text
import HandS.Style
import HandS.RaiseMore
import PyProof.ReprRoads
import HandS.NamedTupSort
import HandS.OwnEq
import KE.KCallOwn
import KE.KFmtOwn
import PyProof.InstNe
import HandS.HeadHook2
import HandS.ClsMeth
import HandS.Strs
import KE.GoesMore
import PyProof.Draws
import PyProof.EnumMake
import KE.GoesZip
import HandS.ExcInit
import KE.KExcInit
import KE.KExcSuper
import KE.KExcIs
import HandS.ExcIs
import HandS.ExcField
import OpenK.KOps
import OpenK.KMeth
import HandS.Head0
import HandS.Head1
import HandS.Head2
import Lean
import KE.KStateDown
import HandS.NoneIn
import HandS.Zip
import HandS.DictComp
import HandS.SortInts
import Wide.Txt2
import HandS.Property
import KE.KEqDict
import PySem.Challenge.RW_wordingkept_k09_texts_of_no_tool
set_option Elab.async false
set_option linter.all false
set_option maxRecDepth 100000
set_option maxHeartbeats 4000000
namespace Bv
open PySem PySem.Spec L2
open PyProof.Rows hiding St
class HasW where
  w:World
variable [HasW]
inductive D where
  | non | bl (b:Bool) | int (i:Int) | str (x:Str)
  | tup (ds:List D) | lst (ds:List D) | dic (kvs:List (D × D))
  | obj (C:Str) (fs:List (Str × D)) | gl (x:Str) | scr (ns:List Int)
inductive X where
  | d (v:D) | r (n:Nat)
inductive O where
  | lst (xs:List X) | dic (kvs:List (D × X)) | ins (C:Str) (fs:List (Str × X))
  | fdc (kvs:List (D × X)) | tdc (kvs:List (D × X))
  | tfc (kvs:List (D × X))
abbrev Sto:=List O
abbrev Ev:=List (Option X)
inductive R (α:Type) where
  | ok (a:α) (S:Sto) | err (C:Str) (fs:List (Str × D)) (S:Sto) | bad
def D.key?:D→Option Key
  | .int i=>some (.inl i)
  | .str x=>some (.inr x)
  | _=>none
def D.leaf?:D→Option Leaf
  | .non=>some .none
  | .bl b=>some (.num (if b=true then 1 else 0))
  | .int i=>some (.num i)
  | .str x=>some (.text x)
  | _=>none
def leafs?:List D→Option (List Leaf)
  | []=>some []
  | d :: r=>match d.leaf?,leafs? r with
    | some k,some l=>some (k :: l)
    | _,_=>none
def D.tkey?:D→Option (List Leaf)
  | .tup ds=>leafs? ds
  | _=>none
def X3a (ks:List Leaf):Int:=reduceHash (Builtin.Tuple.tupleHashOf (ks.map fun k=>k.key.hash HasW.w))
def TDx (a:Addr) (xs:List (List Leaf × Addr × V)) (h:Heap):Prop:=(a == sysModules)=false∧∃ ys:List (List Leaf × Addr × Value),Paired (fun p q=>p.1=q.1∧p.2.1=q.2.1∧RelV p.2.2 q.2.2) xs ys ∧
  ∃ o es ep,h.get? a=some o∧o.ExactDict∧o.data = .dict es ep∧es.toList=ys.map (fun x=>(⟨X3a x.1, .ref x.2.1,x.2.2⟩:DictEntry))∧(ys.map (·.1)).Nodup
abbrev TDo (a:Addr) (xs:List (List Leaf × Addr × V)):HO := .ext (TDx a xs)
abbrev Wd:=Addr→Prop
def Wn (Z:Wd) (ρ:List Addr):Wd:=fun a=>Z a ∨ a ∈ ρ
def X3v (K:PySem.W.Frag) (a:Addr) (xs:List V):Prop:=∃ (o:Obj) (its:Array Value) (n:Nat),K.lookup a=some o∧o.cls = .type "tuple" ∧ o.data = .seq its n∧its.size ≤ sizeLine∧Vals xs its.toList
def Tp (K:PySem.W.Frag) (W:Wd) (H:Hp) (a:Addr) (xs:List V):Prop:=(¬ W a∧H a=some (.tup xs)) ∨ X3v K a xs
theorem Tp.sq {K:PySem.W.Frag} {W:Wd} {H:Hp} {a:Addr} {xs:List V} (h:Tp K W H a xs):SqT K H a xs:=by
  rcases h with ⟨_,h⟩ | h
  · exact .inl (.inl h)
  · exact .inr h
def X37 (K:PySem.W.Frag) (a:Addr) (xs:List V):Prop:=∃ (o:Obj) (its:Array Value) (n:Nat),K.lookup a=some o∧o.cls = .type "list" ∧ o.dict=none∧o.data = .seq its n∧its.size ≤ sizeLine∧Vals xs its.toList
def Lp (K:PySem.W.Frag) (W:Wd) (H:Hp) (a:Addr) (xs:List V):Prop:=(¬ W a∧Rd H a (.lst xs)) ∨ X37 K a xs
theorem Lp.sl {K:PySem.W.Frag} {W:Wd} {H:Hp} {a:Addr} {xs:List V} (h:Lp K W H a xs):SqL K H a xs:=by
  rcases h with ⟨_,h⟩ | h
  · exact .inl h
  · exact .inr h
mutual
inductive AV (K:PySem.W.Frag) (W:Wd) (H:Hp):D→V→Prop
  | non:AV K W H .non .non
  | bl (b:Bool):AV K W H (.bl b) (.bl b)
  | int (i:Int):AV K W H (.int i) (.int i)
  | str {x:Str}:PyData.strOk x=true→AV K W H (.str x) (.str x)
  | gl (x:Str):AV K W H (.gl x) (.ref (He.ga K x))
  | scr {a:Addr} {ns:List Int}:Lp K W H a (ns.map V.int)→AV K W H (.scr ns) (.ref a)
  | tup {a:Addr} {xs:List V} {ds:List D}:Tp K W H a xs→AVs K W H ds xs→AV K W H (.tup ds) (.ref a)
  | lst {a:Addr} {xs:List V} {ds:List D}:¬ W a→H a=some (.lst xs)→AVs K W H ds xs→AV K W H (.lst ds) (.ref a)
  | dic {a:Addr} {o:Obj} {ks:List (Key × V)} {kvs:List (D × D)}:¬ W a→H a=some (.frz o (.dK ks))→AVk K W H kvs ks→AV K W H (.dic kvs) (.ref a)
  | obj {C:Str} {a dx:Addr} {vs:List (Str × V)} {fs:List (Str × D)}:¬ W a→H a=some (.ins (He.ga K C) dx vs)→AVf K W H fs vs→AV K W H (.obj C fs) (.ref a)
inductive AVs (K:PySem.W.Frag) (W:Wd) (H:Hp):List D→List V→Prop
  | nil:AVs K W H [] []
  | cons {d:D} {v:V} {ds:List D} {vs:List V}:AV K W H d v→AVs K W H ds vs→AVs K W H (d :: ds) (v :: vs)
inductive AVk (K:PySem.W.Frag) (W:Wd) (H:Hp):List (D × D)→List (Key × V)→Prop
  | nil:AVk K W H [] []
  | cons {k d:D} {q:Key} {v:V} {ds:List (D × D)} {vs:List (Key × V)}:k.key?=some q→AV K W H d v→AVk K W H ds vs→AVk K W H ((k,d) :: ds) ((q,v) :: vs)
inductive AVf (K:PySem.W.Frag) (W:Wd) (H:Hp):List (Str × D)→List (Str × V)→Prop
  | nil:AVf K W H [] []
  | cons {f:Str} {d:D} {v:V} {ds:List (Str × D)} {vs:List (Str × V)}:AV K W H d v→AVf K W H ds vs→AVf K W H ((f,d) :: ds) ((f,v) :: vs)
end
def Mv (W:Wd) (H:Hp) (W':Wd) (H':Hp):Prop:=∀ a o,¬ W a→H a=some o→¬ W' a∧H' a=some o
theorem Mv.rd {W W':Wd} {H H':Hp} {a:Addr} {u:HO} (m:Mv W H W' H') (h:¬ W a) (r:Rd H a u):¬ W' a∧Rd H' a u:=by
  rcases r with r | ⟨o,r⟩
  · obtain ⟨h1,h2⟩:=m a _ h r
    exact ⟨h1, .inl h2⟩
  · obtain ⟨h1,h2⟩:=m a _ h r
    exact ⟨h1, .inr ⟨o,h2⟩⟩
theorem Mv.lp {K:PySem.W.Frag} {W W':Wd} {H H':Hp} {a:Addr} {xs:List V} (m:Mv W H W' H') (h:Lp K W H a xs):Lp K W' H' a xs:=by
  rcases h with ⟨h1,h2⟩ | h
  · exact .inl (m.rd h1 h2)
  · exact .inr h
theorem Mv.tp {K:PySem.W.Frag} {W W':Wd} {H H':Hp} {a:Addr} {xs:List V} (m:Mv W H W' H') (h:Tp K W H a xs):Tp K W' H' a xs:=by
  rcases h with ⟨h1,h2⟩ | h
  · exact .inl (m _ _ h1 h2)
  · exact .inr h
section
variable {K:PySem.W.Frag} {W W':Wd} {H H':Hp}
mutual
theorem AV.mv (m:Mv W H W' H'):∀ {d:D} {v:V},AV K W H d v→AV K W' H' d v
  | _,_, .non => .non
  | _,_, .bl b => .bl b
  | _,_, .int i => .int i
  | _,_, .str x => .str x
  | _,_, .scr h => .scr (m.lp h)
  | _,_, .gl x => .gl x
  | _,_, .tup h hs => .tup (m.tp h) (AVs.mv m hs)
  | _,_, .lst w h hs => .lst (m _ _ w h).1 (m _ _ w h).2 (AVs.mv m hs)
  | _,_, .dic w h hs => .dic (m _ _ w h).1 (m _ _ w h).2 (AVk.mv m hs)
  | _,_, .obj w h hs => .obj (m _ _ w h).1 (m _ _ w h).2 (AVf.mv m hs)
theorem AVs.mv (m:Mv W H W' H'):∀ {ds:List D} {vs:List V},AVs K W H ds vs→AVs K W' H' ds vs
  | _,_, .nil => .nil
  | _,_, .cons h hs => .cons (AV.mv m h) (AVs.mv m hs)
theorem AVk.mv (m:Mv W H W' H'):∀ {ds:List (D × D)} {vs:List (Key × V)},AVk K W H ds vs→AVk K W' H' ds vs
  | _,_, .nil => .nil
  | _,_, .cons k h hs => .cons k (AV.mv m h) (AVk.mv m hs)
theorem AVf.mv (m:Mv W H W' H'):∀ {ds:List (Str × D)} {vs:List (Str × V)},AVf K W H ds vs→AVf K W' H' ds vs
  | _,_, .nil => .nil
  | _,_, .cons h hs => .cons (AV.mv m h) (AVf.mv m hs)
end
end
inductive AX (K:PySem.W.Frag) (W:Wd) (ρ:List Addr) (H:Hp):X→V→Prop
  | d {v:D} {u:V}:AV K W H v u→AX K W ρ H (.d v) u
  | r {n:Nat} {a:Addr}:ρ[n]?=some a→AX K W ρ H (.r n) (.ref a)
abbrev AXs (K:PySem.W.Frag) (W:Wd) (ρ:List Addr) (H:Hp):List X→List V→Prop:=Paired (AX K W ρ H)
theorem AX.mv {K:PySem.W.Frag} {W W':Wd} {ρ ρ':List Addr} {H H':Hp} (m:Mv W H W' H') (p:ρ <+: ρ') {x:X} {v:V} (h:AX K W ρ H x v):AX K W' ρ' H' x v:=by
  cases h with
  | d h=>exact .d (h.mv m)
  | r h =>
    refine .r ?_
    obtain ⟨t,rfl⟩:=p
    rw [List.getElem?_append_left (List.getElem?_eq_some_iff.mp h).1]
    exact h
theorem AXs.mv {K:PySem.W.Frag} {W W':Wd} {ρ ρ':List Addr} {H H':Hp} (m:Mv W H W' H') (p:ρ <+: ρ') {xs:List X} {vs:List V} (h:AXs K W ρ H xs vs):AXs K W' ρ' H' xs vs:=Paired.mapP h fun _ _ q=>q.mv m p
def AO (K:PySem.W.Frag) (W:Wd) (ρ:List Addr) (H:Hp) (o:O) (a:Addr):Prop :=
  match o with
  | .lst xs=>∃ vs,H a=some (.lst vs)∧AXs K W ρ H xs vs
  | .dic kvs=>∃ ks:List (Key × V),H a=some (.dK ks)∧Paired (fun (p:D × X) (q:Key × V)=>p.1.key?=some q.1∧AX K W ρ H p.2 q.2) kvs ks
  | .fdc kvs=>∃ (ob:Obj) (ks:List (Key × V)),H a=some (.frz ob (.dK ks))∧Paired (fun (p:D × X) (q:Key × V)=>p.1.key?=some q.1∧AX K W ρ H p.2 q.2) kvs ks
  | .tdc kvs=>∃ xs:List (List Leaf × Addr × V),H a=some (TDo a xs)∧Paired (fun (p:D × X) (q:List Leaf × Addr × V)=>p.1.tkey?=some q.1∧AV K W H p.1 (.ref q.2.1)∧AX K W ρ H p.2 q.2.2) kvs xs
  | .tfc kvs=>∃ (ob:Obj) (xs:List (List Leaf × Addr × V)),H a=some (.frz ob (TDo a xs))∧Paired (fun (p:D × X) (q:List Leaf × Addr × V)=>p.1.tkey?=some q.1∧AV K W H p.1 (.ref q.2.1)∧AX K W ρ H p.2 q.2.2) kvs xs
  | .ins C fs=>∃ (dx:Addr) (vs:List (Str × V)),H a=some (.ins (He.ga K C) dx vs)∧Paired (fun (p:Str × X) (q:Str × V)=>p.1=q.1∧AX K W ρ H p.2 q.2) fs vs
theorem AO.mv {K:PySem.W.Frag} {W W':Wd} {ρ ρ':List Addr} {H H':Hp} {o:O} {a:Addr} (m:Mv W H W' H') (p:ρ <+: ρ') (k:∀ u,H a=some u→H' a=some u) (x:AO K W ρ H o a):AO K W' ρ' H' o a:=by
  cases o with
  | lst xs=>obtain ⟨vs,e,q⟩:=x; exact ⟨vs,k _ e,AXs.mv m p q⟩
  | dic kvs=>obtain ⟨vs,e,q⟩:=x; exact ⟨vs,k _ e,Paired.mapP q fun _ _ z=>⟨z.1,z.2.mv m p⟩⟩
  | fdc kvs=>obtain ⟨ob,vs,e,q⟩:=x; exact ⟨ob,vs,k _ e,Paired.mapP q fun _ _ z=>⟨z.1,z.2.mv m p⟩⟩
  | tdc kvs=>obtain ⟨vs,e,q⟩:=x; exact ⟨vs,k _ e,Paired.mapP q fun _ _ z=>⟨z.1,z.2.1.mv m,z.2.2.mv m p⟩⟩
  | tfc kvs=>obtain ⟨ob,vs,e,q⟩:=x; exact ⟨ob,vs,k _ e,Paired.mapP q fun _ _ z=>⟨z.1,z.2.1.mv m,z.2.2.mv m p⟩⟩
  | ins C fs=>obtain ⟨dx,vs,e,q⟩:=x; exact ⟨dx,vs,k _ e,Paired.mapP q fun _ _ z=>⟨z.1,z.2.mv m p⟩⟩
theorem AO.there {K:PySem.W.Frag} {W:Wd} {ρ:List Addr} {H:Hp} {o:O} {a:Addr} (x:AO K W ρ H o a):∃ u,H a=some u:=by
  cases o with
  | lst xs=>obtain ⟨vs,e,_⟩:=x; exact ⟨_,e⟩
  | dic kvs=>obtain ⟨vs,e,_⟩:=x; exact ⟨_,e⟩
  | fdc kvs=>obtain ⟨ob,vs,e,_⟩:=x; exact ⟨_,e⟩
  | tdc kvs=>obtain ⟨vs,e,_⟩:=x; exact ⟨_,e⟩
  | tfc kvs=>obtain ⟨ob,vs,e,_⟩:=x; exact ⟨_,e⟩
  | ins C fs=>obtain ⟨dx,vs,e,_⟩:=x; exact ⟨_,e⟩
structure Sta (K:PySem.W.Frag) (Z:Wd) (ρ:List Addr) (S:Sto) (H:Hp):Prop where
  nd:ρ.Nodup
  z:∀ a,Z a→a ∉ ρ∧∃ o,H a=some o
  len:S.length=ρ.length
  ob:∀ (n:Nat) (o:O) (a:Addr),S[n]?=some o→ρ[n]?=some a→AO K (Wn Z ρ) ρ H o a
theorem Sta.mem {K:PySem.W.Frag} {Z:Wd} {ρ:List Addr} {S:Sto} {H:Hp} (s:Sta K Z ρ S H) {a:Addr} (h:a ∈ ρ):∃ (n:Nat) (o:O),S[n]?=some o∧ρ[n]?=some a:=by
  obtain ⟨n,hn,e⟩:=List.getElem_of_mem h
  have h2:n < S.length:=by rw [s.len]; exact hn
  exact ⟨n,S[n],List.getElem?_eq_getElem h2,by rw [List.getElem?_eq_getElem hn,e]⟩
structure Go (ρ:List Addr) (H:Hp) (ρ':List Addr) (H':Hp):Prop where
  pre:ρ <+: ρ'
  keep:∀ a o,a ∉ ρ→H a=some o→a ∉ ρ'∧H' a=some o
  fz:∀ a ob u,H a=some (.frz ob u)→H' a=some (.frz ob u)
theorem Go.refl (ρ:List Addr) (H:Hp):Go ρ H ρ H:=⟨List.prefix_refl _,fun _ _ h q=>⟨h,q⟩,fun _ _ _ q=>q⟩
theorem Go.trans {ρ ρ1 ρ2:List Addr} {H H1 H2:Hp} (a:Go ρ H ρ1 H1) (b:Go ρ1 H1 ρ2 H2):Go ρ H ρ2 H2 :=
  ⟨a.pre.trans b.pre,fun c o h q=>let ⟨h1,q1⟩:=a.keep c o h q; b.keep c o h1 q1,fun c ob u q=>b.fz c ob u (a.fz c ob u q)⟩
theorem Go.mv {K:PySem.W.Frag} {Z:Wd} {ρ ρ':List Addr} {S:Sto} {H H':Hp} (s:Sta K Z ρ S H) (g:Go ρ H ρ' H'):Mv (Wn Z ρ) H (Wn Z ρ') H':=fun a o h q=>by
  have h1:a ∉ ρ:=fun z=>h (.inr z)
  obtain ⟨h2,q2⟩:=g.keep a o h1 q
  exact ⟨fun z=>z.elim (fun z=>h (.inl z)) h2,q2⟩
structure EvOk (K:PySem.W.Frag) (W:Wd) (ρ:List Addr) (H:Hp) (e:Ev) (σ:St):Prop where
  len:e.length=σ.length
  at_:∀ (i:Nat) (x:X),e[i]?=some (some x)→∃ v,σ[i]?=some (some v)∧AX K W ρ H x v
theorem EvOk.mv {K:PySem.W.Frag} {W W':Wd} {ρ ρ':List Addr} {H H':Hp} (m:Mv W H W' H') (p:ρ <+: ρ') {e:Ev} {σ:St} (h:EvOk K W ρ H e σ):EvOk K W' ρ' H' e σ :=
  ⟨h.len,fun i x q=>let ⟨v,h1,h2⟩:=h.at_ i x q; ⟨v,h1,h2.mv m p⟩⟩
theorem EvOk.set {K:PySem.W.Frag} {W:Wd} {ρ:List Addr} {H:Hp} {e:Ev} {σ:St} {i:Nat} {x:X} {v:V} (h:EvOk K W ρ H e σ) (a:AX K W ρ H x v):EvOk K W ρ H (e.set i (some x)) (σ.set i (some v)):=by
  refine ⟨by rw [List.length_set,List.length_set]; exact h.len,fun j y q=>?_⟩
  by_cases hj:i=j
  · subst hj
    have hl:i < e.length:=by
      have:=(List.getElem?_eq_some_iff.mp q).1
      rwa [List.length_set] at this
    rw [List.getElem?_set_self hl] at q
    cases q
    exact ⟨v,by rw [List.getElem?_set_self (by rw [← h.len]; exact hl)],a⟩
  · rw [List.getElem?_set_ne hj] at q
    obtain ⟨u,h1,h2⟩:=h.at_ j y q
    exact ⟨u,by rw [List.getElem?_set_ne hj]; exact h1,h2⟩
def Y88 (K:PySem.W.Frag) (Z:Wd) (ρ:List Addr) (H:Hp) (Wx:WX) (σ:St) (C:Str) (fs:List (Str × D)) (S':Sto):Prop :=
  ∀ (ρ':List Addr) (H':Hp) (d:Option Addr),Sta K Z ρ' S' H'→Go ρ H ρ' H' →
    ((d=none∧fs=[]) ∨ ∃ (dd:Addr) (vs:List (Str × V)),d=some dd∧H dd=none∧¬ Wn Z ρ' dd∧H' dd=some (.xd vs)∧AVf K (Wn Z ρ') H' fs vs)→Wx (.ref (He.ga K C)) d σ H'
def W6 {α β:Type} (rel:Wd→List Addr→Hp→α→β→Prop) (K:PySem.W.Frag) (Z:Wd) (ρ:List Addr) (H:Hp) (Wx:WX) (σ:St) (Q:β→Hp→Prop):R α→Prop
  | .ok x S'=>∀ (ρ':List Addr) (H':Hp) (v:β),Sta K Z ρ' S' H'→Go ρ H ρ' H'→rel (Wn Z ρ') ρ' H' x v→Q v H'
  | .err C fs S'=>Y88 K Z ρ H Wx σ C fs S'
  | .bad=>False
abbrev MG (α:Type):=Ev→Sto→R α
def RG {α β:Type} (rel:Wd→List Addr→Hp→α→β→Prop) (K:PySem.W.Frag) (Wx:WX) (m:MG α):St→Hp→(β→Hp→Prop)→Prop:=fun σ H Q=>∃ (Z:Wd) (ρ:List Addr) (e:Ev) (S:Sto),Sta K Z ρ S H∧EvOk K (Wn Z ρ) ρ H e σ∧W6 rel K Z ρ H Wx σ Q (m e S)
abbrev M:=MG X
abbrev Y3w (K:PySem.W.Frag):=W6 (AX K) K
abbrev RE (K:PySem.W.Frag) (Wx:WX) (m:M):TE:=RG (AX K) K Wx m
abbrev ME (X:Cx) (Wx:WX) (e:Expr) (m:M):Prop:=PE X e (RE X.K Wx m)
abbrev RA (K:PySem.W.Frag) (Wx:WX) (m:MG (List X)):TA:=RG (AXs K) K Wx m
abbrev MA (X:Cx) (Wx:WX) (es:List Expr) (m:MG (List Bv.X)):Prop:=PA X es (RA X.K Wx m)
abbrev relB:Wd→List Addr→Hp→Bool→Bool→Prop:=fun _ _ _ b c=>b=c
abbrev RB (K:PySem.W.Frag) (Wx:WX) (m:MG Bool):L2.TT:=RG relB K Wx m
abbrev MT (X:Cx) (Wx:WX) (e:Expr) (m:MG Bool):Prop:=PT X e (RB X.K Wx m)
def R.bind {α β:Type} (r:R α) (k:α→Sto→R β):R β:=match r with
  | .ok a S=>k a S
  | .err C fs S => .err C fs S
  | .bad => .bad
theorem Y88.shift {K:PySem.W.Frag} {Z:Wd} {ρ ρ1:List Addr} {H H1:Hp} {Wx:WX} {σ:St} {C:Str} {fs:List (Str × D)} {S':Sto} (g:Go ρ H ρ1 H1) (s1:∀ a o,H a=some o→∃ u,H1 a=some u) (h:Y88 K Z ρ H Wx σ C fs S'):Y88 K Z ρ1 H1 Wx σ C fs S':=fun ρ' H' d st go q=>by
  refine h ρ' H' d st (g.trans go) ?_
  rcases q with q | ⟨dd,vs,h1,h2,h3⟩
  · exact .inl q
  · refine .inr ⟨dd,vs,h1,?_,h3⟩
    cases e:H dd with
    | none=>rfl
    | some o =>
      obtain ⟨u,z⟩:=s1 dd o e
      rw [h2] at z; cases z
theorem Y1p {K:PySem.W.Frag} {Z:Wd} {ρ ρ1:List Addr} {S1:Sto} {H H1:Hp} (g:Go ρ H ρ1 H1) (s1:Sta K Z ρ1 S1 H1):∀ a o,H a=some o→∃ u,H1 a=some u:=fun a o q=>by
  by_cases h:a ∈ ρ
  · have h1:a ∈ ρ1:=g.pre.subset h
    obtain ⟨n,o,e1,e2⟩:=s1.mem h1
    exact (s1.ob n o a e1 e2).there
  · exact ⟨o,(g.keep a o h q).2⟩
theorem W6.shift {α β:Type} {rel:Wd→List Addr→Hp→α→β→Prop} {K:PySem.W.Frag} {Z:Wd} {ρ ρ1:List Addr} {S1:Sto} {H H1:Hp} {Wx:WX} {σ:St} {Q:β→Hp→Prop} {r:R α} (g:Go ρ H ρ1 H1) (s1:Sta K Z ρ1 S1 H1) (h:W6 rel K Z ρ H Wx σ Q r):W6 rel K Z ρ1 H1 Wx σ Q r:=by
  cases r with
  | ok x S'=>exact fun ρ' H' v st go a=>h ρ' H' v st (g.trans go) a
  | err C fs S'=>exact Y88.shift g (Y1p g s1) h
  | bad=>exact h
theorem W3 {α β γ δ:Type} {rel:Wd→List Addr→Hp→α→β→Prop} {rel':Wd→List Addr→Hp→γ→δ→Prop} {K:PySem.W.Frag} {Wx:WX} {Z:Wd} {ρ:List Addr} {e:Ev} {S:Sto} {σ:St} {H:Hp} {Q:δ→Hp→Prop} {m:MG α} {k:α→Sto→R γ} {R':β→Hp→Prop} (st:Sta K Z ρ S H) (ev:EvOk K (Wn Z ρ) ρ H e σ) (h:W6 rel' K Z ρ H Wx σ Q ((m e S).bind k))
    (next:∀ ρ1 H1 v x S1,Sta K Z ρ1 S1 H1→Go ρ H ρ1 H1→EvOk K (Wn Z ρ1) ρ1 H1 e σ→rel (Wn Z ρ1) ρ1 H1 x v→W6 rel' K Z ρ1 H1 Wx σ Q (k x S1)→R' v H1):RG rel K Wx m σ H R':=by
  refine ⟨Z,ρ,e,S,st,ev,?_⟩
  cases q:m e S with
  | ok x S1 =>
    rw [q] at h
    exact fun ρ1 H1 v s1 g a=>next ρ1 H1 v x S1 s1 g (ev.mv (g.mv st) g.pre) a (W6.shift g s1 h)
  | err C fs S1=>rw [q] at h; exact h
  | bad=>rw [q] at h; exact h
theorem Sta.grow {K:PySem.W.Frag} {Z:Wd} {ρ:List Addr} {S:Sto} {H H':Hp} (s:Sta K Z ρ S H) (k:∀ a o,H a=some o→H' a=some o):Sta K Z ρ S H':=by
  have m:Mv (Wn Z ρ) H (Wn Z ρ) H':=fun a o h q=>⟨h,k a o q⟩
  refine ⟨s.nd,fun a h=>⟨(s.z a h).1,let ⟨o,q⟩:=(s.z a h).2; ⟨o,k a o q⟩⟩,s.len,fun n o a e1 e2=>?_⟩
  exact AO.mv m (List.prefix_refl _) (k a) (s.ob n o a e1 e2)
theorem Go.grow {ρ:List Addr} {H H':Hp} (k:∀ a o,H a=some o→H' a=some o):Go ρ H ρ H':=⟨List.prefix_refl _,fun a o h q=>⟨h,k a o q⟩,fun a _ _ q=>k a _ q⟩
theorem Sta.thereW {K:PySem.W.Frag} {Z:Wd} {ρ:List Addr} {S:Sto} {H:Hp} (s:Sta K Z ρ S H) {a:Addr} (h:Wn Z ρ a):∃ o,H a=some o:=by
  rcases h with h | h
  · exact (s.z a h).2
  · obtain ⟨n,o,e1,e2⟩:=s.mem h
    exact (s.ob n o a e1 e2).there
theorem Sta.put {K:PySem.W.Frag} {Z:Wd} {ρ:List Addr} {S:Sto} {H:Hp} {n:Nat} {a:Addr} {o':O} {u:HO} (s:Sta K Z ρ S H) (hn:ρ[n]?=some a) (nf:∀ ob u,H a ≠ some (.frz ob u)) (new:AO K (Wn Z ρ) ρ (upd H a u) o' a):Sta K Z ρ (S.set n o') (upd H a u)∧Go ρ H ρ (upd H a u):=by
  have ha:a ∈ ρ:=List.mem_of_getElem? hn
  have m:Mv (Wn Z ρ) H (Wn Z ρ) (upd H a u):=fun b o h q=>⟨h,by rw [upd_ne (fun z=>h (.inr (by rw [z]; exact ha)))]; exact q⟩
  refine ⟨⟨s.nd,fun b h=>⟨(s.z b h).1,?_⟩,by rw [List.length_set]; exact s.len,fun k o b e1 e2=>?_⟩,⟨List.prefix_refl _,fun b o h q=>⟨h,by rw [upd_ne (fun z=>h (by rw [z]; exact ha))]; exact q⟩,fun b ob w q=>by rw [upd_ne (fun z=>nf ob w (by rw [← z]; exact q))]; exact q⟩⟩
  · obtain ⟨o,q⟩:=(s.z b h).2
    exact ⟨o,by rw [upd_ne (fun z=>(s.z b h).1 (by rw [z]; exact ha))]; exact q⟩
  · by_cases hk:n=k
    · subst hk
      rw [hn] at e2; cases e2
      have hl:n < S.length:=by
        have:=(List.getElem?_eq_some_iff.mp e1).1
        rwa [List.length_set] at this
      rw [List.getElem?_set_self hl] at e1
      cases e1
      exact new
    · rw [List.getElem?_set_ne hk] at e1
      have hb:b ≠ a:=fun z=>by
        subst z
        obtain ⟨h1,q1⟩:=List.getElem?_eq_some_iff.mp hn
        obtain ⟨h2,q2⟩:=List.getElem?_eq_some_iff.mp e2
        exact hk ((List.getElem_inj s.nd).mp (q1.trans q2.symm))
      exact AO.mv m (List.prefix_refl _) (fun w q=>by rw [upd_ne hb]; exact q) (s.ob k o b e1 e2)
theorem Sta.push {K:PySem.W.Frag} {Z:Wd} {ρ:List Addr} {S:Sto} {H H':Hp} {a:Addr} {o':O} (s:Sta K Z ρ S H) (hn:H a=none) (k:∀ b o,H b=some o→H' b=some o) (new:AO K (Wn Z (ρ++[a])) (ρ++[a]) H' o' a):Sta K Z (ρ++[a]) (S++[o']) H'∧Go ρ H (ρ++[a]) H':=by
  have hne:∀ b o,H b=some o→b ≠ a:=fun b o q z=>by rw [z,hn] at q; cases q
  have g:Go ρ H (ρ++[a]) H':=⟨List.prefix_append _ _,fun b o h q=>⟨fun z=>by
    rcases List.mem_append.mp z with z | z
    · exact h z
    · exact hne b o q (by simpa using z),k b o q⟩,fun b _ _ q=>k b _ q⟩
  have hna:a ∉ ρ:=fun z=>by
    obtain ⟨n,o,e1,e2⟩:=s.mem z
    obtain ⟨w,q⟩:=(s.ob n o a e1 e2).there
    exact hne a w q rfl
  refine ⟨⟨?_,fun b h=>⟨fun z=>?_,?_⟩,by rw [List.length_append,List.length_append,s.len]; rfl,fun m o b e1 e2=>?_⟩,g⟩
  · rw [List.nodup_append]
    exact ⟨s.nd,by simp,fun x hx y hy z=>by
      have:y=a:=by simpa using hy
      subst this; subst z; exact hna hx⟩
  · obtain ⟨o,q⟩:=(s.z b h).2
    rcases List.mem_append.mp z with z | z
    · exact (s.z b h).1 z
    · exact hne b o q (by simpa using z)
  · obtain ⟨o,q⟩:=(s.z b h).2
    exact ⟨o,k b o q⟩
  · by_cases hm:m < ρ.length
    · rw [List.getElem?_append_left hm] at e2
      rw [List.getElem?_append_left (by rw [s.len]; exact hm)] at e1
      exact AO.mv (g.mv s) g.pre (k b) (s.ob m o b e1 e2)
    · rw [List.getElem?_append_right (by omega)] at e2
      rw [List.getElem?_append_right (by rw [s.len]; omega)] at e1
      have hz:m - ρ.length=0:=by
        have:=(List.getElem?_eq_some_iff.mp e2).1
        simp at this; omega
      rw [hz] at e2
      rw [s.len,hz] at e1
      cases e1; cases e2
      exact new
theorem Sta.fresh {K:PySem.W.Frag} {Z:Wd} {ρ:List Addr} {S:Sto} {H:Hp} (s:Sta K Z ρ S H) {a:Addr} (h:H a=none):¬ Wn Z ρ a:=fun z=>by
  obtain ⟨o,e⟩:=s.thereW z
  rw [h] at e; cases e
theorem Z0f {H:Hp} {p:Addr} {o:HO} (h:H p=none):∀ a u,H a=some u→upd H p o a=some u:=fun a u q=>by
  rw [upd_ne (ne_of_none q h)]; exact q
theorem W6.ret {α β:Type} {rel:Wd→List Addr→Hp→α→β→Prop} {K:PySem.W.Frag} {Z:Wd} {ρ:List Addr} {S:Sto} {H H':Hp} {Wx:WX} {σ:St} {Q:β→Hp→Prop} {x:α} {v:β} (h:W6 rel K Z ρ H Wx σ Q (.ok x S)) (s:Sta K Z ρ S H) (k:∀ a o,H a=some o→H' a=some o) (a:rel (Wn Z ρ) ρ H' x v):Q v H' :=
  h ρ H' v (s.grow k) (Go.grow k) a
theorem W6.ret0 {α β:Type} {rel:Wd→List Addr→Hp→α→β→Prop} {K:PySem.W.Frag} {Z:Wd} {ρ:List Addr} {S:Sto} {H:Hp} {Wx:WX} {σ:St} {Q:β→Hp→Prop} {x:α} {v:β} (h:W6 rel K Z ρ H Wx σ Q (.ok x S)) (s:Sta K Z ρ S H) (a:rel (Wn Z ρ) ρ H x v):Q v H :=
  h ρ H v s (Go.refl _ _) a
end Bv
namespace Bv
open PySem PySem.Spec L2
open PyProof.Rows hiding St
variable [HasW]
inductive AW (K:PySem.W.Frag) (W:Wd) (H:Hp):D→V→Prop
  | av {d:D} {v:V}:AV K W H d v→AW K W H d v
  | lst {a:Addr} {xs:List V} {ds:List D}:H a=some (.lst xs)→AVs K W H ds xs→AW K W H (.lst ds) (.ref a)
  | fdc {a:Addr} {ob:Obj} {ks:List (Key × V)} {kvs:List (D × D)}:H a=some (.frz ob (.dK ks))→AVk K W H kvs ks→AW K W H (.dic kvs) (.ref a)
def X.d?:X→Option D
  | .d v=>some v
  | .r _=>none
def ds?:List X→Option (List D)
  | []=>some []
  | x :: r=>match x,ds? r with
    | .d v,some l=>some (v :: l)
    | _,_=>none
def ks?:List (D × X)→Option (List (D × D))
  | []=>some []
  | (k,x) :: r=>match x,ks? r with
    | .d v,some l=>some ((k,v) :: l)
    | _,_=>none
def X.get (S:Sto):X→Option D
  | .d v=>some v
  | .r n=>match S[n]? with
    | some (.lst xs)=>(ds? xs).map .lst
    | some (.fdc kvs)=>(ks? kvs).map .dic
    | _=>none
section
variable {K:PySem.W.Frag} {W:Wd} {ρ:List Addr} {H:Hp}
theorem AXs.ds:∀ {xs:List X} {vs:List V} {ds:List D},AXs K W ρ H xs vs→ds? xs=some ds→AVs K W H ds vs
  | _,_,_, .nil,e=>by cases e; exact .nil
  | x :: r,_,ds, .cons h hs,e=>by
    cases x with
    | r n=>simp [ds?] at e
    | d v =>
      unfold ds? at e
      cases q:ds? r with
      | none=>rw [q] at e; cases e
      | some l =>
        rw [q] at e
        cases e
        cases h with
        | d h=>exact .cons h (AXs.ds hs q)
theorem AXk.ks:∀ {xs:List (D × X)} {vs:List (Key × V)} {ds:List (D × D)},Paired (fun (p:D × X) (q:Key × V)=>p.1.key?=some q.1∧AX K W ρ H p.2 q.2) xs vs→ks? xs=some ds→AVk K W H ds vs
  | _,_,_, .nil,e=>by cases e; exact .nil
  | (k,x) :: r,_,ds, .cons h hs,e=>by
    cases x with
    | r n=>simp [ks?] at e
    | d v =>
      unfold ks? at e
      cases q:ks? r with
      | none=>rw [q] at e; cases e
      | some l =>
        rw [q] at e
        cases e
        obtain ⟨h1,h2⟩:=h
        cases h2 with
        | d h=>exact .cons h1 h (AXk.ks hs q)
theorem Sta.at_ {Z:Wd} {S:Sto} (s:Sta K Z ρ S H) {n:Nat} {o:O} (e:S[n]?=some o):∃ a,ρ[n]?=some a∧AO K (Wn Z ρ) ρ H o a:=by
  have h:n < ρ.length:=by rw [← s.len]; exact (List.getElem?_eq_some_iff.mp e).1
  exact ⟨ρ[n],List.getElem?_eq_getElem h,s.ob n o _ e (List.getElem?_eq_getElem h)⟩
theorem AX.get {Z:Wd} {S:Sto} (s:Sta K Z ρ S H) {x:X} {v:V} {d:D} (a:AX K (Wn Z ρ) ρ H x v) (e:x.get S=some d):AW K (Wn Z ρ) H d v:=by
  cases a with
  | d h=>cases e; exact .av h
  | r h =>
    rename_i n a
    have e1:(match S[n]? with
      | some (.lst xs)=>(ds? xs).map .lst
      | some (.fdc kvs)=>(ks? kvs).map .dic
      | _=>none)=some d:=e
    cases q:S[n]? with
    | none=>rw [q] at e1; cases e1
    | some o =>
      rw [q] at e1
      obtain ⟨b,hb,x⟩:=s.at_ q
      rw [h] at hb; cases hb
      cases o with
      | lst xs =>
        obtain ⟨l,h1,h2⟩:=Option.map_eq_some_iff.mp (show (ds? xs).map D.lst=some d from e1)
        subst h2
        obtain ⟨vs,h3,h4⟩:=x
        exact .lst h3 (AXs.ds h4 h1)
      | fdc kvs =>
        obtain ⟨l,h1,h2⟩:=Option.map_eq_some_iff.mp (show (ks? kvs).map D.dic=some d from e1)
        subst h2
        obtain ⟨ob,vs,h3,h4⟩:=x
        exact .fdc h3 (AXk.ks h4 h1)
      | _=>cases e1
theorem AW.sq {ds:List D} {v:V} (h:AW K W H (.lst ds) v):∃ a xs,v = .ref a∧H a=some (.lst xs)∧AVs K W H ds xs:=by
  cases h with
  | av h=>cases h with | lst w r hs=>exact ⟨_,_,rfl,r,hs⟩
  | lst h hs=>exact ⟨_,_,rfl,h,hs⟩
theorem AW.tq {ds:List D} {v:V} (h:AW K W H (.tup ds) v):∃ a xs,v = .ref a∧Tp K W H a xs∧AVs K W H ds xs:=by
  cases h with
  | av h=>cases h with | tup t hs=>exact ⟨_,_,rfl,t,hs⟩
theorem AVs.length:∀ {ds:List D} {vs:List V},AVs K W H ds vs→ds.length=vs.length
  | _,_, .nil=>rfl
  | _,_, .cons _ t=>by simp [AVs.length t]
theorem AVs.get:∀ {ds:List D} {vs:List V} {i:Nat} {d:D},AVs K W H ds vs→ds[i]?=some d→∃ v,vs[i]?=some v∧AV K W H d v
  | _,_,_,_, .nil,e=>by simp at e
  | _,_,0,_, .cons h _,e=>by simp at e; subst e; exact ⟨_,rfl,h⟩
  | _,_,i + 1,d, .cons _ t,e=>by
    obtain ⟨v,h1,h2⟩:=AVs.get (i:=i) (d:=d) t (by simpa using e)
    exact ⟨v,by simpa using h1,h2⟩
theorem AVs.append:∀ {ds es:List D} {vs us:List V},AVs K W H ds vs→AVs K W H es us→AVs K W H (ds++es) (vs++us)
  | _,_,_,_, .nil,s=>s
  | _,_,_,_, .cons r t,s => .cons r (AVs.append t s)
theorem AVs.take:∀ {ds:List D} {vs:List V} (n:Nat),AVs K W H ds vs→AVs K W H (ds.take n) (vs.take n)
  | _,_,0,_ => .nil
  | _,_,_ + 1, .nil => .nil
  | _,_,n + 1, .cons r t => .cons r (AVs.take n t)
theorem AVs.drop:∀ {ds:List D} {vs:List V} (n:Nat),AVs K W H ds vs→AVs K W H (ds.drop n) (vs.drop n)
  | _,_,0,r=>r
  | _,_,_ + 1, .nil => .nil
  | _,_,n + 1, .cons _ t=>AVs.drop n t
theorem AVf.look:∀ {fs:List (Str × D)} {vs:List (Str × V)} {f:Str} {d:D},AVf K W H fs vs→fs.lookup f=some d→∃ v,vs.lookup f=some v∧AV K W H d v
  | _,_,_,_, .nil,e=>by cases e
  | (g,x) :: r,_,f,d, .cons h hs,e=>by
    rw [List.lookup_cons] at e ⊢
    cases q:f == g with
    | true=>rw [q] at e; cases e; exact ⟨_,rfl,h⟩
    | false=>rw [q] at e; exact AVf.look hs e
end
def Z1 (i:Nat):M:=fun e S=>match e[i]? with
  | some (some x) => .ok x S
  | _ => .bad
def m_c (d:D):M:=fun _ S => .ok (.d d) S
section
variable {X:Cx} {Wx:WX} {pos:Pos}
theorem PE.of {X:Cx} {e:Expr} {t t':TE} (h:PE X e t) (w:∀ σ H Q,t' σ H Q→t σ H Q):PE X e t':=⟨fun pins s σ H Q I q=>h.run pins s σ H Q I (w σ H Q q)⟩
theorem Z4 (i:Nat) {x:Str} (hN:X.N[i]?=some x:=by rfl) (hv:Vis X.env.scope x:=by first | exact Or.inl rfl | exact Or.inr (Or.inl rfl) | exact Or.inr (Or.inr rfl)) (hd:(x == ("__debug__" : Str))=false:=by decide)
    (hcd:(x == ("__classdict__" : Str))=false:=by decide):ME X Wx (.Name x pos) (Z1 i):=PE.of (pe_var hN hv hd hcd) fun σ H Q ⟨Z,ρ,e,S,st,ev,p⟩=>by
  unfold Z1 at p
  cases q:e[i]? with
  | none=>rw [q] at p; exact p.elim
  | some o =>
    cases o with
    | none=>rw [q] at p; exact p.elim
    | some x =>
      rw [q] at p
      obtain ⟨v,h1,h2⟩:=ev.at_ i x q
      exact ⟨v,h1,p.ret0 st h2⟩
theorem Y59 {e:Expr} {d:D} {v:V} (h:PE X e (tC v)) (a:∀ W H,AV X.K W H d v):ME X Wx e (m_c d):=PE.of h fun σ H Q ⟨Z,ρ,e,S,st,ev,p⟩=>W6.ret0 p st (.d (a _ _))
theorem Y7 {i:Int} {j}:ME X Wx (.Constant (.int i) j pos) (m_c (.int i)):=Y59 pe_int fun _ _ => .int i
theorem Z9m {b:Bool} {j}:ME X Wx (.Constant (.bool b) j pos) (m_c (.bl b)):=Y59 pe_bl fun _ _ => .bl b
theorem Z6j {j}:ME X Wx (.Constant .none j pos) (m_c .non):=Y59 pe_non fun _ _ => .non
theorem Y8 {x:Str} {j} (h:PyData.strOk x=true:=by decide +kernel):ME X Wx (.Constant (.str x) j pos) (m_c (.str x)):=Y59 pe_str fun _ _ => .str h
theorem Y07 {x:Str} {d:D} {u:Value} (hg:Gl X x) (hm:X.mg x=some u) (h:∃ v,(∀ W H,AV X.K W H d v)∧RelV v u) (hd:(x == ("__debug__" : Str))=false:=by decide):ME X Wx (.Name x pos) (m_c d):=by
  obtain ⟨v,a,r⟩:=h
  exact Y59 (pe_glob hg hm r hd) a
end
def Op2 (K:PySem.W.Frag) (r:R2) (f:D→D→Option D):Prop:=∀ (W:Wd) (H:Hp) (d1 d2:D) (v1 v2:V) (d:D) (Q:VK),(∀ a,W a→∃ o,H a=some o)→AW K W H d1 v1→AW K W H d2 v2→f d1 d2=some d →
  (∀ H' v,Same H H'→AV K W H' d v→Q v H')→r v1 v2 H Q
def op2 (f:D→D→Option D) (S:Sto) (x y:X):R X:=match x.get S,y.get S with
  | some a,some b=>(match f a b with
    | some d => .ok (.d d) S
    | none => .bad)
  | _,_ => .bad
def Y1 (f:D→D→Option D) (ma mb:M):M:=fun e S=>(ma e S).bind fun x S1=>(mb e S1).bind fun y S2=>op2 f S2 x y
section
variable {X:Cx} {Wx:WX} {pos:Pos} {a b c:Expr} {ma mb mc:M}
theorem Z3e {W:Wd} {H H':Hp} (k:Same H H'):Mv W H W H':=fun a o h q=>⟨h,k a o q⟩
theorem Y6j {r:R2} {f:D→D→Option D} (hf:Op2 X.K r f) {Z:Wd} {ρ:List Addr} {S:Sto} {H:Hp} {σ:St} {Q:VK} {x y:Bv.X} {v1 v2:V} (st:Sta X.K Z ρ S H) (a1:AX X.K (Wn Z ρ) ρ H x v1) (a2:AX X.K (Wn Z ρ) ρ H y v2)
    (p:Y3w X.K Z ρ H Wx σ Q (op2 f S x y)):r v1 v2 H Q:=by
  unfold op2 at p
  cases e1:x.get S with
  | none=>rw [e1] at p; exact p.elim
  | some d1 =>
    cases e2:y.get S with
    | none=>rw [e1,e2] at p; exact p.elim
    | some d2 =>
      rw [e1,e2] at p
      have p:Y3w X.K Z ρ H Wx σ Q (match f d1 d2 with
        | some d => .ok (.d d) S
        | none => .bad):=p
      cases e3:f d1 d2 with
      | none=>rw [e3] at p; exact p.elim
      | some d =>
        rw [e3] at p
        exact hf (Wn Z ρ) H d1 d2 v1 v2 d Q (fun _ h=>st.thereW h) (a1.get st e1) (a2.get st e2) e3 fun H' v k h=>p.ret st k (.d h)
theorem Y3v {r:R2} {f:D→D→Option D} (hf:Op2 X.K r f) {σ:St} {H:Hp} {Q:VK} (h:RE X.K Wx (Y1 f ma mb) σ H Q):tOp r (RE X.K Wx ma) (RE X.K Wx mb) σ H Q:=by
  obtain ⟨Z,ρ,e,S,st,ev,p⟩:=h
  refine W3 st ev p fun ρ1 H1 v1 x S1 st1 g1 ev1 a1 p1=>?_
  refine W3 st1 ev1 p1 fun ρ2 H2 v2 y S2 st2 g2 ev2 a2 p2=>?_
  exact Y6j hf st2 (a1.mv (g2.mv st1) g2.pre) a2 p2
theorem X3b {op:Operator} {r:R2} {f:D→D→Option D} (ho:OpR X (binaryOp op) r) (hf:Op2 X.K r f) (ha:ME X Wx a ma) (hb:ME X Wx b mb):ME X Wx (.BinOp a op b pos) (Y1 f ma mb) :=
  PE.of (pe_op ho ha hb) fun _ _ _ h=>Y3v hf h
theorem X1p {op:CmpOp} {r:R2} {f:D→D→Option D} (ho:OpR X (compareOp op) r) (hf:Op2 X.K r f) (ha:ME X Wx a ma) (hb:ME X Wx b mb) (hm:behindInMarks op b=false:=by first | exact nomark _ | (with_unfolding_all rfl)):ME X Wx (.Compare a [op] [b] pos) (Y1 f ma mb) :=
  PE.of (pe_cmpR ho ha hb hm) fun _ _ _ h=>Y3v hf h
def V0 (f g:D→D→Option D) (ma mb mc:M):M:=fun e S=>(ma e S).bind fun x S1=>(mb e S1).bind fun y S2=>(op2 f S2 x y).bind fun z S3=>match z with
  | .d (.bl true)=>(mc e S3).bind fun w S4=>op2 g S4 y w
  | .d (.bl false) => .ok (.d (.bl false)) S3
  | _ => .bad
end
end Bv
namespace Bv
open PySem PySem.Spec L2
open PyProof.Rows hiding St
variable [HasW]
mutual
def D.py:D→Option PyData
  | .non=>some .none
  | .bl b=>some (.bool b)
  | .int i=>some (.int i)
  | .str x=>some (.str x)
  | .tup ds=>match pys ds with
    | some l=>some (.tuple l)
    | none=>none
  | .lst ds=>match pys ds with
    | some l=>some (.list l)
    | none=>none
  | .scr ns=>some (.list (ns.map .int))
  | .dic _=>none
  | .obj _ _=>none
  | .gl _=>none
def pys:List D→Option (List PyData)
  | []=>some []
  | d :: r=>match d.py,pys r with
    | some p,some l=>some (p :: l)
    | _,_=>none
end
section
variable {K:PySem.W.Frag} {W:Wd} {H:Hp}
theorem Y5q:∀ ns:List Int,DpAll K H (ns.map V.int) (ns.map PyData.int)
  | [] => .nil
  | n :: r => .cons (.int n) (Y5q r)
theorem Y33:∀ ns:List Int,PyData.canLayAll0 (ns.map PyData.int)=true
  | []=>by simp [PyData.canLayAll0]
  | n :: r=>by simp [PyData.canLayAll0,PyData.canLay0,Y33 r]
mutual
theorem AV.dp:∀ {d:D} {v:V} {p:PyData},AV K W H d v→d.py=some p→Dp K H v p∧p.canLay0=true
  | _,_,_, .non,e=>by cases e; exact ⟨.non,by simp [PyData.canLay0]⟩
  | _,_,_, .bl b,e=>by cases e; exact ⟨.bl b,by simp [PyData.canLay0]⟩
  | _,_,_, .int i,e=>by cases e; exact ⟨.int i,by simp [PyData.canLay0]⟩
  | _,_,_, .str h,e=>by cases e; exact ⟨.str _,by simpa [PyData.canLay0] using h⟩
  | _,_,_, .gl x,e=>by cases e
  | _,_,_, .scr h,e=>by cases e; exact ⟨.lst h.sl (Y5q _),by simpa [PyData.canLay0] using Y33 _⟩
  | .tup ds,_,p, .tup t hs,e=>by
    have e1:(match pys ds with
      | some l=>some (PyData.tuple l)
      | none=>none)=some p:=by simpa [D.py] using e
    cases q:pys ds with
    | none=>rw [q] at e1; cases e1
    | some l =>
      rw [q] at e1; cases e1
      obtain ⟨h1,h2⟩:=AVs.dp hs q
      exact ⟨.tup t.sq h1,by simpa [PyData.canLay0] using h2⟩
  | .lst ds,_,p, .lst w h hs,e=>by
    have e1:(match pys ds with
      | some l=>some (PyData.list l)
      | none=>none)=some p:=by simpa [D.py] using e
    cases q:pys ds with
    | none=>rw [q] at e1; cases e1
    | some l =>
      rw [q] at e1; cases e1
      obtain ⟨h1,h2⟩:=AVs.dp hs q
      exact ⟨.lst (.inl (.inl h)) h1,by simpa [PyData.canLay0] using h2⟩
  | _,_,_, .dic w h hs,e=>by simp [D.py] at e
  | _,_,_, .obj w h hs,e=>by simp [D.py] at e
theorem AVs.dp:∀ {ds:List D} {vs:List V} {ps:List PyData},AVs K W H ds vs→pys ds=some ps→DpAll K H vs ps∧PyData.canLayAll0 ps=true
  | _,_,_, .nil,e=>by simp [pys] at e; subst e; exact ⟨.nil,by simp [PyData.canLayAll0]⟩
  | d :: r,_,ps, .cons h hs,e=>by
    cases q1:d.py with
    | none=>simp [pys,q1] at e
    | some p =>
      cases q2:pys r with
      | none=>simp [pys,q1,q2] at e
      | some l =>
        simp [pys,q1,q2] at e
        subst e
        obtain ⟨h1,h2⟩:=AV.dp h q1
        obtain ⟨h3,h4⟩:=AVs.dp hs q2
        exact ⟨.cons h1 h3,by simp [PyData.canLayAll0,h2,h4]⟩
end
theorem AW.dp {d:D} {v:V} {p:PyData} (h:AW K W H d v) (e:d.py=some p):Dp K H v p∧p.canLay0=true:=by
  cases h with
  | av h=>exact h.dp e
  | lst h hs =>
    rename_i a xs ds
    have e1:(match pys ds with
      | some l=>some (PyData.list l)
      | none=>none)=some p:=by simpa [D.py] using e
    cases q:pys ds with
    | none=>rw [q] at e1; cases e1
    | some l =>
      rw [q] at e1; cases e1
      obtain ⟨h1,h2⟩:=AVs.dp hs q
      exact ⟨.lst (.inl (.inl h)) h1,by simpa [PyData.canLay0] using h2⟩
  | fdc h hs=>simp [D.py] at e
end
def dOk (p:PyData):Bool:=decide (p.depth ≤ 64)
theorem Z5c {p:PyData} (h:p.canLay0=true) (d:dOk p=true):SeqAt.shaped p=true:=by
  unfold SeqAt.shaped
  rw [h,Bool.true_and]
  exact d
def eqD (a b:D):Option D:=match a.py,b.py with
  | some p,some q=>if dOk p && dOk q then some (.bl (PyData.eqv p q)) else none
  | _,_=>none
def neD (a b:D):Option D:=match a.py,b.py with
  | some p,some q=>if dOk p && dOk q then some (.bl (!PyData.eqv p q)) else none
  | _,_=>none
section
variable {K:PySem.W.Frag}
theorem Y87 {a b d:D} {f:PyData→PyData→D} (e:(match a.py,b.py with
  | some p,some q=>if dOk p && dOk q then some (f p q) else none
  | _,_=>none)=some d):∃ p q,a.py=some p∧b.py=some q∧dOk p=true∧dOk q=true∧d=f p q:=by
  cases q1:a.py with
  | none=>rw [q1] at e; cases e
  | some p =>
    cases q2:b.py with
    | none=>rw [q1,q2] at e; cases e
    | some q =>
      rw [q1,q2] at e
      have e:(if dOk p && dOk q then some (f p q) else none)=some d:=e
      cases q3:dOk p && dOk q with
      | false=>rw [q3] at e; cases e
      | true =>
        rw [q3] at e
        cases e
        obtain ⟨h1,h2⟩:=Bool.and_eq_true_iff.mp q3
        exact ⟨p,q,rfl,rfl,h1,h2,rfl⟩
theorem X4n:Op2 K (rEqD K) eqD:=fun W H d1 d2 v1 v2 d Q hw a1 a2 e k=>by
  obtain ⟨p,q,e1,e2,h1,h2,rfl⟩:=Y87 (f:=fun p q => .bl (PyData.eqv p q)) e
  obtain ⟨x1,y1⟩:=a1.dp e1
  obtain ⟨x2,y2⟩:=a2.dp e2
  exact ⟨p,q,x1,x2,Z5c y1 h1,Z5c y2 h2,k H _ (Same.refl H) (.bl _)⟩
theorem X4q:Op2 K (rNeD K) neD:=fun W H d1 d2 v1 v2 d Q hw a1 a2 e k=>by
  obtain ⟨p,q,e1,e2,h1,h2,rfl⟩:=Y87 (f:=fun p q => .bl (!PyData.eqv p q)) e
  obtain ⟨x1,y1⟩:=a1.dp e1
  obtain ⟨x2,y2⟩:=a2.dp e2
  exact ⟨p,q,x1,x2,Z5c y1 h1,Z5c y2 h2,k H _ (Same.refl H) (.bl _)⟩
end
def inB (a b:D):Option Bool:=match a.py,b.py with
  | some p,some (.list l)=>if dOk p && dOk (.list l) then some (l.any fun z=>PyData.eqv z p) else none
  | some p,some (.tuple l)=>if dOk p && dOk (.tuple l) then some (l.any fun z=>PyData.eqv z p) else none
  | some (.str x),some (.str y)=>if x.cps.size=1 then some (y.cps.toList.contains (x.cps.getD 0 0)) else none
  | _,_=>none
def inD (a b:D):Option D:=(inB a b).map .bl
def Z8s (a b:D):Option D:=(inB a b).map fun c => .bl (!c)
def X0q (neg:Bool) (K:PySem.W.Frag):R2:=fun x y H Q=>(∃ d ds,Dp K H x d∧(Dp K H y (.list ds) ∨ Dp K H y (.tuple ds))∧SeqAt.shaped d=true∧SeqAt.shaped (.list ds)=true∧Q (.bl (if neg then !ds.any fun z=>PyData.eqv z d else ds.any fun z=>PyData.eqv z d)) H) ∨
  ∃ (c:Nat) (z:Str),x = .str ⟨#[c]⟩∧y = .str z∧Q (.bl (if neg then !decide (c ∈ z.cps.toList) else decide (c ∈ z.cps.toList))) H
theorem X13 {X:Cx} (hu:X.A.units + 65 < cLine):OpR X (compareOp .In) (X0q false X.K):=by
  intro pins s σ H x y v u Q I rx ry h
  rcases h with ⟨d,ds,hd,he,sd,se,q⟩ | ⟨c,z,rfl,rfl,q⟩
  · obtain ⟨as,r1⟩:=Dp.reads I d x v hd rx
    rcases he with he | he
    · obtain ⟨bs,r2⟩:=Dp.reads I (.list ds) y u he ry
      exact SeqAt.in_list_reads r2 r1 (SeqAt.canLay_of_shaped se) (SeqAt.canLay_of_shaped sd) (room_in_shaped sd hu) ⟨.bl _,H,I,rfl,q⟩
    · obtain ⟨bs,r2⟩:=Dp.reads I (.tuple ds) y u he ry
      exact SeqAt.in_tuple_reads r2 r1 (SeqAt.canLay_of_shaped se) (SeqAt.canLay_of_shaped sd) (room_in_shaped sd hu) ⟨.bl _,H,I,rfl,q⟩
  · exact op_in_sign pins s σ H _ _ v u Q I rx ry ⟨c,z,rfl,rfl,q⟩
theorem Y97 {X:Cx} (hu:X.A.units + 65 < cLine):OpR X (compareOp .NotIn) (X0q true X.K):=by
  intro pins s σ H x y v u Q I rx ry h
  rcases h with ⟨d,ds,hd,he,sd,se,q⟩ | ⟨c,z,rfl,rfl,q⟩
  · obtain ⟨as,r1⟩:=Dp.reads I d x v hd rx
    rcases he with he | he
    · obtain ⟨bs,r2⟩:=Dp.reads I (.list ds) y u he ry
      exact SeqAt.notIn_list_reads r2 r1 (SeqAt.canLay_of_shaped se) (SeqAt.canLay_of_shaped sd) (room_in_shaped sd hu) ⟨.bl _,H,I,rfl,q⟩
    · obtain ⟨bs,r2⟩:=Dp.reads I (.tuple ds) y u he ry
      exact SeqAt.notIn_tuple_reads r2 r1 (SeqAt.canLay_of_shaped se) (SeqAt.canLay_of_shaped sd) (room_in_shaped sd hu) ⟨.bl _,H,I,rfl,q⟩
  · exact op_notIn_sign pins s σ H _ _ v u Q I rx ry ⟨c,z,rfl,rfl,q⟩
theorem Y71 {x:Str} (h:x.cps.size=1):x=⟨#[x.cps.getD 0 0]⟩:=by
  obtain ⟨a⟩:=x
  obtain ⟨l⟩:=a
  cases l with
  | nil=>cases h
  | cons c r =>
    cases r with
    | nil=>rfl
    | cons c' r=>simp at h
theorem Y8p {K:PySem.W.Frag} {W:Wd} {H:Hp} {a b:D} {v1 v2:V} {c:Bool} (neg:Bool) {Q:VK} (a1:AW K W H a v1) (a2:AW K W H b v2) (e:inB a b=some c) (q:Q (.bl (if neg then !c else c)) H):X0q neg K v1 v2 H Q:=by
  unfold inB at e
  cases e1:a.py with
  | none=>rw [e1] at e; cases e
  | some p =>
    cases e2:b.py with
    | none=>rw [e1,e2] at e; cases p <;> cases e
    | some t =>
      rw [e1,e2] at e
      obtain ⟨x1,y1⟩:=a1.dp e1
      obtain ⟨x2,y2⟩:=a2.dp e2
      have seq:∀ {l:List PyData},(Dp K H v2 (.list l) ∨ Dp K H v2 (.tuple l))→PyData.canLayAll0 l=true→dOk (.list l)=true→dOk p=true→c=(l.any fun z=>PyData.eqv z p)→X0q neg K v1 v2 H Q:=fun {l} h hl hd hp hc=>by
        subst hc
        exact .inl ⟨p,l,x1,h,Z5c y1 hp,Z5c (by simpa [PyData.canLay0] using hl) hd,q⟩
      cases t with
      | list l =>
        have e:(if dOk p && dOk (.list l) then some (l.any fun z=>PyData.eqv z p) else none)=some c:=by cases p <;> exact e
        cases h:dOk p && dOk (.list l) with
        | false=>rw [h] at e; cases e
        | true =>
          rw [h] at e
          cases e
          obtain ⟨h1,h2⟩:=Bool.and_eq_true_iff.mp h
          exact seq (.inl x2) (by simpa [PyData.canLay0] using y2) h2 h1 rfl
      | tuple l =>
        have e:(if dOk p && dOk (.tuple l) then some (l.any fun z=>PyData.eqv z p) else none)=some c:=by cases p <;> exact e
        cases h:dOk p && dOk (.tuple l) with
        | false=>rw [h] at e; cases e
        | true =>
          rw [h] at e
          cases e
          obtain ⟨h1,h2⟩:=Bool.and_eq_true_iff.mp h
          exact seq (.inr x2) (by simpa [PyData.canLay0] using y2) (by simpa [dOk,PyData.depth] using h2) h1 rfl
      | str y =>
        cases p with
        | str x =>
          have e:(if x.cps.size=1 then some (y.cps.toList.contains (x.cps.getD 0 0)) else none)=some c:=e
          by_cases h:x.cps.size=1
          · rw [if_pos h] at e
            cases e
            cases x1
            cases x2
            refine .inr ⟨x.cps.getD 0 0,y,by rw [← Y71 h],rfl,?_⟩
            rw [List.contains_eq_mem] at q
            exact q
          · rw [if_neg h] at e; cases e
        | _=>cases e
      | none=>cases p <;> cases e
      | bool _=>cases p <;> cases e
      | int _=>cases p <;> cases e
      | dict _=>cases p <;> cases e
section
variable {K:PySem.W.Frag}
theorem X4o:Op2 K (X0q false K) inD:=fun W H d1 d2 v1 v2 d Q hw a1 a2 e k=>by
  obtain ⟨c,h1,h2⟩:=Option.map_eq_some_iff.mp (show (inB d1 d2).map D.bl=some d from e)
  subst h2
  exact Y8p false a1 a2 h1 (k H _ (Same.refl H) (.bl _))
theorem X3d:Op2 K (X0q true K) Z8s:=fun W H d1 d2 v1 v2 d Q hw a1 a2 e k=>by
  obtain ⟨c,h1,h2⟩:=Option.map_eq_some_iff.mp (show (inB d1 d2).map (fun c=>D.bl (!c))=some d from e)
  subst h2
  exact Y8p true a1 a2 h1 (k H _ (Same.refl H) (.bl _))
end
section
variable {K:PySem.W.Frag}
def ii (f:Int→Int→Option D):D→D→Option D
  | .int i, .int j=>f i j
  | _,_=>none
theorem AW.int_inv {W:Wd} {H:Hp} {i:Int} {v:V} (h:AW K W H (.int i) v):v = .int i:=by
  cases h with | av h=>cases h; rfl
theorem AW.str_inv {W:Wd} {H:Hp} {x:Str} {v:V} (h:AW K W H (.str x) v):v = .str x∧PyData.strOk x=true:=by
  cases h with | av h=>cases h with | str h=>exact ⟨rfl,h⟩
theorem AW.bl_inv {W:Wd} {H:Hp} {b:Bool} {v:V} (h:AW K W H (.bl b) v):v = .bl b:=by
  cases h with | av h=>cases h; rfl
theorem AW.non_inv {W:Wd} {H:Hp} {v:V} (h:AW K W H .non v):v = .non:=by
  cases h with | av h=>cases h; rfl
theorem Y51 {f:Int→Int→Option D} {a b d:D} (e:ii f a b=some d):∃ i j,a = .int i∧b = .int j∧f i j=some d:=by
  cases a with
  | int i=>cases b with
    | int j=>exact ⟨i,j,rfl,rfl,e⟩
    | _=>cases e
  | _=>cases b <;> cases e
theorem X10 {g:Int→Int→Int}:Op2 K (rI0 fun i j => .int (g i j)) (ii fun i j=>some (.int (g i j))):=fun W H d1 d2 v1 v2 d Q hw a1 a2 e k=>by
  obtain ⟨i,j,rfl,rfl,e0⟩:=Y51 e
  clear e
  have e:=e0
  clear e0
  cases e
  cases a1.int_inv
  cases a2.int_inv
  exact ⟨i,j,rfl,rfl,k H _ (Same.refl H) (.int _)⟩
theorem Y4d {C:Int→Int→Prop} [∀ i j,Decidable (C i j)] {g:Int→Int→Int}:Op2 K (rI C fun i j => .int (g i j)) (ii fun i j=>if C i j then some (.int (g i j)) else none):=fun W H d1 d2 v1 v2 d Q hw a1 a2 e k=>by
  obtain ⟨i,j,rfl,rfl,e0⟩:=Y51 e
  clear e
  have e:=e0
  clear e0
  by_cases h:C i j
  · rw [if_pos h] at e
    cases e
    cases a1.int_inv
    cases a2.int_inv
    exact ⟨i,j,rfl,rfl,h,k H _ (Same.refl H) (.int _)⟩
  · rw [if_neg h] at e; cases e
theorem Y4c {g:Int→Int→Bool}:Op2 K (rI0 fun i j => .bl (g i j)) (ii fun i j=>some (.bl (g i j))):=fun W H d1 d2 v1 v2 d Q hw a1 a2 e k=>by
  obtain ⟨i,j,rfl,rfl,e0⟩:=Y51 e
  clear e
  have e:=e0
  clear e0
  cases e
  cases a1.int_inv
  cases a2.int_inv
  exact ⟨i,j,rfl,rfl,k H _ (Same.refl H) (.bl _)⟩
instance (i j:Int):Decidable (CMul i j):=by unfold CMul; infer_instance
instance (i j:Int):Decidable (CDiv i j):=by unfold CDiv; infer_instance
instance (i j:Int):Decidable (CPow i j):=by unfold CPow; infer_instance
def Y84:D→D→Option D:=ii fun i j=>some (.int (i - j))
def Y0o:D→D→Option D:=ii fun i j=>if CMul i j then some (.int (i * j)) else none
def Y5x:D→D→Option D:=ii fun i j=>if CDiv i j then some (.int (i / j)) else none
def Y29:D→D→Option D:=ii fun i j=>if 0 < j then some (.int (i % j)) else none
def X3f:D→D→Option D:=ii fun i j=>if CPow i j then some (.int (i ^ j.toNat)) else none
def ltD:D→D→Option D:=ii fun i j=>some (.bl (decide (i < j)))
def leD:D→D→Option D:=ii fun i j=>some (.bl (decide (i ≤ j)))
def gtD:D→D→Option D:=ii fun i j=>some (.bl (decide (j < i)))
def geD:D→D→Option D:=ii fun i j=>some (.bl (decide (j ≤ i)))
end
section
variable {K:PySem.W.Frag} {W:Wd} {H:Hp}
theorem Z75 {p:Addr} {ds:List D} {xs:List V} (hw:∀ a,W a→∃ o,H a=some o) (hp:H p=none) (a:AVs K W H ds xs):AV K W (upd H p (.lst xs)) (.lst ds) (.ref p) :=
  .lst (fun z=>by obtain ⟨o,e⟩:=hw p z; rw [hp] at e; cases e) upd_same (a.mv (Z3e (Z0f hp)))
theorem Z76 {p:Addr} {ds:List D} {xs:List V} (hw:∀ a,W a→∃ o,H a=some o) (hp:H p=none) (a:AVs K W H ds xs):AV K W (upd H p (.tup xs)) (.tup ds) (.ref p) :=
  .tup (.inl ⟨fun z=>(by obtain ⟨o,e⟩:=hw p z; rw [hp] at e; cases e),upd_same⟩) (a.mv (Z3e (Z0f hp)))
theorem Z6o {x y:Str} (hx:PyData.strOk x=true) (hy:PyData.strOk y=true):PyData.strOk (x++y)=true:=by
  unfold PyData.strOk at *
  have e:(x++y).cps=x.cps++y.cps:=rfl
  rw [e,Array.all_append,hx,hy]; rfl
end
def Z2f (a b:D):Option D:=match a,b with
  | .int i, .int j=>some (.int (i + j))
  | .str x, .str y=>if x.length + y.length ≤ sizeLine then some (.str (x++y)) else none
  | .lst xs, .lst ys=>if xs.length + ys.length ≤ sizeLine then some (.lst (xs++ys)) else none
  | .tup xs, .tup ys=>if xs.length + ys.length ≤ sizeLine then some (.tup (xs++ys)) else none
  | _,_=>none
def X16 (K:PySem.W.Frag):R2:=fun x y H Q=>((rI0 fun i j => .int (i + j)) x y H Q) ∨ ((∃ i j,x = .str i∧y = .str j∧i.length + j.length ≤ sizeLine∧Q (.str (i++j)) H) ∨ (rCat x y H Q ∨ rCatA K x y H Q))
theorem Y6k {X:Cx}:OpR X (binaryOp .Add) (X16 X.K):=OpR.or op_add (OpR.or op_add_str (OpR.or op_cat op_catA))
theorem X1z {K:PySem.W.Frag}:Op2 K (X16 K) Z2f:=fun W H d1 d2 v1 v2 d Q hw a1 a2 e k=>by
  cases d1 with
  | int i=>cases d2 with
    | int j =>
      cases e
      cases a1.int_inv
      cases a2.int_inv
      exact .inl ⟨i,j,rfl,rfl,k H _ (Same.refl H) (.int _)⟩
    | _=>cases e
  | str x=>cases d2 with
    | str y =>
      have e:(if x.length + y.length ≤ sizeLine then some (D.str (x++y)) else none)=some d:=e
      by_cases h:x.length + y.length ≤ sizeLine
      · rw [if_pos h] at e
        cases e
        obtain ⟨rfl,h1⟩:=a1.str_inv
        obtain ⟨rfl,h2⟩:=a2.str_inv
        exact .inr (.inl ⟨x,y,rfl,rfl,h,k H _ (Same.refl H) (.str (Z6o h1 h2))⟩)
      · rw [if_neg h] at e; cases e
    | _=>cases e
  | lst xs=>cases d2 with
    | lst ys =>
      have e:(if xs.length + ys.length ≤ sizeLine then some (D.lst (xs++ys)) else none)=some d:=e
      by_cases h:xs.length + ys.length ≤ sizeLine
      · rw [if_pos h] at e
        cases e
        obtain ⟨a,vs,rfl,h1,q1⟩:=a1.sq
        obtain ⟨b,us,rfl,h2,q2⟩:=a2.sq
        refine .inr (.inr (.inl ⟨a,b,vs,us,rfl,rfl,h1,h2,by rw [← q1.length,← q2.length]; exact h,fun p hp=>?_⟩))
        exact k _ _ (Z0f hp) (Z75 hw hp (q1.append q2))
      · rw [if_neg h] at e; cases e
    | _=>cases e
  | tup xs=>cases d2 with
    | tup ys =>
      have e:(if xs.length + ys.length ≤ sizeLine then some (D.tup (xs++ys)) else none)=some d:=e
      by_cases h:xs.length + ys.length ≤ sizeLine
      · rw [if_pos h] at e
        cases e
        obtain ⟨a,vs,rfl,h1,q1⟩:=a1.tq
        obtain ⟨b,us,rfl,h2,q2⟩:=a2.tq
        refine .inr (.inr (.inr ⟨a,b,vs,us,rfl,rfl,h1.sq,h2.sq,by rw [← q1.length,← q2.length]; exact h,fun z=>?_,fun z1 z2=>?_,fun _ _ p hp=>?_⟩))
        · subst z
          cases q1
          exact k H _ (Same.refl H) (.tup h2 q2)
        · subst z2
          cases q2
          rw [List.append_nil] at k
          exact k H _ (Same.refl H) (.tup h1 q1)
        · exact k _ _ (Z0f hp) (Z76 hw hp (q1.append q2))
      · rw [if_neg h] at e; cases e
    | _=>cases e
  | _=>cases e
def D.isNon:D→Bool
  | .non=>true
  | _=>false
def isD (a b:D):Option D:=match b with
  | .non=>some (.bl a.isNon)
  | _=>none
def X1j (a b:D):Option D:=match b with
  | .non=>some (.bl (!a.isNon))
  | _=>none
theorem AW.isN {K:PySem.W.Frag} {W:Wd} {H:Hp} {d:D} {v:V} (h:AW K W H d v):decide (v = .non)=d.isNon:=by
  cases h with
  | av h=>cases h <;> simp [D.isNon]
  | lst h hs=>simp [D.isNon]
  | fdc h hs=>simp [D.isNon]
theorem X4p {K:PySem.W.Frag}:Op2 K (fun x y H Q=>y = .non∧Q (.bl (decide (x = .non))) H) isD:=fun W H d1 d2 v1 v2 d Q hw a1 a2 e k=>by
  cases d2 with
  | non =>
    cases a2.non_inv
    refine ⟨rfl,?_⟩
    rw [a1.isN]
    cases e
    exact k H _ (Same.refl H) (.bl _)
  | _=>cases e
theorem X3c {K:PySem.W.Frag}:Op2 K (fun x y H Q=>y = .non∧Q (.bl (!decide (x = .non))) H) X1j:=fun W H d1 d2 v1 v2 d Q hw a1 a2 e k=>by
  cases d2 with
  | non =>
    cases a2.non_inv
    refine ⟨rfl,?_⟩
    rw [a1.isN]
    cases e
    exact k H _ (Same.refl H) (.bl _)
  | _=>cases e
end Bv
namespace Bv
open PySem PySem.Spec L2
open PyProof.Rows hiding St
variable [HasW]
def Q4:D→Option Bool
  | .non=>some false
  | .bl b=>some b
  | .int i=>some (i != 0)
  | .str x=>if x.length ≤ sizeLine then some ((x.length:Int) != 0) else none
  | .lst ds=>some (!ds.isEmpty)
  | .tup ds=>some (!ds.isEmpty)
  | .dic _=>none
  | .scr ns=>some (!ns.isEmpty)
  | .obj _ _=>none
  | .gl _=>none
theorem AVs.isEmpty {K:PySem.W.Frag} {W:Wd} {H:Hp}:∀ {ds:List D} {vs:List V},AVs K W H ds vs→ds.isEmpty=vs.isEmpty
  | _,_, .nil=>rfl
  | _,_, .cons _ _=>rfl
theorem AW.tru {K:PySem.W.Frag} {W:Wd} {H:Hp} {d:D} {v:V} {b:Bool} (h:AW K W H d v) (e:Q4 d=some b):TruV K v H b:=by
  cases d with
  | non=>cases h.non_inv; cases e; rfl
  | bl c=>cases h.bl_inv; cases e; rfl
  | int i=>cases h.int_inv; cases e; rfl
  | str x =>
    obtain ⟨rfl,_⟩:=h.str_inv
    have e:(if x.length ≤ sizeLine then some ((x.length:Int) != 0) else none)=some b:=e
    by_cases hx:x.length ≤ sizeLine
    · rw [if_pos hx] at e
      cases e
      exact ⟨hx,rfl⟩
    · rw [if_neg hx] at e; cases e
  | lst ds =>
    obtain ⟨a,xs,rfl,h1,h2⟩:=h.sq
    cases e
    exact .inl ⟨xs, .inl (.inl h1),by rw [h2.isEmpty]⟩
  | tup ds =>
    obtain ⟨a,xs,rfl,h1,h2⟩:=h.tq
    cases e
    exact .inr (.inl ⟨xs,h1.sq,by rw [h2.isEmpty]⟩)
  | dic ds=>cases e
  | scr ns =>
    cases e
    cases h with
    | av h=>cases h with
      | scr r=>exact .inl ⟨_,r.sl,by simp⟩
  | obj _ _=>cases e
  | gl _=>cases e
def V3 (S:Sto) (x:X):Option Bool:=(x.get S).bind Q4
def X5 (m:M):MG Bool:=fun e S=>(m e S).bind fun x S1=>match V3 S1 x with
  | some b => .ok b S1
  | none => .bad
def tb:X→Sto→R Bool:=fun x S=>match x with
  | .d (.bl b) => .ok b S
  | _ => .bad
def V6 (m:M):MG Bool:=fun e S=>(m e S).bind tb
def X9 (m:MG Bool):MG Bool:=fun e S=>(m e S).bind fun b S1 => .ok (!b) S1
def W7 (ma mb:MG Bool):MG Bool:=fun e S=>(ma e S).bind fun b S1=>if b then mb e S1 else .ok false S1
def V8 (ma mb:MG Bool):MG Bool:=fun e S=>(ma e S).bind fun b S1=>if b then .ok true S1 else mb e S1
def Z4s (m:MG Bool):M:=fun e S=>(m e S).bind fun b S1 => .ok (.d (.bl b)) S1
def Z1r (m:M):M:=Z4s (X9 (X5 m))
def Z0i (ma mb:M):M:=fun e S=>(ma e S).bind fun x S1=>match V3 S1 x with
  | some true=>mb e S1
  | some false => .ok x S1
  | none => .bad
def Z3j (ma mb:M):M:=fun e S=>(ma e S).bind fun x S1=>match V3 S1 x with
  | some true => .ok x S1
  | some false=>mb e S1
  | none => .bad
def Z26 (mt:MG Bool) (ma mb:M):M:=fun e S=>(mt e S).bind fun b S1=>if b then ma e S1 else mb e S1
section
variable {X:Cx} {Wx:WX} {pos:Pos} {a b c:Expr} {ma mb mc:M} {rest:List Expr} {mt mu:MG Bool}
theorem AX.tru {K:PySem.W.Frag} {Z:Wd} {ρ:List Addr} {S:Sto} {H:Hp} {x:Bv.X} {v:V} {k:Bool} (st:Sta K Z ρ S H) (h:AX K (Wn Z ρ) ρ H x v) (e:V3 S x=some k):TruV K v H k:=by
  obtain ⟨d,h1,h2⟩:=Option.bind_eq_some_iff.mp e
  exact (h.get st h1).tru h2
theorem Z0q (h:ME X Wx a ma) (he:∀ whole,isTrue a X.env whole=(do let v ← whole; standAt a.pos; holding [v] (truthy v)):=by intro _; rfl):MT X Wx a (X5 ma):=by
  refine ⟨fun pins s σ H Q I hq=>(pt_truth h he).run pins s σ H Q I ?_⟩
  obtain ⟨Z,ρ,e,S,st,ev,p⟩:=hq
  refine W3 st ev p fun ρ1 H1 v x S1 st1 g1 ev1 a1 p1=>?_
  cases q:V3 S1 x with
  | none=>rw [q] at p1; exact p1.elim
  | some k =>
    rw [q] at p1
    exact ⟨k,a1.tru st1 q,p1.ret0 st1 rfl⟩
theorem X1u {op:CmpOp} {r:R2} {f:D→D→Option D} (ho:OpR X (compareOp op) r) (hf:Op2 X.K r f) (ha:ME X Wx a ma) (hb:ME X Wx b mb) (hm:behindInMarks op b=false:=by first | exact nomark _ | (with_unfolding_all rfl)):MT X Wx (.Compare a [op] [b] pos) (V6 (Y1 f ma mb)):=by
  refine ⟨fun pins s σ H Q I hq=>(pt_cmpR ho ha hb hm).run pins s σ H Q I ?_⟩
  obtain ⟨Z,ρ,e,S,st,ev,p⟩:=hq
  show tOp r (RE X.K Wx ma) (RE X.K Wx mb) σ H fun x H'=>∃ k,x = .bl k∧Q k H'
  refine Y3v (f:=f) hf ?_
  refine W3 st ev p fun ρ1 H1 v x S1 st1 g1 ev1 a1 p1=>?_
  cases x with
  | r n=>exact p1.elim
  | d d =>
    cases d with
    | bl k =>
      cases a1 with
      | d h =>
        cases h
        exact ⟨k,rfl,p1.ret0 st1 rfl⟩
    | _=>exact p1.elim
theorem Z2l (h:MT X Wx a mt):MT X Wx (.UnaryOp .Not a pos) (X9 mt):=by
  refine ⟨fun pins s σ H Q I hq=>(pt_not h).run pins s σ H Q I ?_⟩
  obtain ⟨Z,ρ,e,S,st,ev,p⟩:=hq
  refine W3 st ev p fun ρ1 H1 v x S1 st1 g1 ev1 a1 p1=>?_
  cases (show x=v from a1)
  exact p1.ret0 st1 rfl
abbrev MW (X:Cx) (Wx:WX) (e:Expr) (m:MG Bool):Prop:=PW X e (RB X.K Wx m)
theorem Z4k (h:MT X Wx a mt):MW X Wx (.BoolOp .And [a] pos) mt:=pw_and1 h
theorem Z3y (h:MT X Wx a mt):MW X Wx (.BoolOp .Or [a] pos) mt:=pw_or1 h
theorem Z51 (h:MT X Wx a mt) (h2:MW X Wx (.BoolOp .And (b :: rest) pos) mu):MW X Wx (.BoolOp .And (a :: b :: rest) pos) (W7 mt mu):=by
  refine ⟨fun wh pins s σ H Q I hq=>(pw_and h h2).run wh pins s σ H Q I ?_⟩
  obtain ⟨Z,ρ,e,S,st,ev,p⟩:=hq
  refine W3 st ev p fun ρ1 H1 v x S1 st1 g1 ev1 a1 p1=>?_
  cases (show x=v from a1)
  cases v with
  | true=>exact ⟨Z,ρ1,e,S1,st1,ev1,p1⟩
  | false=>exact p1.ret0 st1 rfl
theorem Z54 (h:MT X Wx a mt) (h2:MW X Wx (.BoolOp .Or (b :: rest) pos) mu):MW X Wx (.BoolOp .Or (a :: b :: rest) pos) (V8 mt mu):=by
  refine ⟨fun wh pins s σ H Q I hq=>(pw_or h h2).run wh pins s σ H Q I ?_⟩
  obtain ⟨Z,ρ,e,S,st,ev,p⟩:=hq
  refine W3 st ev p fun ρ1 H1 v x S1 st1 g1 ev1 a1 p1=>?_
  cases (show x=v from a1)
  cases v with
  | true=>exact p1.ret0 st1 rfl
  | false=>exact ⟨Z,ρ1,e,S1,st1,ev1,p1⟩
theorem Z72 (h:MW X Wx a mt):MT X Wx a mt:=h.pt
theorem Z9n {op} (h:ME X Wx a ma):ME X Wx (.BoolOp op [a] pos) ma:=pe_one h
theorem Y37 (h:ME X Wx a ma) (h2:ME X Wx (.BoolOp .And (b :: rest) pos) mb):ME X Wx (.BoolOp .And (a :: b :: rest) pos) (Z0i ma mb):=PE.of (pe_andT h h2) fun σ H Q ⟨Z,ρ,e,S,st,ev,p⟩=>by
  refine W3 st ev p fun ρ1 H1 v x S1 st1 g1 ev1 a1 p1=>?_
  cases q:V3 S1 x with
  | none=>rw [q] at p1; exact p1.elim
  | some k =>
    rw [q] at p1
    refine ⟨k,a1.tru st1 q,?_⟩
    cases k with
    | true=>rw [if_pos rfl]; exact ⟨Z,ρ1,e,S1,st1,ev1,p1⟩
    | false=>rw [if_neg Bool.false_ne_true]; exact W6.ret0 p1 st1 a1
theorem Y9w (h:ME X Wx a ma) (h2:ME X Wx (.BoolOp .Or (b :: rest) pos) mb):ME X Wx (.BoolOp .Or (a :: b :: rest) pos) (Z3j ma mb):=PE.of (pe_orT h h2) fun σ H Q ⟨Z,ρ,e,S,st,ev,p⟩=>by
  refine W3 st ev p fun ρ1 H1 v x S1 st1 g1 ev1 a1 p1=>?_
  cases q:V3 S1 x with
  | none=>rw [q] at p1; exact p1.elim
  | some k =>
    rw [q] at p1
    refine ⟨k,a1.tru st1 q,?_⟩
    cases k with
    | true=>rw [if_pos rfl]; exact W6.ret0 p1 st1 a1
    | false=>rw [if_neg Bool.false_ne_true]; exact ⟨Z,ρ1,e,S1,st1,ev1,p1⟩
theorem Y16 (hc:MT X Wx c mt) (h:ME X Wx a ma) (h2:ME X Wx b mb):ME X Wx (.IfExp c a b pos) (Z26 mt ma mb):=PE.of (pe_ifExp hc h h2) fun σ H Q ⟨Z,ρ,e,S,st,ev,p⟩=>by
  refine W3 st ev p fun ρ1 H1 v x S1 st1 g1 ev1 a1 p1=>?_
  cases (show x=v from a1)
  cases v with
  | true=>exact ⟨Z,ρ1,e,S1,st1,ev1,p1⟩
  | false=>exact ⟨Z,ρ1,e,S1,st1,ev1,p1⟩
theorem Y5n {r r':R2} {f g:D→D→Option D} (hf:Op2 X.K r f) (hg:Op2 X.K r' g) {σ:St} {H:Hp} {Q:VK} (h:RE X.K Wx (V0 f g ma mb mc) σ H Q):tChain r r' (RE X.K Wx ma) (RE X.K Wx mb) (RE X.K Wx mc) σ H Q:=by
  obtain ⟨Z,ρ,e,S,st,ev,p⟩:=h
  refine W3 st ev p fun ρ1 H1 v x S1 st1 g1 ev1 a1 p1=>?_
  refine W3 st1 ev1 p1 fun ρ2 H2 u y S2 st2 g2 ev2 a2 p2=>?_
  have a1':=a1.mv (g2.mv st1) g2.pre
  have:=ev2
  have key:∀ d:D,op2 f S2 x y=R.ok (Bv.X.d d) S2→∃ d1 d2,x.get S2=some d1∧y.get S2=some d2∧f d1 d2=some d:=fun d q=>by
    unfold op2 at q
    cases e1:x.get S2 with
    | none=>rw [e1] at q; cases q
    | some d1 =>
      cases e2:y.get S2 with
      | none=>rw [e1,e2] at q; cases q
      | some d2 =>
        rw [e1,e2] at q
        have q:(match f d1 d2 with
          | some d=>R.ok (Bv.X.d d) S2
          | none => .bad) = .ok (Bv.X.d d) S2:=q
        cases e3:f d1 d2 with
        | none=>rw [e3] at q; cases q
        | some d3=>rw [e3] at q; cases q; exact ⟨d1,d2,rfl,rfl,e3⟩
  cases q:op2 f S2 x y with
  | bad=>rw [q] at p2; exact p2.elim
  | err C fs S3=>unfold op2 at q; split at q <;> (first | cases q | (split at q <;> cases q))
  | ok z S3 =>
    have hz:∃ d:D,z=Bv.X.d d∧S3=S2:=by
      unfold op2 at q
      split at q
      · split at q
        · cases q; exact ⟨_,rfl,rfl⟩
        · cases q
      · cases q
    obtain ⟨d,rfl,rfl⟩:=hz
    obtain ⟨d1,d2,e1,e2,e3⟩:=key d q
    rw [q] at p2
    refine hf (Wn Z ρ2) H2 d1 d2 v u d _ (fun _ h=>st2.thereW h) (a1'.get st2 e1) (a2.get st2 e2) e3 fun H3 w k a3=>?_
    cases d with
    | bl kk =>
      cases a3
      refine ⟨kk,rfl,?_⟩
      have st3:=st2.grow k
      have g3:Go ρ2 H2 ρ2 H3:=Go.grow k
      have ev3:=ev2.mv (g3.mv st2) g3.pre
      cases kk with
      | true =>
        rw [if_pos rfl]
        refine W3 st3 ev3 (W6.shift g3 st3 p2) fun ρ4 H4 w' y' S4 st4 g4 ev4 a4 p4=>?_
        exact Y6j hg st4 (a2.mv ((g3.trans g4).mv st2) (g3.trans g4).pre) a4 p4
      | false =>
        rw [if_neg Bool.false_ne_true]
        exact W6.ret p2 st2 k (.d (.bl _))
    | _=>exact p2.elim
theorem X2p {m:M} {σ:St} {H:Hp} {Q:Bool→Hp→Prop} (h:RB X.K Wx (V6 m) σ H Q):RE X.K Wx m σ H fun x H'=>∃ k,x = .bl k∧Q k H':=by
  obtain ⟨Z,ρ,e,S,st,ev,p⟩:=h
  refine W3 st ev p fun ρ1 H1 v x S1 st1 g1 ev1 a1 p1=>?_
  cases x with
  | r n=>exact p1.elim
  | d d =>
    cases d with
    | bl k =>
      cases a1 with
      | d h =>
        cases h
        exact ⟨k,rfl,p1.ret0 st1 rfl⟩
    | _=>exact p1.elim
theorem Y7w {op op':CmpOp} {r r':R2} {f g:D→D→Option D} (ho:OpR X (compareOp op) r) (ho':OpR X (compareOp op') r') (hf:Op2 X.K r f) (hg:Op2 X.K r' g) (ha:ME X Wx a ma) (hb:ME X Wx b mb) (hc:ME X Wx c mc)
    (hm:lastMarks [op,op'] [b,c]=false:=by with_unfolding_all rfl):MT X Wx (.Compare a [op,op'] [b,c] pos) (V6 (V0 f g ma mb mc)) :=
  ⟨fun pins s σ H Q I hq=>(pt_chain ho ho' ha hb hc hm).run pins s σ H Q I (Y5n hf hg (X2p hq))⟩
end
end Bv
namespace Bv
open PySem PySem.Spec L2
open PyProof.Rows hiding St
variable [HasW]
def Z2o {α:Type} (o:Option α) (S:Sto):R α:=match o with
  | some a => .ok a S
  | none => .bad
theorem W6.opt {α β:Type} {rel:Wd→List Addr→Hp→α→β→Prop} {K:PySem.W.Frag} {Z:Wd} {ρ:List Addr} {H:Hp} {Wx:WX} {σ:St} {Q:β→Hp→Prop} {o:Option α} {S:Sto} (p:W6 rel K Z ρ H Wx σ Q (Z2o o S)):∃ a,o=some a∧W6 rel K Z ρ H Wx σ Q (.ok a S):=by
  cases o with
  | none=>exact p.elim
  | some a=>exact ⟨a,rfl,p⟩
def Z6:MG (List X):=fun _ S => .ok [] S
def Z0 (m:M) (ms:MG (List X)):MG (List X):=fun e S=>(m e S).bind fun x S1=>(ms e S1).bind fun xs S2 => .ok (x :: xs) S2
def items (S:Sto):X→Option (List X)
  | .d (.lst ds)=>some (ds.map .d)
  | .d (.tup ds)=>some (ds.map .d)
  | .d _=>none
  | .r n=>match S[n]? with
    | some (.lst xs)=>some xs
    | _=>none
def W8 (m:M) (ms:MG (List X)):MG (List X):=fun e S=>(m e S).bind fun x S1=>match items S1 x with
  | some ys=>(ms e S1).bind fun xs S2 => .ok (ys++xs) S2
  | none => .bad
section
variable {X:Cx} {Wx:WX} {pos p:Pos} {a b c:Expr} {es:List Expr} {ma mb mc m:M} {ms:MG (List Bv.X)}
theorem Paired.append {α β:Type} {F:α→β→Prop}:∀ {l1 l2:List α} {r1 r2:List β},Paired F l1 r1→Paired F l2 r2→Paired F (l1++l2) (r1++r2)
  | _,_,_,_, .nil,s=>s
  | _,_,_,_, .cons r t,s => .cons r (Paired.append t s)
theorem AVs.axs {K:PySem.W.Frag} {W:Wd} {ρ:List Addr} {H:Hp}:∀ {ds:List D} {vs:List V},AVs K W H ds vs→AXs K W ρ H (ds.map .d) vs
  | _,_, .nil => .nil
  | _,_, .cons h hs => .cons (.d h) (AVs.axs hs)
theorem AX.items {K:PySem.W.Frag} {Z:Wd} {ρ:List Addr} {S:Sto} {H:Hp} {x:Bv.X} {v:V} {ys:List Bv.X} (st:Sta K Z ρ S H) (h:AX K (Wn Z ρ) ρ H x v) (e:items S x=some ys) :
    ∃ q xs,v = .ref q∧(SqT K H q xs ∨ SqL K H q xs)∧AXs K (Wn Z ρ) ρ H ys xs:=by
  cases h with
  | d h =>
    cases h with
    | lst w r hs=>cases e; exact ⟨_,_,rfl, .inr (.inl (.inl r)),hs.axs⟩
    | tup t hs=>cases e; exact ⟨_,_,rfl, .inl t.sq,hs.axs⟩
    | _=>cases e
  | r h =>
    rename_i n q
    have e1:(match S[n]? with
      | some (.lst xs)=>some xs
      | _=>none)=some ys:=e
    cases z:S[n]? with
    | none=>rw [z] at e1; cases e1
    | some o =>
      rw [z] at e1
      cases o with
      | lst xs =>
        cases e1
        obtain ⟨vs,h1,h2⟩:=st.ob n _ q z h
        exact ⟨q,vs,rfl, .inr (.inl (.inl h1)),h2⟩
      | _=>cases e1
theorem Y0:MA X Wx [] Z6:=⟨fun pos pins s σ H Q I h=>pa_nil.run pos pins s σ H Q I (by
  obtain ⟨Z,ρ,e,S,st,ev,p⟩:=h
  exact W6.ret0 p st .nil)⟩
theorem PA.of {X:Cx} {es:List Expr} {t t':TA} (h:PA X es t) (w:∀ σ H Q,t' σ H Q→t σ H Q):PA X es t':=⟨fun pos pins s σ H Q I q=>h.run pos pins s σ H Q I (w σ H Q q)⟩
theorem Z3 (h:ME X Wx a ma) (h2:MA X Wx es ms) (hs:starEach (a :: es) X.env=(false,eval a X.env) :: starEach es X.env:=by rfl):MA X Wx (a :: es) (Z0 ma ms):=PA.of (pa_cons h h2 hs) fun σ H Q ⟨Z,ρ,e,S,st,ev,p⟩=>by
  refine W3 st ev p fun ρ1 H1 v x S1 st1 g1 ev1 a1 p1=>?_
  refine W3 st1 ev1 p1 fun ρ2 H2 vs xs S2 st2 g2 ev2 a2 p2=>?_
  exact W6.ret0 p2 st2 (.cons (a1.mv (g2.mv st1) g2.pre) a2)
theorem Z6i (h:ME X Wx a ma) (h2:MA X Wx es ms) (hs:starEach (.Starred a p :: es) X.env=(true,eval a X.env) :: starEach es X.env:=by rfl):MA X Wx (.Starred a p :: es) (W8 ma ms):=PA.of (StX.pa_star h h2 hs) fun σ H Q ⟨Z,ρ,e,S,st,ev,p⟩=>by
  refine W3 st ev p fun ρ1 H1 v x S1 st1 g1 ev1 a1 p1=>?_
  cases q:items S1 x with
  | none=>rw [q] at p1; exact p1.elim
  | some ys =>
    rw [q] at p1
    obtain ⟨b,us,rfl,hq,ha⟩:=a1.items st1 q
    refine ⟨b,us,rfl,hq,?_⟩
    refine W3 st1 ev1 p1 fun ρ2 H2 vs xs S2 st2 g2 ev2 a2 p2=>?_
    exact W6.ret0 p2 st2 (Paired.append (ha.mv (g2.mv st1) g2.pre) a2)
def Z03 (xs:List Bv.X) (S:Sto):R Bv.X:=match ds? xs with
  | some ds=>if ds.length ≤ sizeLine then .ok (.d (.tup ds)) S else .bad
  | none => .bad
def Z02 (xs:List Bv.X) (S:Sto):R Bv.X:=match ds? xs with
  | some ds=>if ds.length ≤ sizeLine then .ok (.d (.lst ds)) S else .bad
  | none => .bad
def Z1b (xs:List Bv.X) (S:Sto):R Bv.X:=if xs.length ≤ sizeLine then .ok (.r S.length) (S++[.lst xs]) else .bad
def U2 (ms:MG (List Bv.X)):M:=fun e S=>(ms e S).bind Z03
def W9 (ms:MG (List Bv.X)):M:=fun e S=>(ms e S).bind Z02
def V7 (ms:MG (List Bv.X)):M:=fun e S=>(ms e S).bind Z1b
theorem Paired.length {α β:Type} {F:α→β→Prop}:∀ {l:List α} {r:List β},Paired F l r→l.length=r.length
  | _,_, .nil=>rfl
  | _,_, .cons _ t=>by simp [Paired.length t]
theorem Z49 {x1} (h:MA X Wx es ms):ME X Wx (.Tuple es x1 pos) (U2 ms):=PE.of (pe_tup h) fun σ H Q ⟨Z,ρ,e,S,st,ev,p⟩=>by
  refine W3 st ev p fun ρ1 H1 vs xs S1 st1 g1 ev1 a1 p1=>?_
  unfold Z03 at p1
  cases q:ds? xs with
  | none=>rw [q] at p1; exact p1.elim
  | some ds =>
    rw [q] at p1
    have p1:Y3w X.K Z ρ1 H1 Wx σ Q (if ds.length ≤ sizeLine then .ok (.d (.tup ds)) S1 else .bad):=p1
    by_cases hl:ds.length ≤ sizeLine
    · rw [if_pos hl] at p1
      have av:=AXs.ds a1 q
      exact ⟨by rw [← av.length]; exact hl,fun p hp=>W6.ret p1 st1 (Z0f hp) (.d (Z76 (fun _ h=>st1.thereW h) hp av))⟩
    · rw [if_neg hl] at p1; exact p1.elim
theorem Z04 (h:MA X Wx es ms):ME X Wx (.List es pos) (W9 ms):=PE.of (pe_lst h) fun σ H Q ⟨Z,ρ,e,S,st,ev,p⟩=>by
  refine W3 st ev p fun ρ1 H1 vs xs S1 st1 g1 ev1 a1 p1=>?_
  unfold Z02 at p1
  cases q:ds? xs with
  | none=>rw [q] at p1; exact p1.elim
  | some ds =>
    rw [q] at p1
    have p1:Y3w X.K Z ρ1 H1 Wx σ Q (if ds.length ≤ sizeLine then .ok (.d (.lst ds)) S1 else .bad):=p1
    by_cases hl:ds.length ≤ sizeLine
    · rw [if_pos hl] at p1
      have av:=AXs.ds a1 q
      exact ⟨by rw [← av.length]; exact hl,fun p hp=>W6.ret p1 st1 (Z0f hp) (.d (Z75 (fun _ h=>st1.thereW h) hp av))⟩
    · rw [if_neg hl] at p1; exact p1.elim
theorem Sta.pushL {K:PySem.W.Frag} {Z:Wd} {ρ:List Addr} {S:Sto} {H:Hp} {q:Addr} {xs:List Bv.X} {vs:List V} (s:Sta K Z ρ S H) (hq:H q=none) (a:AXs K (Wn Z ρ) ρ H xs vs) :
    Sta K Z (ρ++[q]) (S++[.lst xs]) (upd H q (.lst vs))∧Go ρ H (ρ++[q]) (upd H q (.lst vs)):=by
  have g:Go ρ H (ρ++[q]) (upd H q (.lst vs)):=⟨List.prefix_append _ _,fun b o h e=>⟨fun z=>(by
    rcases List.mem_append.mp z with z | z
    · exact h z
    · have:b=q:=by simpa using z
      rw [this,hq] at e; cases e),Z0f hq b o e⟩,fun b _ _ e=>Z0f hq b _ e⟩
  exact s.push hq (Z0f hq) ⟨vs,upd_same,a.mv (g.mv s) g.pre⟩
theorem Z70 (h:MA X Wx es ms):ME X Wx (.List es pos) (V7 ms):=PE.of (pe_lst h) fun σ H Q ⟨Z,ρ,e,S,st,ev,p⟩=>by
  refine W3 st ev p fun ρ1 H1 vs xs S1 st1 g1 ev1 a1 p1=>?_
  unfold Z1b at p1
  by_cases hl:xs.length ≤ sizeLine
  · rw [if_pos hl] at p1
    refine ⟨by rw [← Paired.length a1]; exact hl,fun q hq=>?_⟩
    obtain ⟨h1,h2⟩:=st1.pushL hq a1
    exact p1 _ _ _ h1 h2 (.r (by rw [st1.len]; simp))
  · rw [if_neg hl] at p1; exact p1.elim
def Z0v (Cs:List Str) (f:Str) (S:Sto):Bv.X→Option Bv.X
  | .d (.obj C fs)=>if Cs.contains C then (fs.lookup f).map .d else none
  | .d _=>none
  | .r n=>match S[n]? with
    | some (.ins C fs)=>if Cs.contains C then fs.lookup f else none
    | _=>none
def W2 (Cs:List Str) (f:Str) (m:M):M:=fun e S=>(m e S).bind fun x S1=>Z2o (Z0v Cs f S1 x) S1
def Z5x (K:PySem.W.Frag) (Cs:List Str) (f:Str):Prop:=∀ C ∈ Cs,Cls K (He.ga K C)∧NoAttr K (He.ga K C) f
theorem Y0q {K:PySem.W.Frag} {W:Wd} {ρ:List Addr} {H:Hp}:∀ {fs:List (Str × Bv.X)} {vs:List (Str × V)} {f:Str} {x:Bv.X},Paired (fun (p:Str × Bv.X) (q:Str × V)=>p.1=q.1∧AX K W ρ H p.2 q.2) fs vs→fs.lookup f=some x→∃ v,vs.lookup f=some v∧AX K W ρ H x v
  | _,_,_,_, .nil,e=>by cases e
  | (g,y) :: r,(g',v) :: r',f,x, .cons ⟨h1,h2⟩ hs,e=>by
    cases (show g=g' from h1)
    rw [List.lookup_cons] at e ⊢
    cases q:f == g with
    | true=>rw [q] at e; cases e; exact ⟨_,rfl,h2⟩
    | false=>rw [q] at e; exact Y0q hs e
theorem Z5o {α:Type} {c:Bool} {o:Option α} {a:α} (h:(if c then o else none)=some a):c=true∧o=some a:=by
  cases c with
  | true=>exact ⟨rfl,h⟩
  | false=>cases h
theorem Z3b {f:Str} (Cs:List Str) (T:Z5x X.K Cs f) (h:ME X Wx a ma) (hb:attributeBase a f X.env (eval a X.env)=eval a X.env:=by rfl):ME X Wx (.Attribute a f pos) (W2 Cs f ma):=PE.of (pe_fld h hb) fun σ H Q ⟨Z,ρ,e,S,st,ev,p⟩=>by
  refine W3 st ev p fun ρ1 H1 v x S1 st1 g1 ev1 a1 p1=>?_
  obtain ⟨y,hy,p2⟩:=p1.opt
  clear p1
  cases a1 with
  | d h1 =>
    cases h1 with
    | obj w r hs =>
      rename_i C q dx vs fs
      obtain ⟨hc,hl⟩:=Z5o (show (if Cs.contains C then (fs.lookup f).map Bv.X.d else none)=some y from hy)
      obtain ⟨d,z,rfl⟩:=Option.map_eq_some_iff.mp hl
      obtain ⟨v,h2,h3⟩:=hs.look z
      obtain ⟨t1,t2⟩:=T C (by simpa using hc)
      exact ⟨_,_,_,_,v,rfl,r,t1,t2,h2,W6.ret0 p2 st1 (.d h3)⟩
    | _=>cases hy
  | r h1 =>
    rename_i n q
    cases z:S1[n]? with
    | none=>simp [Z0v,z] at hy
    | some o =>
      cases o with
      | ins C fs =>
        obtain ⟨hc,hl⟩:=Z5o (show (if Cs.contains C then fs.lookup f else none)=some y by simpa [Z0v,z] using hy)
        obtain ⟨dx,vs,h2,h3⟩:=st1.ob n _ q z h1
        obtain ⟨v,h4,h5⟩:=Y0q h3 hl
        obtain ⟨t1,t2⟩:=T C (by simpa using hc)
        exact ⟨_,_,_,_,v,rfl,h2,t1,t2,h4,W6.ret0 p2 st1 h5⟩
      | _=>simp [Z0v,z] at hy
def ixD:Bv.X→Int→Option Bv.X
  | .d (.str z),i=>if decide (z.length ≤ sizeLine) then (atI z.cps.toList i).map fun c => .d (.str ⟨#[c]⟩) else none
  | .d (.scr ns),i=>(atI ns i).map fun z => .d (.int z)
  | _,_=>none
def ixO (S:Sto) (x:Bv.X) (i:Int):Option Bv.X:=match items S x with
  | some xs=>atI xs i
  | none=>ixD x i
def Z23:Bv.X→Option Int
  | .d (.int i)=>some i
  | _=>none
def Q5 (ma mb:M):M:=fun e S=>(ma e S).bind fun x S1=>(mb e S1).bind fun y S2=>Z2o ((Z23 y).bind (ixO S2 x)) S2
theorem AX.int {K:PySem.W.Frag} {W:Wd} {ρ:List Addr} {H:Hp} {x:Bv.X} {v:V} {i:Int} (a:AX K W ρ H x v) (h:Z23 x=some i):v = .int i:=by
  cases a with
  | r _=>cases h
  | d h1 =>
    cases h1 with
    | int j=>cases h; rfl
    | _=>cases h
theorem Y7b {α β:Type} {F:α→β→Prop} {l:List α} {r:List β} (p:Paired F l r) {i:Int} {a:α} (e:atI l i=some a):∃ b,atI r i=some b∧F a b:=by
  unfold atI at *
  rw [Paired.length p] at e
  cases q:ixN r.length i with
  | none=>rw [q] at e; cases e
  | some j =>
    rw [q] at e
    have e:l[j]?=some a:=e
    have go:∀ {l:List α} {r:List β} {j:Nat},Paired F l r→l[j]?=some a→∃ b,r[j]?=some b∧F a b:=fun {l r j} p=>by
      induction p generalizing j with
      | nil=>intro z; simp at z
      | cons x _ ih =>
        intro z
        cases j with
        | zero=>simp at z; subst z; exact ⟨_,rfl,x⟩
        | succ n=>simp at z; obtain ⟨b,h1,h2⟩:=ih z; exact ⟨b,by simpa using h1,h2⟩
    obtain ⟨b,h1,h2⟩:=go p e
    exact ⟨b,h1,h2⟩
theorem Z9v {z:Str} {c:Nat} (h:PyData.strOk z=true) (m:c ∈ z.cps.toList):c < 0x110000:=by
  have h2:=Array.all_eq_true_iff_forall_mem.mp (show z.cps.all (· < 0x110000)=true from h) c (by simpa using m)
  simpa using h2
theorem Z83 {z:Str} (h:∀ c ∈ z.cps.toList,c < 0x110000):PyData.strOk z=true:=by
  show z.cps.all (· < 0x110000)=true
  exact Array.all_eq_true_iff_forall_mem.mpr fun c m=>by simpa using h c (by simpa using m)
theorem Y9b {α:Type} {l:List α} {i:Int} {a:α} (e:atI l i=some a):a ∈ l:=by
  unfold atI at e
  cases q:ixN l.length i with
  | none=>rw [q] at e; cases e
  | some j=>rw [q] at e; exact List.mem_of_getElem? e
theorem Z0x (ha:ME X Wx a ma) (hb:ME X Wx b mb) (hs:PlainIx b:=by exact fun _ _=>rfl):ME X Wx (.Subscript a b pos) (Q5 ma mb):=PE.of (pe_ix ix_seq ha hb hs) fun σ H Q ⟨Z,ρ,e,S,st,ev,p⟩=>by
  refine W3 st ev p fun ρ1 H1 v x S1 st1 g1 ev1 a1 p1=>?_
  refine W3 st1 ev1 p1 fun ρ2 H2 u y S2 st2 g2 ev2 a2 p2=>?_
  have a1':=a1.mv (g2.mv st1) g2.pre
  clear a1
  obtain ⟨w,hw0,p2'⟩:=p2.opt
  clear p2 p1 p
  obtain ⟨i,hi,hw⟩:=Option.bind_eq_some_iff.mp hw0
  clear hw0
  have eu:=a2.int hi
  subst eu
  cases q:items S2 x with
  | some xs =>
    have q2:atI xs i=some w:=by simpa [ixO,q] using hw
    obtain ⟨b,us,rfl,hq,ha⟩:=a1'.items st2 q
    obtain ⟨w',h1,h2⟩:=Y7b ha q2
    rcases hq with hq | hq
    · exact .inr (.inl ⟨_,us,i,w',rfl,rfl,hq,h1,W6.ret0 p2' st2 h2⟩)
    · exact .inl ⟨_,us,i,w',rfl,rfl,hq,h1,W6.ret0 p2' st2 h2⟩
  | none =>
    have hw2:ixD x i=some w:=by simpa [ixO,q] using hw
    clear hw
    cases a1' with
    | r h=>cases hw2
    | d h =>
      cases h with
      | str hz =>
        rename_i z
        obtain ⟨hl,hc⟩:=Z5o hw2
        obtain ⟨c,q2,rfl⟩:=Option.map_eq_some_iff.mp hc
        refine .inr (.inr ⟨z,i,c,rfl,rfl,of_decide_eq_true hl,q2,W6.ret0 p2' st2 (.d (.str ?_))⟩)
        have hc:=Z9v hz (Y9b q2)
        exact Z83 fun c' m=>by
          have:c'=c:=by simpa using m
          rw [this]; exact hc
      | scr r =>
        rename_i q' ns
        obtain ⟨z,q2,rfl⟩:=Option.map_eq_some_iff.mp hw2
        refine .inl ⟨_,ns.map V.int,i, .int z,rfl,rfl,r.sl,?_,W6.ret0 p2' st2 (.d (.int z))⟩
        unfold atI at *
        rw [List.length_map]
        cases q3:ixN ns.length i with
        | none=>rw [q3] at q2; cases q2
        | some j =>
          rw [q3] at q2
          have q2:ns[j]?=some z:=q2
          show (ns.map V.int)[j]?=some (.int z)
          rw [List.getElem?_map,q2]; rfl
      | _=>cases hw2
end
end Bv
namespace Bv
open PySem PySem.Spec L2
open PyProof.Rows hiding St
variable [HasW]
inductive Out where
  | nx (e:Ev) | rt (x:X) | bk (e:Ev) | ct (e:Ev) | rp (d:D) | rq (xs:List X)
inductive RO where
  | go (o:Out) (S:Sto) | err (C:Str) (fs:List (Str × D)) (e:Ev) (S:Sto) | bad
abbrev MS:=Ev→Sto→RO
def X0o (K:PySem.W.Frag) (W:Wd) (H H':Hp) (fs:List (Str × D)) (d:Option Addr):Prop :=
  (d=none∧fs=[]) ∨ ∃ (dd:Addr) (vs:List (Str × V)),d=some dd∧H dd=none∧¬ W dd∧H' dd=some (.xd vs)∧AVf K W H' fs vs
def Z22 (K:PySem.W.Frag) (Z:Wd) (ρ:List Addr) (H:Hp) (Wx:WX) (D:Ends):RO→Prop
  | .go (.nx e) S'=>∀ (ρ':List Addr) (H':Hp) (σ':St),Sta K Z ρ' S' H'→Go ρ H ρ' H'→EvOk K (Wn Z ρ') ρ' H' e σ'→D.nx σ' H'
  | .go (.bk e) S'=>∀ (ρ':List Addr) (H':Hp) (σ':St),Sta K Z ρ' S' H'→Go ρ H ρ' H'→EvOk K (Wn Z ρ') ρ' H' e σ'→D.bk σ' H'
  | .go (.ct e) S'=>∀ (ρ':List Addr) (H':Hp) (σ':St),Sta K Z ρ' S' H'→Go ρ H ρ' H'→EvOk K (Wn Z ρ') ρ' H' e σ'→D.ct σ' H'
  | .go (.rt x) S'=>∀ (ρ':List Addr) (H':Hp) (v:V),Sta K Z ρ' S' H'→Go ρ H ρ' H'→AX K (Wn Z ρ') ρ' H' x v→D.rt v H'
  | .go (.rp d) _=>∀ (H':Hp) (v:V),(∀ a o,a ∉ ρ→H a=some o→H' a=some o)→AV K Z H' d v→D.rt v H'
  | .go (.rq xs) S'=>∀ (ρ':List Addr) (H':Hp) (vs:List V) (t:Addr),Sta K Z ρ' S' H'→Go ρ H ρ' H'→AXs K (Wn Z ρ') ρ' H' xs vs→H' t=none→D.rt (.ref t) (upd H' t (.tup vs))
  | .err C fs e S'=>∀ (ρ':List Addr) (H':Hp) (σ':St) (d:Option Addr),Sta K Z ρ' S' H'→Go ρ H ρ' H'→EvOk K (Wn Z ρ') ρ' H' e σ'→X0o K (Wn Z ρ') H H' fs d→Wx (.ref (He.ga K C)) d σ' H'
  | .bad=>False
def RS (K:PySem.W.Frag) (Wx:WX) (m:MS):TS:=fun D σ H=>∃ (Z:Wd) (ρ:List Addr) (e:Ev) (S:Sto),Sta K Z ρ S H∧EvOk K (Wn Z ρ) ρ H e σ∧Z22 K Z ρ H Wx D (m e S)
abbrev MP (X:Cx) (Wx:WX) (st:Stmt) (m:MS):Prop:=PS X st (RS X.K Wx m)
abbrev MPs (X:Cx) (Wx:WX) (sts:List Stmt) (m:MS):Prop:=PSs X sts (RS X.K Wx m)
def R.so {α:Type} (r:R α) (e:Ev) (k:α→Sto→RO):RO:=match r with
  | .ok a S=>k a S
  | .err C fs S => .err C fs e S
  | .bad => .bad
section
variable {K:PySem.W.Frag} {Z:Wd} {ρ ρ1:List Addr} {S S1:Sto} {H H1:Hp} {Wx:WX} {σ:St} {D:Ends}
theorem X0o.back {W:Wd} {H':Hp} {fs:List (Str × Bv.D)} {d:Option Addr} (s1:∀ a o,H a=some o→∃ u,H1 a=some u) (h:X0o K W H1 H' fs d):X0o K W H H' fs d:=by
  rcases h with q | ⟨dd,vs,h1,h2,h3⟩
  · exact .inl q
  · refine .inr ⟨dd,vs,h1,?_,h3⟩
    cases e:H dd with
    | none=>rfl
    | some o =>
      obtain ⟨u,z⟩:=s1 dd o e
      rw [h2] at z; cases z
theorem Z22.shift {r:RO} (g:Go ρ H ρ1 H1) (s1:Sta K Z ρ1 S1 H1) (h:Z22 K Z ρ H Wx D r):Z22 K Z ρ1 H1 Wx D r:=by
  cases r with
  | go o S' =>
    cases o with
    | nx e=>exact fun ρ' H' σ' st go ev=>h ρ' H' σ' st (g.trans go) ev
    | bk e=>exact fun ρ' H' σ' st go ev=>h ρ' H' σ' st (g.trans go) ev
    | ct e=>exact fun ρ' H' σ' st go ev=>h ρ' H' σ' st (g.trans go) ev
    | rt x=>exact fun ρ' H' v st go a=>h ρ' H' v st (g.trans go) a
    | rp d=>exact fun H' v k a=>h H' v (fun b o hb q=>let ⟨h1,q1⟩:=g.keep b o hb q; k b o h1 q1) a
    | rq xs=>exact fun ρ' H' vs t st go a ht=>h ρ' H' vs t st (g.trans go) a ht
  | err C fs e S'=>exact fun ρ' H' σ' d st go ev q=>h ρ' H' σ' d st (g.trans go) ev (q.back (Y1p g s1))
  | bad=>exact h
theorem Z2n {α β:Type} {rel:Wd→List Addr→Hp→α→β→Prop} {e:Ev} {m:MG α} {k:α→Sto→RO} {R':β→Hp→Prop} (st:Sta K Z ρ S H) (ev:EvOk K (Wn Z ρ) ρ H e σ) (h:Z22 K Z ρ H Wx D ((m e S).so e k))
    (next:∀ ρ1 H1 v x S1,Sta K Z ρ1 S1 H1→Go ρ H ρ1 H1→EvOk K (Wn Z ρ1) ρ1 H1 e σ→rel (Wn Z ρ1) ρ1 H1 x v→Z22 K Z ρ1 H1 Wx D (k x S1)→R' v H1):RG rel K Wx m σ H R':=by
  refine ⟨Z,ρ,e,S,st,ev,?_⟩
  cases q:m e S with
  | ok x S1 =>
    rw [q] at h
    exact fun ρ1 H1 v s1 g a=>next ρ1 H1 v x S1 s1 g (ev.mv (g.mv st) g.pre) a (Z22.shift g s1 h)
  | err C fs S1 =>
    rw [q] at h
    exact fun ρ' H' d s1 g z=>h ρ' H' σ d s1 g (ev.mv (g.mv st) g.pre) z
  | bad=>rw [q] at h; exact h
theorem Z22.next {e:Ev} (h:Z22 K Z ρ H Wx D (.go (.nx e) S)) (st:Sta K Z ρ S H) (ev:EvOk K (Wn Z ρ) ρ H e σ):D.nx σ H:=h ρ H σ st (Go.refl _ _) ev
end
def W5:MS:=fun e S => .go (.nx e) S
def RO.then (r:RO) (m:MS):RO:=match r with
  | .go (.nx e) S=>m e S
  | r=>r
def Y4 (m1 m2:MS):MS:=fun e S=>(m1 e S).then m2
def V2 (m:M):MS:=fun e S=>(m e S).so e fun _ S1 => .go (.nx e) S1
def W0 (i:Nat) (m:M):MS:=fun e S=>(m e S).so e fun x S1 => .go (.nx (e.set i (some x))) S1
def Z0t (m:M):MS:=fun e S=>(m e S).so e fun x S1 => .go (.rt x) S1
def X8 (m:M):MS:=fun e S=>(m e S).so e fun x S1=>match x.get S1 with
  | some d => .go (.rp d) S1
  | none => .bad
def Z0b:MS:=fun _ S => .go (.rt (.d .non)) S
def V4:MS:=fun _ S => .go (.rp .non) S
def gets (S:Sto):List X→Option (List D)
  | []=>some []
  | x :: r=>match x.get S,gets S r with
    | some d,some l=>some (d :: l)
    | _,_=>none
def U6 (ms:MG (List X)):MS:=fun e S=>(ms e S).so e fun xs S1=>match gets S1 xs with
  | some ds=>if ds.length ≤ sizeLine then .go (.rp (.tup ds)) S1 else .bad
  | none => .bad
def Z0l (mt:MG Bool) (m1 m2:MS):MS:=fun e S=>(mt e S).so e fun b S1=>if b then m1 e S1 else m2 e S1
section
variable {X:Cx} {Wx:WX} {pos p:Pos} {a b c:Expr} {st:Stmt} {es:List Expr} {rest sts sts2:List Stmt} {ma mb mc m:M} {ms:MG (List Bv.X)} {mt:MG Bool} {m1 m2:MS}
theorem PS.of {X:Cx} {st:Stmt} {t t':TS} (h:PS X st t) (w:∀ D σ H,t' D σ H→t D σ H):PS X st t':=⟨fun pins s σ H D I q=>h.run pins s σ H D I (w D σ H q)⟩
theorem PSs.of {X:Cx} {sts:List Stmt} {t t':TS} (h:PSs X sts t) (w:∀ D σ H,t' D σ H→t D σ H):PSs X sts t':=⟨fun pins s σ H D I q=>h.run pins s σ H D I (w D σ H q)⟩
theorem U5:MPs X Wx [] W5:=PSs.of pss_nil fun D σ H ⟨Z,ρ,e,S,st,ev,p⟩=>p.next st ev
theorem Y2 (h1:MP X Wx st m1) (h2:MPs X Wx rest m2):MPs X Wx (st :: rest) (Y4 m1 m2):=PSs.of (pss_cons h1 h2) fun D σ H ⟨Z,ρ,e,S,st,ev,p⟩=>by
  refine ⟨Z,ρ,e,S,st,ev,?_⟩
  have p:Z22 X.K Z ρ H Wx D ((m1 e S).then m2):=p
  cases q:m1 e S with
  | go o S1 =>
    rw [q] at p
    cases o with
    | nx e1=>exact fun ρ' H' σ' st' go ev'=>⟨Z,ρ',e1,S1,st',ev',Z22.shift go st' p⟩
    | _=>exact p
  | err C fs e1 S1=>rw [q] at p; exact p
  | bad=>rw [q] at p; exact p
theorem X0 (h1:MP X Wx st m1):MPs X Wx [st] m1:=pss_one h1
theorem Z71 (h:ME X Wx a ma) (hs:swapsWith a none pos.line X.env=pure false:=by rfl):MP X Wx (.Expr a pos) (V2 ma):=PS.of (ps_expr h hs) fun D σ H ⟨Z,ρ,e,S,st,ev,p⟩ =>
  Z2n st ev p fun ρ1 H1 v x S1 st1 g1 ev1 a1 p1=>p1.next st1 ev1
theorem Q7 {i:Nat} {x:Str} {pos':Pos} (hN:X.N.Nodup) (hi:X.N[i]?=some x) (hx:Loc X.env.scope x) (he:ME X Wx a ma) (hs:swapsWith a (some (.Name x pos')) pos.line X.env=pure false:=by rfl) (hf:X.fn x=true ∨ X.env.scope.names.lookup x=some .local:=by first | exact .inl rfl | exact .inr rfl | assumption) :
    MP X Wx (.Assign [.Name x pos'] a pos) (W0 i ma):=PS.of (ps_set hN hi hx he hs hf) fun D σ H ⟨Z,ρ,e,S,st,ev,p⟩ =>
  Z2n st ev p fun ρ1 H1 v x S1 st1 g1 ev1 a1 p1=>p1.next st1 (ev1.set a1)
theorem Z8o (h:ME X Wx a ma):MP X Wx (.Return (some a) pos) (Z0t ma):=PS.of (ps_ret h) fun D σ H ⟨Z,ρ,e,S,st,ev,p⟩ =>
  Z2n st ev p fun ρ1 H1 v x S1 st1 g1 ev1 a1 p1=>p1 ρ1 H1 v st1 (Go.refl _ _) a1
theorem AW.leave {K:PySem.W.Frag} {Z:Wd} {ρ:List Addr} {S:Sto} {H:Hp} {d:Bv.D} {v:V} (st:Sta K Z ρ S H) (h:AW K (Wn Z ρ) H d v) (hz:∀ q,v = .ref q→¬ Z q):AV K Z H d v:=by
  have m:Mv (Wn Z ρ) H Z H:=fun a o h q=>⟨fun z=>h (.inl z),q⟩
  cases h with
  | av h=>exact h.mv m
  | lst h hs=>exact .lst (hz _ rfl) h (hs.mv m)
  | fdc h hs=>exact .dic (hz _ rfl) h (hs.mv m)
theorem AX.leave {K:PySem.W.Frag} {Z:Wd} {ρ:List Addr} {S:Sto} {H:Hp} {x:Bv.X} {d:Bv.D} {v:V} (st:Sta K Z ρ S H) (h:AX K (Wn Z ρ) ρ H x v) (e:x.get S=some d):AV K Z H d v:=by
  cases h with
  | d h =>
    cases e
    exact h.mv fun a o h q=>⟨fun z=>h (.inl z),q⟩
  | r h =>
    refine AW.leave st ((AX.r h).get st e) fun q hq=>?_
    cases hq
    exact fun z=>(st.z _ z).1 (List.mem_of_getElem? h)
theorem Q0 (h:ME X Wx a ma):MP X Wx (.Return (some a) pos) (X8 ma):=PS.of (ps_ret h) fun D σ H ⟨Z,ρ,e,S,st,ev,p⟩ =>
  Z2n st ev p fun ρ1 H1 v x S1 st1 g1 ev1 a1 p1=>by
    cases q:x.get S1 with
    | none=>rw [q] at p1; exact p1.elim
    | some d =>
      rw [q] at p1
      exact p1 H1 v (fun _ _ _ z=>z) (a1.leave st1 q)
theorem Y0k {K:PySem.W.Frag} {Z:Wd} {ρ:List Addr} {S:Sto} {H:Hp} (st:Sta K Z ρ S H):∀ {xs:List Bv.X} {vs:List V} {ds:List Bv.D},AXs K (Wn Z ρ) ρ H xs vs→gets S xs=some ds→AVs K Z H ds vs
  | _,_,_, .nil,e=>by cases e; exact .nil
  | x :: r,_,ds, .cons h hs,e=>by
    unfold gets at e
    cases q:x.get S with
    | none=>rw [q] at e; cases e
    | some d =>
      cases q2:gets S r with
      | none=>rw [q,q2] at e; cases e
      | some l =>
        rw [q,q2] at e
        cases e
        exact .cons (h.leave st q) (Y0k st hs q2)
theorem Y9z {x1} {p2:Pos} (h:MA X Wx es ms):MP X Wx (.Return (some (.Tuple es x1 p2)) pos) (U6 ms):=PS.of (ps_ret (pe_tup h)) fun D σ H ⟨Z,ρ,e,S,st,ev,p⟩ =>
  Z2n (rel:=AXs X.K) st ev p fun ρ1 H1 vs xs S1 st1 g1 ev1 a1 p1=>by
    cases q:gets S1 xs with
    | none=>rw [q] at p1; exact p1.elim
    | some ds =>
      rw [q] at p1
      have p1:Z22 X.K Z ρ1 H1 Wx D (if ds.length ≤ sizeLine then .go (.rp (.tup ds)) S1 else .bad):=p1
      by_cases hl:ds.length ≤ sizeLine
      · rw [if_pos hl] at p1
        have av:=Y0k st1 a1 q
        refine ⟨by rw [← av.length]; exact hl,fun r hr=>p1 _ _ (fun b o _ z=>Z0f hr b o z) (Z76 (fun z hz=>(st1.z z hz).2) hr av)⟩
      · rw [if_neg hl] at p1; exact p1.elim
theorem Z1u (hc:MT X Wx c mt) (h1:MPs X Wx sts m1) (h2:MPs X Wx sts2 m2):MP X Wx (.If c sts sts2 pos) (Z0l mt m1 m2):=PS.of (ps_if hc h1 h2) fun D σ H ⟨Z,ρ,e,S,st,ev,p⟩ =>
  Z2n (rel:=relB) st ev p fun ρ1 H1 v x S1 st1 g1 ev1 a1 p1=>by
    cases (show x=v from a1)
    cases v with
    | true=>exact ⟨Z,ρ1,e,S1,st1,ev1,p1⟩
    | false=>exact ⟨Z,ρ1,e,S1,st1,ev1,p1⟩
inductive Tg where
  | nm (i:Nat) | tp (ts:List Tg)
mutual
def Tg.asg (S:Sto):Tg→Bv.X→Ev→Option Ev
  | .nm i,x,e=>some (e.set i (some x))
  | .tp ts, .d (.tup ds),e=>Tg.asgs S ts (ds.map .d) e
  | .tp _,_,_=>none
def Tg.asgs (S:Sto):List Tg→List Bv.X→Ev→Option Ev
  | [],[],e=>some e
  | t :: ts,x :: xs,e=>match t.asg S x e with
    | some e1=>Tg.asgs S ts xs e1
    | none=>none
  | [],_ :: _,_=>none
  | _ :: _,[],_=>none
end
mutual
def Tg.slots:Tg→List Nat
  | .nm i=>[i]
  | .tp ts=>Tg.slotss ts
def Tg.slotss:List Tg→List Nat
  | []=>[]
  | t :: ts=>t.slots++Tg.slotss ts
end
def TGt (K:PySem.W.Frag) (t:Tg):TG:=fun v σ H Q=>∃ (Z:Wd) (ρ:List Addr) (e:Ev) (S:Sto) (x:Bv.X) (e':Ev),Sta K Z ρ S H∧EvOk K (Wn Z ρ) ρ H e σ∧AX K (Wn Z ρ) ρ H x v∧t.asg S x e=some e'∧∀ σ',EvOk K (Wn Z ρ) ρ H e' σ'→(∀ vs:List Nat,(∀ i ∈ t.slots,i ∈ vs)→wipe σ' vs=wipe σ vs)→Q σ' H
def X0u (K:PySem.W.Frag) (ts:List Tg):TGs:=fun vs σ H Q=>∃ (Z:Wd) (ρ:List Addr) (e:Ev) (S:Sto) (xs:List Bv.X) (e':Ev),Sta K Z ρ S H∧EvOk K (Wn Z ρ) ρ H e σ∧AXs K (Wn Z ρ) ρ H xs vs∧Tg.asgs S ts xs e=some e'∧∀ σ',EvOk K (Wn Z ρ) ρ H e' σ'→(∀ vs:List Nat,(∀ i ∈ Tg.slotss ts,i ∈ vs)→wipe σ' vs=wipe σ vs)→Q σ' H
theorem Y4p {σ:St} {i:Nat} {o:Option V}:∀ {vs:List Nat},i ∈ vs→wipe (σ.set i o) vs=wipe σ vs
  | [],h=>by cases h
  | j :: vs,h=>by
    unfold wipe
    by_cases hi:i ∈ vs
    · rw [Y4p hi]
    · have e:i=j:=by
        rcases List.mem_cons.mp h with h | h
        · exact h
        · exact absurd h hi
      subst e
      have go:∀ {vs:List Nat},i ∉ vs→wipe (σ.set i o) vs=(wipe σ vs).set i o:=fun {vs}=>by
        induction vs with
        | nil=>intro _; rfl
        | cons k ks ih =>
          intro hk
          rw [List.mem_cons,not_or] at hk
          unfold wipe
          rw [ih hk.2,List.set_comm _ _ hk.1]
      rw [go hi,List.set_set]
theorem PG.of {X:Cx} {e:Expr} {t t':TG} (h:PG X e t) (w:∀ v σ H Q,t' v σ H Q→t v σ H Q):PG X e t':=⟨fun pins s σ H v u Q I r q=>h.run pins s σ H v u Q I r (w v σ H Q q)⟩
theorem PGs.of {X:Cx} {e:List Expr} {t t':TGs} (h:PGs X e t) (w:∀ v σ H Q,t' v σ H Q→t v σ H Q):PGs X e t':=⟨fun pins s σ H v u Q I r q=>h.run pins s σ H v u Q I r (w v σ H Q q)⟩
theorem U0 {i:Nat} {x:Str} (hN:X.N.Nodup) (hi:X.N[i]?=some x) (hx:Loc X.env.scope x) (hf:X.fn x=true ∨ X.env.scope.names.lookup x=some .local:=by first | exact .inl rfl | exact .inr rfl | assumption):PG X (.Name x pos) (TGt X.K (.nm i)) :=
  PG.of (pg_name hN hi hx hf) fun v σ H Q ⟨Z,ρ,e,S,x,e',st,ev,a,h,k⟩=>by
    have h:some (e.set i (some x))=some e':=by simpa [Tg.asg] using h
    cases h
    exact k _ (ev.set a) fun vs hv=>Y4p (hv i (by simp [Tg.slots]))
theorem Z9o:PGs X [] (X0u X.K []):=PGs.of pgs_nil fun v σ H Q ⟨Z,ρ,e,S,xs,e',st,ev,a,h,k⟩=>by
  cases a with
  | nil =>
    have h:some e=some e':=by simpa [Tg.asgs] using h
    cases h
    exact ⟨rfl,k σ ev fun _ _=>rfl⟩
  | cons _ _=>simp [Tg.asgs] at h
theorem Z24 {t:Tg} {ts:List Tg} (h1:PG X a (TGt X.K t)) (h2:PGs X es (X0u X.K ts)) (hs:(assignEach (a :: es) X.env).map (·.2)=assign a X.env :: (assignEach es X.env).map (·.2):=by rfl):PGs X (a :: es) (X0u X.K (t :: ts)) :=
  PGs.of (pgs_cons h1 h2 hs) fun v σ H Q ⟨Z,ρ,e,S,xs,e',st,ev,a,h,k⟩=>by
    cases a with
    | nil=>simp [Tg.asgs] at h
    | @cons x v0 xr vr ha hr =>
      cases q:t.asg S x e with
      | none=>simp [Tg.asgs,q] at h
      | some e1 =>
        have h:Tg.asgs S ts xr e1=some e':=by simpa [Tg.asgs,q] using h
        exact ⟨v0,vr,rfl,Z,ρ,e,S,x,e1,st,ev,ha,q,fun σ1 ev1 w1=>⟨Z,ρ,e1,S,xr,e',st,ev1,hr,h,fun σ2 ev2 w2=>k σ2 ev2 fun vs hv=>(w2 vs fun i hi=>hv i (by simp [Tg.slotss,hi])).trans (w1 vs fun i hi=>hv i (by simp [Tg.slotss,hi]))⟩⟩
theorem Y0w {S:Sto}:∀ {ts:List Tg} {xs:List Bv.X} {e e':Ev},Tg.asgs S ts xs e=some e'→xs.length=ts.length
  | [],[],_,_,_=>rfl
  | t :: ts,x :: xs,e,e',h=>by
    cases q:t.asg S x e with
    | none=>simp [Tg.asgs,q] at h
    | some e1 =>
      have h:Tg.asgs S ts xs e1=some e':=by simpa [Tg.asgs,q] using h
      simp [Y0w h]
  | [],_ :: _,_,_,h=>by simp [Tg.asgs] at h
  | _ :: _,[],_,_,h=>by simp [Tg.asgs] at h
theorem Y39 {k:Nat} {ts:List Tg} (hc:X.calm=true) (h:PGs X es (X0u X.K ts)) (hn:(assignEach es X.env).length=ts.length:=by rfl) (hst:(assignEach es X.env).findIdx? (·.1)=none:=by rfl):PG X (.Tuple es k pos) (TGt X.K (.tp ts)) :=
  PG.of (pg_tup hc h hn hst) fun v σ H Q ⟨Z,ρ,e,S,x,e',st,ev,a,h,kk⟩=>by
    cases a with
    | r _=>simp [Tg.asg] at h
    | d h1 =>
      cases h1 with
      | @tup q xs ds t hs =>
        have h:Tg.asgs S ts (ds.map .d) e=some e':=by simpa [Tg.asg] using h
        have hl:=Y0w h
        rw [List.length_map] at hl
        exact ⟨_,xs,rfl,t.sq,by rw [← hs.length]; exact hl,Z,ρ,e,S,_,e',st,ev,hs.axs,h,fun σ2 ev2 w2=>kk σ2 ev2 fun vs hv=>w2 vs fun i hi=>hv i (by simpa [Tg.slots] using hi)⟩
      | _=>simp [Tg.asg] at h
def Z1s (t:Tg) (m:M):MS:=fun e S=>(m e S).so e fun x S1=>match t.asg S1 x e with
  | some e1 => .go (.nx e1) S1
  | none => .bad
def Z3t (f:Str) (x:Bv.X):List (Str × Bv.X)→List (Str × Bv.X)
  | []=>[(f,x)]
  | (g,y) :: r=>if g=f then (g,x) :: r else (g,y) :: Z3t f x r
theorem Y4f {K:PySem.W.Frag} {W:Wd} {ρ:List Addr} {H:Hp} {f:Str} {x:Bv.X} {v:V} (a:AX K W ρ H x v):∀ {fs:List (Str × Bv.X)} {vs:List (Str × V)},Paired (fun (p:Str × Bv.X) (q:Str × V)=>p.1=q.1∧AX K W ρ H p.2 q.2) fs vs →
    Paired (fun (p:Str × Bv.X) (q:Str × V)=>p.1=q.1∧AX K W ρ H p.2 q.2) (Z3t f x fs) (putF f v vs)
  | _,_, .nil => .cons ⟨rfl,a⟩ .nil
  | (g,y) :: r,(g',u) :: r', .cons ⟨h1,h2⟩ hs=>by
    cases (show g=g' from h1)
    unfold Z3t putF
    by_cases h:g=f
    · rw [if_pos h,if_pos h]; exact .cons ⟨rfl,a⟩ hs
    · rw [if_neg h,if_neg h]; exact .cons ⟨rfl,h2⟩ (Y4f a hs)
def Z3g (Cs:List Str) (f:Str) (S:Sto) (o y:Bv.X):Option Sto:=match o with
  | .r n=>(match S[n]? with
    | some (.ins C fs)=>if Cs.contains C && decide (fs.length < 1000) then some (S.set n (.ins C (Z3t f y fs))) else none
    | _=>none)
  | .d _=>none
def Z0c (Cs:List Str) (f:Str) (mo m:M):MS:=fun e S=>(m e S).so e fun y S1=>(mo e S1).so e fun o S2=>match Z3g Cs f S2 o y with
  | some S3 => .go (.nx e) S3
  | none => .bad
theorem Z7h {o:Expr} {mo:M} {f:Str} {pos':Pos} (Cs:List Str) (T:Z5x X.K Cs f) (ho:ME X Wx o mo) (ha:ME X Wx a ma) (hs:swapsWith a (some (.Attribute o f pos')) pos.line X.env=pure false:=by rfl):MP X Wx (.Assign [.Attribute o f pos'] a pos) (Z0c Cs f mo ma) :=
  PS.of (ps_fld ho ha hs) fun D σ H ⟨Z,ρ,e,S,st,ev,p⟩ =>
  Z2n st ev p fun ρ1 H1 v y S1 st1 g1 ev1 a1 p1=>Z2n st1 ev1 p1 fun ρ2 H2 u o S2 st2 g2 ev2 a2 p2=>by
    have a1:=a1.mv (g2.mv st1) g2.pre
    cases q:Z3g Cs f S2 o y with
    | none=>rw [q] at p2; exact p2.elim
    | some S3 =>
      rw [q] at p2
      cases a2 with
      | d h=>cases q
      | r h =>
        rename_i n q0
        cases z:S2[n]? with
        | none=>simp [Z3g,z] at q
        | some oo =>
          cases oo with
          | ins C fs =>
            have q1:(if (Cs.contains C && decide (fs.length < 1000))=true then some (S2.set n (.ins C (Z3t f y fs))) else none)=some S3:=by simpa [Z3g,z] using q
            by_cases hc:(Cs.contains C && decide (fs.length < 1000))=true
            · rw [if_pos hc] at q1
              cases q1
              obtain ⟨hc1,hc2⟩:=Bool.and_eq_true_iff.mp hc
              obtain ⟨dx,vs,h2,h3⟩:=st2.ob n _ q0 z h
              obtain ⟨t1,t2⟩:=T C (by simpa using hc1)
              have hl:vs.length < 1000:=by rw [← Paired.length h3]; exact of_decide_eq_true hc2
              have hin:q0 ∈ ρ2:=List.mem_of_getElem? h
              have m:Mv (Wn Z ρ2) H2 (Wn Z ρ2) (upd H2 q0 (.ins (He.ga X.K C) dx (putF f v vs))):=fun b o hb hq=>⟨hb,by rw [upd_ne (fun z=>hb (.inr (by rw [z]; exact hin)))]; exact hq⟩
              obtain ⟨st3,g3⟩:=st2.put (o' := .ins C (Z3t f y fs)) (u := .ins (He.ga X.K C) dx (putF f v vs)) h (fun _ _ q=>by rw [h2] at q; cases q) ⟨dx,_,upd_same,Paired.mapP (Y4f a1 h3) fun _ _ w=>⟨w.1,w.2.mv m (List.prefix_refl _)⟩⟩
              exact ⟨_,_,_,vs,rfl,h2,t1,t2,hl,p2 _ _ σ st3 g3 (ev2.mv m (List.prefix_refl _))⟩
            · rw [if_neg hc] at q1; cases q1
          | _=>simp [Z3g,z] at q
end
end Bv
namespace Bv
open PySem PySem.Spec L2
open PyProof.Rows hiding St
variable [HasW]
mutual
def D.beq:D→D→Bool
  | .non, .non=>true
  | .bl a, .bl b=>a == b
  | .int a, .int b=>decide (a=b)
  | .str a, .str b=>decide (a=b)
  | .gl a, .gl b=>decide (a=b)
  | .scr a, .scr b=>decide (a=b)
  | .tup a, .tup b=>D.beqs a b
  | .lst a, .lst b=>D.beqs a b
  | .dic a, .dic b=>D.beqk a b
  | .obj c a, .obj d b=>decide (c=d) && D.beqf a b
  | _,_=>false
def D.beqs:List D→List D→Bool
  | [],[]=>true
  | a :: r,b :: s=>D.beq a b && D.beqs r s
  | _,_=>false
def D.beqk:List (D × D)→List (D × D)→Bool
  | [],[]=>true
  | (k,a) :: r,(l,b) :: s=>(D.beq k l && D.beq a b) && D.beqk r s
  | _,_=>false
def D.beqf:List (Str × D)→List (Str × D)→Bool
  | [],[]=>true
  | (k,a) :: r,(l,b) :: s=>(decide (k=l) && D.beq a b) && D.beqf r s
  | _,_=>false
end
mutual
theorem D.eq_of_beq:∀ (a b:D),D.beq a b=true→a=b
  | .non,b,h=>by cases b <;> first | rfl | simp [D.beq] at h
  | .bl x,b,h=>by cases b <;> first | (simp [D.beq] at h; rw [h]) | simp [D.beq] at h
  | .int x,b,h=>by cases b <;> first | (simp [D.beq] at h; rw [h]) | simp [D.beq] at h
  | .str x,b,h=>by cases b <;> first | (simp [D.beq] at h; rw [h]) | simp [D.beq] at h
  | .gl x,b,h=>by cases b <;> first | (simp [D.beq] at h; rw [h]) | simp [D.beq] at h
  | .scr x,b,h=>by cases b <;> first | (simp [D.beq] at h; rw [h]) | simp [D.beq] at h
  | .tup x,b,h=>by
    cases b with
    | tup y=>simp only [D.beq] at h; rw [D.eqs_of_beqs x y h]
    | _=>simp [D.beq] at h
  | .lst x,b,h=>by
    cases b with
    | lst y=>simp only [D.beq] at h; rw [D.eqs_of_beqs x y h]
    | _=>simp [D.beq] at h
  | .dic x,b,h=>by
    cases b with
    | dic y=>simp only [D.beq] at h; rw [D.eqk_of_beqk x y h]
    | _=>simp [D.beq] at h
  | .obj c x,b,h=>by
    cases b with
    | obj d y=>simp only [D.beq,Bool.and_eq_true,decide_eq_true_eq] at h; rw [h.1,D.eqf_of_beqf x y h.2]
    | _=>simp [D.beq] at h
theorem D.eqs_of_beqs:∀ (a b:List D),D.beqs a b=true→a=b
  | [],b,h=>by cases b <;> first | rfl | simp [D.beqs] at h
  | x :: r,b,h=>by
    cases b with
    | nil=>simp [D.beqs] at h
    | cons y s =>
      simp only [D.beqs,Bool.and_eq_true] at h
      rw [D.eq_of_beq x y h.1,D.eqs_of_beqs r s h.2]
theorem D.eqk_of_beqk:∀ (a b:List (D × D)),D.beqk a b=true→a=b
  | [],b,h=>by cases b <;> first | rfl | simp [D.beqk] at h
  | (k,u) :: r,b,h=>by
    cases b with
    | nil=>simp [D.beqk] at h
    | cons y s =>
      obtain ⟨l,v⟩:=y
      simp only [D.beqk,Bool.and_eq_true] at h
      rw [D.eq_of_beq k l h.1.1,D.eq_of_beq u v h.1.2,D.eqk_of_beqk r s h.2]
theorem D.eqf_of_beqf:∀ (a b:List (Str × D)),D.beqf a b=true→a=b
  | [],b,h=>by cases b <;> first | rfl | simp [D.beqf] at h
  | (k,u) :: r,b,h=>by
    cases b with
    | nil=>simp [D.beqf] at h
    | cons y s =>
      obtain ⟨l,v⟩:=y
      simp only [D.beqf,Bool.and_eq_true,decide_eq_true_eq] at h
      rw [h.1.1,D.eq_of_beq u v h.1.2,D.eqf_of_beqf r s h.2]
end
mutual
theorem D.beq_self:∀ a:D,D.beq a a=true
  | .non=>by simp [D.beq]
  | .bl _=>by simp [D.beq]
  | .int _=>by simp [D.beq]
  | .str _=>by simp [D.beq]
  | .gl _=>by simp [D.beq]
  | .scr _=>by simp [D.beq]
  | .tup a=>by simp [D.beq,D.beqs_self a]
  | .lst a=>by simp [D.beq,D.beqs_self a]
  | .dic a=>by simp [D.beq,D.beqk_self a]
  | .obj c a=>by simp [D.beq,D.beqf_self a]
theorem D.beqs_self:∀ a:List D,D.beqs a a=true
  | []=>by simp [D.beqs]
  | a :: r=>by simp [D.beqs,D.beq_self a,D.beqs_self r]
theorem D.beqk_self:∀ a:List (D × D),D.beqk a a=true
  | []=>by simp [D.beqk]
  | (k,a) :: r=>by simp [D.beqk,D.beq_self k,D.beq_self a,D.beqk_self r]
theorem D.beqf_self:∀ a:List (Str × D),D.beqf a a=true
  | []=>by simp [D.beqf]
  | (k,a) :: r=>by simp [D.beqf,D.beq_self a,D.beqf_self r]
end
instance:DecidableEq D:=fun a b=>if h:D.beq a b=true then .isTrue (D.eq_of_beq a b h) else .isFalse fun e=>h (e ▸ D.beq_self a)
instance:DecidableEq X
  | .d a, .d b=>if h:a=b then .isTrue (h ▸ rfl) else .isFalse fun e=>h (by cases e; rfl)
  | .r a, .r b=>if h:a=b then .isTrue (h ▸ rfl) else .isFalse fun e=>h (by cases e; rfl)
  | .d _, .r _ => .isFalse fun e=>by cases e
  | .r _, .d _ => .isFalse fun e=>by cases e
inductive Lk where
  | free | lst (n:Nat) (xs:List X)
def Lk.ok:Lk→Sto→Bool
  | .free,_=>true
  | .lst n xs,S=>match S[n]? with
    | some (.lst zs)=>decide (zs=xs)
    | _=>false
def Srv (K:PySem.W.Frag) (W:Wd) (ρ:List Addr) (H:Hp) (p:List X × Lk) (J:It):Prop:=∃ (G:Hp→Prop) (Y:Nat→Hp→V→Hp→Prop),Walk J p.1.length G Y ∧
  ∀ (Z2:Wd) (ρ2:List Addr) (S2:Sto) (H2:Hp),Sta K Z2 ρ2 S2 H2→Mv W H (Wn Z2 ρ2) H2→ρ <+: ρ2→(∀ a ob u,H a=some (.frz ob u)→H2 a=some (.frz ob u))→p.2.ok S2=true→G H2 ∧
    ∀ i x H3,Y i H2 x H3→Same H2 H3∧∃ y,p.1[i]?=some y∧AX K (Wn Z2 ρ2) ρ2 H3 y x
abbrev MIt:=MG (List X × Lk)
abbrev MI (X:Cx) (Wx:WX) (tg iter:Expr) (m:MIt):Prop:=PI X tg iter (RG (Srv X.K) X.K Wx m)
theorem PI.of {X:Cx} {tg e:Expr} {t t':TI} (h:PI X tg e t) (w:∀ σ H R,t' σ H R→t σ H R):PI X tg e t':=⟨fun pins s σ H R I q=>h.run pins s σ H R I (w σ H R q)⟩
def RO.ext (r:RO) (e:Ev):RO:=r
def Z7x (t:Tg) (l:Lk) (body:MS):List X→Ev→Sto→RO
  | [],e,S=>if l.ok S then .go (.nx e) S else .bad
  | x :: xs,e,S=>if l.ok S then (match t.asg S x e with
    | some e1=>(match body e1 S with
      | .go (.nx e2) S2=>Z7x t l body xs e2 S2
      | .go (.ct e2) S2=>Z7x t l body xs e2 S2
      | .go (.bk e2) S2 => .go (.nx e2) S2
      | r=>r)
    | none => .bad) else .bad
def Z4p (t:Tg) (mi:MIt) (body:MS):MS:=fun e S=>(mi e S).so e fun p S1=>Z7x t p.2 body p.1 e S1
section
variable {X:Cx} {Wx:WX} {pos:Pos} {tg iter:Expr} {body:List Stmt} {mi:MIt} {mb:MS} {t:Tg}
theorem drop_get {α:Type} {l:List α} {i:Nat} {a:α} (h:l[i]?=some a):l.drop i=a :: l.drop (i + 1):=by
  obtain ⟨h1,h2⟩:=List.getElem?_eq_some_iff.mp h
  rw [← h2]
  exact List.drop_eq_getElem_cons h1
theorem Z7i (hp:PassesOwn (model X.prog X.w) X.A X.env X.xe) (hc:X.calm=true) (hi:MI X Wx tg iter mi) (hg:PG X tg (TGt X.K t)) (hb:MPs X Wx body mb)
    (hs:∀ x,foldedSetIterable iter X.env x=pure x:=by intro _; rfl):MP X Wx (.For tg iter body [] pos) (Z4p t mi mb):=PS.of (ps_for hp hc hi hg hb hs) fun D σ H ⟨Z,ρ,e,S,st,ev,p⟩ =>
  Z2n (rel:=Srv X.K) st ev p fun ρ1 H1 J p0 S1 st1 g1 ev1 srv p1=>by
    obtain ⟨ys,l⟩:=p0
    obtain ⟨G,Y,w,sv⟩:=srv
    have p1:Z22 X.K Z ρ1 H1 Wx D (Z7x t l mb ys e S1):=p1
    have sv:∀ (Z2:Wd) (ρ2:List Addr) (S2:Sto) (H2:Hp),Sta X.K Z2 ρ2 S2 H2→Mv (Wn Z ρ1) H1 (Wn Z2 ρ2) H2→ρ1 <+: ρ2→(∀ a ob u,H1 a=some (.frz ob u)→H2 a=some (.frz ob u))→l.ok S2=true→G H2 ∧
      ∀ i x H3,Y i H2 x H3→Same H2 H3∧∃ y,ys[i]?=some y∧AX X.K (Wn Z2 ρ2) ρ2 H3 y x:=sv
    have w:Walk J ys.length G Y:=w
    let Pv:Nat→L2.St→Hp→Prop:=fun i σ H=>∃ (ρ:List Addr) (e:Ev) (S:Sto),Sta X.K Z ρ S H∧Go ρ1 H1 ρ H∧EvOk X.K (Wn Z ρ) ρ H e σ∧Z22 X.K Z ρ H Wx D (Z7x t l mb (ys.drop i) e S)
    have okOf:∀ {xs:List Bv.X} {e:Ev} {S:Sto} {ρ:List Addr} {H:Hp},Z22 X.K Z ρ H Wx D (Z7x t l mb xs e S)→l.ok S=true:=fun {xs e S ρ H} q=>by
      cases z:l.ok S with
      | true=>rfl
      | false=>cases xs <;> (simp only [Z7x,z] at q; exact q.elim)
    refine for_it w Pv ⟨ρ1,e,S1,st1,Go.refl _ _,ev1,by rw [List.drop_zero]; exact p1⟩ ?_ ?_ ?_
    · rintro i σ2 H2 _ ⟨ρ2,e2,S2,st2,g2,ev2,q2⟩
      exact (sv Z ρ2 S2 H2 st2 (g2.mv st1) g2.pre g2.fz (okOf q2)).1
    · rintro i x σ2 H2 H3 hi ⟨ρ2,e2,S2,st2,g2,ev2,q2⟩ hy
      have hk:=okOf q2
      obtain ⟨k,y,e3,a⟩:=(sv Z ρ2 S2 H2 st2 (g2.mv st1) g2.pre g2.fz hk).2 i x H3 hy
      have st3:=st2.grow k
      have g3:Go ρ2 H2 ρ2 H3:=Go.grow k
      have ev3:=ev2.mv (g3.mv st2) g3.pre
      have q3:=Z22.shift g3 st3 q2
      rw [drop_get e3] at q3
      simp only [Z7x,hk,if_true] at q3
      cases q4:t.asg S2 y e2 with
      | none=>rw [q4] at q3; exact q3.elim
      | some e4 =>
        rw [q4] at q3
        refine ⟨Z,ρ2,e2,S2,y,e4,st3,ev3,a,q4,fun σ5 ev5 _=>⟨Z,ρ2,e4,S2,st3,ev5,?_⟩⟩
        have q3:Z22 X.K Z ρ2 H3 Wx D (match mb e4 S2 with
          | .go (.nx e2) S2=>Z7x t l mb (ys.drop (i + 1)) e2 S2
          | .go (.ct e2) S2=>Z7x t l mb (ys.drop (i + 1)) e2 S2
          | .go (.bk e2) S2 => .go (.nx e2) S2
          | r=>r):=q3
        cases q5:mb e4 S2 with
        | bad=>rw [q5] at q3; exact q3
        | err C fs e6 S6=>rw [q5] at q3; exact q3
        | go o S6 =>
          rw [q5] at q3
          cases o with
          | nx e6=>exact fun ρ7 H7 σ7 st7 g7 ev7=>⟨ρ7,e6,S6,st7,g2.trans (g3.trans g7),ev7,Z22.shift g7 st7 q3⟩
          | ct e6=>exact fun ρ7 H7 σ7 st7 g7 ev7=>⟨ρ7,e6,S6,st7,g2.trans (g3.trans g7),ev7,Z22.shift g7 st7 q3⟩
          | bk e6=>exact q3
          | rt x6=>exact q3
          | rp d6=>exact q3
          | rq d6=>exact q3
    · rintro σ2 H2 ⟨ρ2,e2,S2,st2,g2,ev2,q2⟩
      have hk:=okOf q2
      rw [List.drop_length] at q2
      simp only [Z7x,hk,if_true] at q2
      exact q2.next st2 ev2
def many:Nat:=1000000
def R.ne {α:Type}:R α→R α
  | .ok a S => .ok a S
  | _ => .bad
def Z1v (e:Ev):List Nat→Ev
  | []=>e
  | v :: vs=>(Z1v e vs).set v none
theorem Z3r (e:Ev):∀ vs:List Nat,(Z1v e vs).length=e.length
  | []=>rfl
  | v :: vs=>by unfold Z1v; rw [List.length_set,Z3r e vs]
theorem Y0t {e:Ev} {i:Nat} {x:Bv.X}:∀ {vs:List Nat},(Z1v e vs)[i]?=some (some x)→e[i]?=some (some x)∧i ∉ vs
  | [],h=>⟨h,by simp⟩
  | v :: vs,h=>by
    unfold Z1v at h
    by_cases hi:v=i
    · subst hi
      by_cases hv:v < (Z1v e vs).length
      · rw [List.getElem?_set_self hv] at h; cases h
      · rw [List.getElem?_eq_none (by simpa using hv)] at h; cases h
    · rw [List.getElem?_set_ne hi] at h
      obtain ⟨h1,h2⟩:=Y0t h
      exact ⟨h1,by simp only [List.mem_cons,not_or]; exact ⟨fun e=>hi e.symm,h2⟩⟩
theorem Y2u {σ:L2.St} {i:Nat} {x:Option V}:∀ {vs:List Nat},i ∉ vs→σ[i]?=some x→(wipe σ vs)[i]?=some x
  | [],_,h=>h
  | v :: vs,hn,h=>by
    rw [List.mem_cons,not_or] at hn
    unfold wipe
    rw [List.getElem?_set_ne (fun z=>hn.1 z.symm)]
    exact Y2u hn.2 h
theorem EvOk.wipe {K:PySem.W.Frag} {W:Wd} {ρ:List Addr} {H:Hp} {e:Ev} {σ:L2.St} (h:EvOk K W ρ H e σ) (vs:List Nat):EvOk K W ρ H (Z1v e vs) (wipe σ vs) :=
  ⟨by rw [Z3r,wipe_length]; exact h.len,fun i x q=>by
    obtain ⟨h1,h2⟩:=Y0t q
    obtain ⟨v,h3,h4⟩:=h.at_ i x h1
    exact ⟨v,Y2u h2 h3,h4⟩⟩
def lcL (t:Tg) (l:Lk) (mt:MG Bool) (me:M) (e:Ev):List Bv.X→Sto→R (List D)
  | [],S=>if l.ok S then .ok [] S else .bad
  | x :: xs,S=>if l.ok S then (match t.asg S x e with
    | some e1=>(mt e1 S).ne.bind fun b S1=>if b then (me e1 S1).ne.bind fun y S2=>(match y with
        | .d d=>(lcL t l mt me e xs S2).bind fun ds S3 => .ok (d :: ds) S3
        | .r _ => .bad) else lcL t l mt me e xs S1
    | none => .bad) else .bad
def Z8l (ds:List D) (S:Sto):R Bv.X:=if ds.length ≤ sizeLine then .ok (.d (.lst ds)) S else .bad
def Z2u (t:Tg) (mi:MIt) (mt:MG Bool) (me:M) (vs:List Nat):M:=fun e S=>(mi e S).bind fun p S1=>(lcL t p.2 mt me (Z1v e vs) p.1 S1).bind Z8l
def Z0h:MG Bool:=fun _ S => .ok true S
abbrev WX0:WX:=fun _ _ _ _=>False
theorem R.bind_assoc {α β γ:Type} (r:R α) (f:α→Sto→R β) (g:β→Sto→R γ):(r.bind f).bind g=r.bind fun a S=>(f a S).bind g:=by cases r <;> rfl
theorem Y24 {t:Tg} {l:Lk} {mt:MG Bool} {me:M} {e:Ev}:∀ {xs:List Bv.X} {S:Sto} {C fs S'},lcL t l mt me e xs S ≠ .err C fs S'
  | [],S,C,fs,S',h=>by
    simp only [lcL] at h
    split at h <;> cases h
  | x :: xs,S,C,fs,S',h=>by
    simp only [lcL] at h
    split at h
    · split at h
      · rename_i e1 _
        cases q:(mt e1 S).ne with
        | err _ _ _=>cases q2:mt e1 S <;> rw [q2] at q <;> cases q
        | bad=>rw [q] at h; cases h
        | ok b S1 =>
          rw [q] at h
          have h:(if b then (me e1 S1).ne.bind fun y S2=>(match y with
            | .d d=>(lcL t l mt me e xs S2).bind fun ds S3 => .ok (d :: ds) S3
            | .r _ => .bad) else lcL t l mt me e xs S1) = .err C fs S':=h
          cases b with
          | false=>exact Y24 h
          | true =>
            cases q3:(me e1 S1).ne with
            | err _ _ _=>cases q2:me e1 S1 <;> rw [q2] at q3 <;> cases q3
            | bad=>rw [q3] at h; cases h
            | ok y S2 =>
              rw [q3] at h
              cases y with
              | r _=>cases h
              | d d =>
                have h:((lcL t l mt me e xs S2).bind fun ds S3=>R.ok (d :: ds) S3) = .err C fs S':=h
                cases q4:lcL t l mt me e xs S2 with
                | ok _ _=>rw [q4] at h; cases h
                | bad=>rw [q4] at h; cases h
                | err C' fs' S''=>exact Y24 q4
      · cases h
    · cases h
theorem Y6g {α β:Type} {rel:Wd→List Addr→Hp→α→β→Prop} {K:PySem.W.Frag} {Z:Wd} {ρ:List Addr} {S:Sto} {e:Ev} {H:Hp} {σ:L2.St} {m:MG α} {R':β→Hp→Prop} (st:Sta K Z ρ S H) (ev:EvOk K (Wn Z ρ) ρ H e σ) {a:α} {S1:Sto} (h:(m e S).ne = .ok a S1)
    (next:∀ ρ1 H1 v,Sta K Z ρ1 S1 H1→Go ρ H ρ1 H1→EvOk K (Wn Z ρ1) ρ1 H1 e σ→rel (Wn Z ρ1) ρ1 H1 a v→R' v H1):RG rel K WX0 m σ H R':=by
  refine ⟨Z,ρ,e,S,st,ev,?_⟩
  cases q:m e S with
  | ok b S2 =>
    rw [q] at h
    cases h
    exact fun ρ1 H1 v s1 g r=>next ρ1 H1 v s1 g (ev.mv (g.mv st) g.pre) r
  | err _ _ _=>rw [q] at h; cases h
  | bad=>rw [q] at h; cases h
end
end Bv
namespace Bv
open PySem PySem.Spec L2
open PyProof.Rows hiding St
variable [HasW]
theorem Y2v {σ:L2.St} {v:Nat}:∀ {vs:List Nat},v ∈ vs→(wipe σ vs).set v none=wipe σ vs
  | w :: ws,h=>by
    unfold wipe
    by_cases e:v=w
    · rw [e,List.set_set]
    · have h2:v ∈ ws:=(List.mem_cons.mp h).resolve_left e
      rw [List.set_comm _ _ (fun z=>e z.symm),Y2v h2]
theorem Y4q {σ:L2.St} {us:List Nat}:∀ {vs:List Nat},(∀ i ∈ vs,i ∈ us)→wipe (wipe σ us) vs=wipe σ us
  | [],_=>rfl
  | v :: vs,h=>by
    show (wipe (wipe σ us) vs).set v none=wipe σ us
    rw [Y4q fun i hi=>h i (List.mem_cons_of_mem _ hi)]
    exact Y2v (h v List.mem_cons_self)
theorem Y5g {σ:L2.St} (vs:List Nat):wipe (wipe σ vs) vs=wipe σ vs:=Y4q fun _ h=>h
abbrev MTs (X:Cx) (Wx:WX) (ifs:List Expr) (m:MG Bool):Prop:=PTs X ifs (RB X.K Wx m)
section
variable {X:Cx} {Wx:WX} {pos:Pos} {tg iter elt c:Expr} {ifs:List Expr} {mi:MIt} {mt:MG Bool} {me:M} {t:Tg} {vs:List Nat}
theorem Z3c:MTs X Wx [] Z0h:=⟨fun pins s σ H Q I h=>pts_nil.run pins s σ H Q I (by
  obtain ⟨Z,ρ,e,S,st,ev,p⟩:=h
  exact W6.ret0 p st rfl)⟩
theorem Z41 (h:MT X Wx c mt):MTs X Wx [c] mt:=pts_one h
theorem Y8s (hs:∀ i ∈ t.slots,i ∈ vs) {σ:L2.St} {H:Hp} {Q:VK} (h:RE X.K Wx (Z2u t mi mt me vs) σ H Q):tLc (RG (Srv X.K) X.K Wx mi) (TGt X.K t) (RB X.K WX0 mt) (RE X.K WX0 me) vs σ H Q:=by
  obtain ⟨Z,ρ,e,S,st,ev,p⟩:=h
  refine W3 (rel:=Srv X.K) st ev p fun ρ1 H1 J p0 S1 st1 g1 ev1 srv p1=>?_
  obtain ⟨ys,l⟩:=p0
  obtain ⟨G,Y,w,sv⟩:=srv
  intro D0 hD
  have p1:Y3w X.K Z ρ1 H1 Wx σ Q ((lcL t l mt me (Z1v e vs) ys S1).bind Z8l):=p1
  have sv:∀ (Z2:Wd) (ρ2:List Addr) (S2:Sto) (H2:Hp),Sta X.K Z2 ρ2 S2 H2→Mv (Wn Z ρ1) H1 (Wn Z2 ρ2) H2→ρ1 <+: ρ2→(∀ a ob u,H1 a=some (.frz ob u)→H2 a=some (.frz ob u))→l.ok S2=true→G H2 ∧
    ∀ i x H3,Y i H2 x H3→Same H2 H3∧∃ y,ys[i]?=some y∧AX X.K (Wn Z2 ρ2) ρ2 H3 y x:=sv
  have w:Walk J ys.length G Y:=w
  have evw:=ev1.wipe vs
  let Z':Wd:=fun a=>Z a ∨ a=D0
  let Pv:Nat→Hp→Prop:=fun i H=>∃ (ρ:List Addr) (S:Sto) (acc:List D) (xs:List V),Sta X.K Z' ρ S H∧ρ1 <+: ρ∧(∀ a o,a ∉ ρ1→H1 a=some o→a ∉ ρ∧H a=some o)∧(∀ a ob u,H1 a=some (.frz ob u)→H a=some (.frz ob u))∧H D0=some (.lst xs)∧AVs X.K (Wn Z' ρ) H acc xs ∧
    EvOk X.K (Wn Z' ρ) ρ H (Z1v e vs) (wipe σ vs)∧Y3w X.K Z ρ1 H1 Wx σ Q ((lcL t l mt me (Z1v e vs) (ys.drop i) S).bind fun ds S'=>Z8l (acc++ds) S')
  have mvOf:∀ {ρ:List Addr} {S:Sto} {H:Hp},Sta X.K Z' ρ S H→(∀ a o,a ∉ ρ1→H1 a=some o→a ∉ ρ∧H a=some o)→Mv (Wn Z ρ1) H1 (Wn Z' ρ) H:=fun {ρ S H} s k a o hn hq=>by
    have h1:a ∉ ρ1:=fun z=>hn (.inr z)
    obtain ⟨h2,h3⟩:=k a o h1 hq
    refine ⟨fun z=>?_,h3⟩
    rcases z with (z | z) | z
    · exact hn (.inl z)
    · rw [z,hD] at hq; cases hq
    · exact h2 z
  have okOf:∀ {xs:List Bv.X} {S:Sto} {acc:List D},Y3w X.K Z ρ1 H1 Wx σ Q ((lcL t l mt me (Z1v e vs) xs S).bind fun ds S'=>Z8l (acc++ds) S')→l.ok S=true:=fun {xs S acc} q=>by
    cases z:l.ok S with
    | true=>rfl
    | false=>cases xs <;> (simp only [lcL,z] at q; exact q.elim)
  refine lc_it w Pv ?_ ?_ ?_ ?_
  ·
    have k:=Z0f (o := .lst []) hD
    have s0:=st1.grow k
    have hnw:¬ Wn Z ρ1 D0:=st1.fresh hD
    have m0:Mv (Wn Z ρ1) H1 (Wn Z' ρ1) (upd H1 D0 (.lst [])):=fun a o hn hq=>⟨fun z=>by
      rcases z with (z | z) | z
      · exact hn (.inl z)
      · rw [z,hD] at hq; cases hq
      · exact hn (.inr z),k a o hq⟩
    refine ⟨ρ1,S1,[],[],⟨st1.nd,fun a z=>?_,st1.len,fun n o a e1 e2=>AO.mv m0 (List.prefix_refl _) (fun u q=>k _ _ q) (st1.ob n o a e1 e2)⟩,List.prefix_refl _,fun a o hn hq=>⟨hn,k a o hq⟩,fun a _ _ q=>k a _ q,upd_same, .nil,evw.mv m0 (List.prefix_refl _),?_⟩
    · rcases z with z | z
      · exact ⟨(st1.z a z).1,let ⟨o,q⟩:=(st1.z a z).2; ⟨o,k a o q⟩⟩
      · exact ⟨fun z2=>hnw (.inr (by rw [← z]; exact z2)),⟨_,by rw [z]; exact upd_same⟩⟩
    · rw [List.drop_zero]
      exact p1
  · rintro i H2 _ ⟨ρ2,S2,acc,xs,st2,pr2,k2,f2,d2,a2,ev2,q2⟩
    exact (sv Z' ρ2 S2 H2 st2 (mvOf st2 k2) pr2 f2 (okOf q2)).1
  · rintro i x H2 H3 hi ⟨ρ2,S2,acc,xs,st2,pr2,k2,f2,d2,a2,ev2,q2⟩ hy
    have hk:=okOf q2
    obtain ⟨k,y,e3,a⟩:=(sv Z' ρ2 S2 H2 st2 (mvOf st2 k2) pr2 f2 hk).2 i x H3 hy
    have st3:=st2.grow k
    have m23:Mv (Wn Z' ρ2) H2 (Wn Z' ρ2) H3:=Z3e k
    have ev3:=ev2.mv m23 (List.prefix_refl _)
    rw [drop_get e3] at q2
    simp only [lcL,hk,if_true] at q2
    cases q4:t.asg S2 y (Z1v e vs) with
    | none=>rw [q4] at q2; exact q2.elim
    | some e4 =>
      rw [q4] at q2
      refine ⟨Z',ρ2,Z1v e vs,S2,y,e4,st3,ev3,a,q4,fun σ5 ev5 w5=>⟨?_,?_⟩⟩
      · rw [w5 vs hs,Y5g]
      have q2:Y3w X.K Z ρ1 H1 Wx σ Q (((mt e4 S2).ne.bind fun b S1=>if b then (me e4 S1).ne.bind fun y S2=>(match y with
          | .d d=>(lcL t l mt me (Z1v e vs) (ys.drop (i + 1)) S2).bind fun ds S3 => .ok (d :: ds) S3
          | .r _ => .bad) else lcL t l mt me (Z1v e vs) (ys.drop (i + 1)) S1).bind fun ds S'=>Z8l (acc++ds) S'):=q2
      cases q5:(mt e4 S2).ne with
      | err _ _ _=>cases q6:mt e4 S2 <;> rw [q6] at q5 <;> cases q5
      | bad=>rw [q5] at q2; exact q2.elim
      | ok b S6 =>
        rw [q5] at q2
        refine Y6g (rel:=relB) st3 ev5 q5 fun ρ6 H6 v st6 g6 ev6 r6=>?_
        cases (show b=v from r6)
        have pr6:ρ1 <+: ρ6:=pr2.trans g6.pre
        have nD:D0 ∉ ρ2:=(st2.z D0 (.inr rfl)).1
        obtain ⟨nD6,d6⟩:=g6.keep D0 _ nD (k _ _ d2)
        have k6:∀ a o,a ∉ ρ1→H1 a=some o→a ∉ ρ6∧H6 a=some o:=fun a o h1 h2=>by
          obtain ⟨h3,h4⟩:=k2 a o h1 h2
          exact g6.keep a o h3 (k _ _ h4)
        have m36:=g6.mv st3
        have ev6':EvOk X.K (Wn Z' ρ6) ρ6 H6 (Z1v e vs) (wipe σ vs):=ev3.mv m36 g6.pre
        have a6:=(a2.mv m23).mv m36
        cases b with
        | false =>
          rw [if_neg Bool.false_ne_true]
          exact ⟨ρ6,S6,acc,xs,st6,pr6,k6,fun a ob u q=>g6.fz a ob u (k _ _ (f2 a ob u q)),d6,a6,ev6',q2⟩
        | true =>
          rw [if_pos rfl]
          have q2:Y3w X.K Z ρ1 H1 Wx σ Q (((me e4 S6).ne.bind fun y S2=>(match y with
            | .d d=>(lcL t l mt me (Z1v e vs) (ys.drop (i + 1)) S2).bind fun ds S3 => .ok (d :: ds) S3
            | .r _ => .bad)).bind fun ds S'=>Z8l (acc++ds) S'):=q2
          cases q7:(me e4 S6).ne with
          | err _ _ _=>cases q6:me e4 S6 <;> rw [q6] at q7 <;> cases q7
          | bad=>rw [q7] at q2; exact q2.elim
          | ok z S7 =>
            rw [q7] at q2
            refine Y6g (rel:=AX X.K) st6 ev6 q7 fun ρ7 H7 v st7 g7 ev7 r7=>?_
            cases z with
            | r _=>exact q2.elim
            | d d =>
              have q2:Y3w X.K Z ρ1 H1 Wx σ Q (((lcL t l mt me (Z1v e vs) (ys.drop (i + 1)) S7).bind fun ds S3 => .ok (d :: ds) S3).bind fun ds S'=>Z8l (acc++ds) S'):=q2
              rw [R.bind_assoc] at q2
              have nD6':D0 ∉ ρ6:=nD6
              obtain ⟨nD7,d7⟩:=g7.keep D0 _ nD6' d6
              have m67:=g7.mv st6
              have a7:=a6.mv m67
              have k7:∀ a o,a ∉ ρ1→H1 a=some o→a ∉ ρ7∧H7 a=some o:=fun a o h1 h2=>by
                obtain ⟨h3,h4⟩:=k6 a o h1 h2
                exact g7.keep a o h3 h4
              cases r7 with
              | d r7 =>
                have hlen:acc.length < sizeLine:=by
                  cases q8:lcL t l mt me (Z1v e vs) (ys.drop (i + 1)) S7 with
                  | bad=>rw [q8] at q2; exact q2.elim
                  | err C fs S8=>exact absurd q8 Y24
                  | ok ds S8 =>
                    rw [q8] at q2
                    have q2:Y3w X.K Z ρ1 H1 Wx σ Q (if (acc++d :: ds).length ≤ sizeLine then .ok (.d (.lst (acc++d :: ds))) S8 else .bad):=q2
                    by_cases hl:(acc++d :: ds).length ≤ sizeLine
                    · rw [List.length_append,List.length_cons] at hl; omega
                    · rw [if_neg hl] at q2; exact q2.elim
                have wD:Wn Z' ρ7 D0 := .inl (.inr rfl)
                have m8:Mv (Wn Z' ρ7) H7 (Wn Z' ρ7) (upd H7 D0 (.lst (xs++[v]))):=fun a o hn hq=>⟨hn,by rw [upd_ne (fun z=>hn (by rw [z]; exact wD))]; exact hq⟩
                have neD:∀ b,b ∈ ρ7→b ≠ D0:=fun b hb z=>nD7 (by rw [← z]; exact hb)
                refine ⟨xs,d7,by rw [← a7.length]; exact hlen,ρ7,S7,acc++[d],xs++[v],⟨st7.nd,fun a z=>⟨(st7.z a z).1,?_⟩,st7.len,fun n o a e1 e2=>AO.mv m8 (List.prefix_refl _) (fun u q=>by rw [upd_ne (neD a (List.mem_of_getElem? e2))]; exact q) (st7.ob n o a e1 e2)⟩,pr6.trans g7.pre,fun a o h1 h2=>?_,fun a ob u q=>by rw [upd_ne (fun z=>by rw [z,hD] at q; cases q)]; exact g7.fz a ob u (g6.fz a ob u (k _ _ (f2 a ob u q))),upd_same,(a7.append (.cons r7 .nil)).mv m8,(ev6'.mv m67 g7.pre).mv m8 (List.prefix_refl _),?_⟩
                · by_cases hz:a=D0
                  · exact ⟨_,by rw [hz]; exact upd_same⟩
                  · obtain ⟨o,q⟩:=(st7.z a z).2
                    exact ⟨o,by rw [upd_ne hz]; exact q⟩
                · obtain ⟨h3,h4⟩:=k7 a o h1 h2
                  exact ⟨h3,by rw [upd_ne (fun z=>by rw [z,hD] at h2; cases h2)]; exact h4⟩
                · have e9:(fun (ds:List D) (S':Sto)=>Z8l (acc++[d]++ds) S')=fun ds S'=>Z8l (acc++(d :: ds)) S':=by
                    funext ds S'
                    rw [List.append_assoc]; rfl
                  show Y3w X.K Z ρ1 H1 Wx σ Q ((lcL t l mt me (Z1v e vs) (ys.drop (i + 1)) S7).bind fun ds S'=>Z8l (acc++[d]++ds) S')
                  rw [e9]
                  exact q2
  · rintro H2 ⟨ρ2,S2,acc,xs,st2,pr2,k2,f2,d2,a2,ev2,q2⟩
    have hk:=okOf q2
    rw [List.drop_length] at q2
    simp only [lcL,hk,if_true] at q2
    have q2:Y3w X.K Z ρ1 H1 Wx σ Q (Z8l (acc++[]) S2):=q2
    rw [List.append_nil] at q2
    have q2:Y3w X.K Z ρ1 H1 Wx σ Q (if acc.length ≤ sizeLine then .ok (.d (.lst acc)) S2 else .bad):=q2
    by_cases hl:acc.length ≤ sizeLine
    · rw [if_pos hl] at q2
      have m:Mv (Wn Z' ρ2) H2 (Wn Z ρ2) H2:=fun a o hn hq=>⟨fun z=>hn (z.elim (fun z => .inl (.inl z)) .inr),hq⟩
      refine q2 ρ2 H2 (.ref D0) ⟨st2.nd,fun a z=>st2.z a (.inl z),st2.len,fun n o a e1 e2=>AO.mv m (List.prefix_refl _) (fun u q=>q) (st2.ob n o a e1 e2)⟩ ⟨pr2,k2,f2⟩ (.d (.lst (fun z=>?_) d2 (a2.mv m)))
      rcases z with z | z
      · exact st1.fresh hD (.inl z)
      · exact (st2.z D0 (.inr rfl)).1 z
    · rw [if_neg hl] at q2; exact q2.elim
theorem Z6x {scope:Scope} {own:List (Str × Nat)} (hc:X.calm=true) (hN:X.N.Nodup) (hi:MI X Wx tg iter mi) (ok:BlkOk X.N X.env.scope scope own) (hsl:∀ i ∈ t.slots,i ∈ own.map (·.2))
    (hg:∀ (s:Shared) (H:Hp) (C:Addr) (cl:List (Str × Addr)) (fp:List Addr),PG (X.blk s H scope (compEnvC scope cl C X.env) fp) tg (TGt X.K t)) (ht:∀ (s:Shared) (H:Hp) (C:Addr) (cl:List (Str × Addr)) (fp:List Addr),MTs (X.blk s H scope (compEnvC scope cl C X.env) fp) WX0 ifs mt)
    (he:∀ (s:Shared) (H:Hp) (C:Addr) (cl:List (Str × Addr)) (fp:List Addr),ME (X.blk s H scope (compEnvC scope cl C X.env) fp) WX0 elt me) (hs:∀ x,foldedSetIterable iter X.env x=pure x:=by intro _; rfl) :
    ME X Wx (.ListComp elt [⟨tg,iter,ifs,0⟩] scope pos) (Z2u t mi mt me (own.map (·.2))):=PE.of (pe_lc hc hN hi ok hg ht he hs) fun _ _ _ h=>Y8s hsl h
theorem Z5q {i:Nat} {y:Str} {py spos:Pos} {scope:Scope} {own:List (Str × Nat)} (hc:X.calm=true) (hN:X.N.Nodup) (hy:X.N[i]?=some y) (hyl:X.env.scope.names.lookup y=some .local)
    (hsw:swapsWith (.ListComp elt [⟨tg,iter,ifs,0⟩] scope pos) (some (.Name y py)) spos.line X.env=pure true) (hi:MI X Wx tg iter mi) (ok:BlkOk X.N X.env.scope scope own) (hsl:∀ i ∈ t.slots,i ∈ own.map (·.2))
    (hg:∀ (s:Shared) (H:Hp) (C:Addr) (cl:List (Str × Addr)) (fp:List Addr),PG (X.blk s H scope (compEnvC scope cl C X.env) fp) tg (TGt X.K t)) (ht:∀ (s:Shared) (H:Hp) (C:Addr) (cl:List (Str × Addr)) (fp:List Addr),MTs (X.blk s H scope (compEnvC scope cl C X.env) fp) WX0 ifs mt)
    (he:∀ (s:Shared) (H:Hp) (C:Addr) (cl:List (Str × Addr)) (fp:List Addr),ME (X.blk s H scope (compEnvC scope cl C X.env) fp) WX0 elt me) (hs:∀ x,foldedSetIterable iter X.env x=pure x:=by intro _; rfl) :
    MP X Wx (.Assign [.Name y py] (.ListComp elt [⟨tg,iter,ifs,0⟩] scope pos) spos) (W0 i (Z2u t mi mt me (own.map (·.2)))):=PS.of (ps_setLc hc hN hy hyl hsw hi ok hg ht he hs) fun D σ H ⟨Z,ρ,e,S,st,ev,p⟩=>by
  refine Y8s (mt:=mt) (me:=me) (t:=t) hsl ?_
  exact Z2n (rel:=AX X.K) st ev p fun ρ1 H1 v x S1 st1 g1 ev1 a1 p1=>p1.next st1 (ev1.set a1)
end
end Bv
namespace Bv
open PySem PySem.Spec L2
open PyProof.Rows hiding St
variable [HasW]
def X4a (K:PySem.W.Frag) (t:TE):TI:=fun σ H R=>t σ H fun x H1 =>
  (∃ a,x = .ref a∧(((∃ xs,SqL K H1 a xs)∧R (Itl K a) H1) ∨ ((∃ xs,SqT K H1 a xs)∧R (Itt K a) H1))) ∨ ∃ z,x = .str z∧R (Its z) H1
theorem X14 {X:Cx} {tg e:Expr} {t:TE} (he:PE X e t):PI X tg e (X4a X.K t):=⟨fun pins s σ H R I h=>thn (he.run pins s σ H _ I h) fun v s1 ⟨x,H1,I1,r1,q1⟩=>by
  rcases q1 with ⟨a,rfl,⟨⟨xs,hq⟩,q⟩ | ⟨⟨xs,hq⟩,q⟩⟩ | ⟨z,rfl,q⟩
  · cases r1
    obtain ⟨its,_,p,_⟩:=I1.list hq
    exact wpAny_pyIter_list p.isList (pi_one (tk:=s1.toks) I1 _ (turn_list a _) ⟨_,Heap.get?_push_size _ rfl,rfl,rfl⟩ q)
  · cases r1
    obtain ⟨its,_,p,_⟩:=I1.tuple hq
    exact wpAny_pyIter_tuple (show s1.heap.IsTuple a its.toArray from p) (pi_one (tk:=s1.toks) I1 _ (turn_tuple a _) ⟨_,Heap.get?_push_size _ rfl,rfl,rfl⟩ q)
  · obtain ⟨t,rfl⟩:=r1
    cases hz:z.cps.all (· < 128) with
    | false=>exact wpAny_pyIter_wide hz (pi_one (tk:=s1.toks) I1 _ (turn_str _ z t "str_iterator" (.inr rfl)) ⟨_,Heap.get?_push_size _ rfl,rfl,rfl⟩ q)
    | true=>exact wpAny_pyIter_ascii hz (pi_one (tk:=s1.toks) I1 _ (turn_str _ z t "str_ascii_iterator" (.inl rfl)) ⟨_,Heap.get?_push_size _ rfl,rfl,rfl⟩ q)⟩
def Z6y (S:Sto):X→Option (List X × Lk)
  | .d (.lst ds)=>some (ds.map .d, .free)
  | .d (.tup ds)=>some (ds.map .d, .free)
  | .d (.scr ns)=>some (ns.map fun i => .d (.int i), .free)
  | .d (.str z)=>some (z.cps.toList.map fun c => .d (.str ⟨#[c]⟩), .free)
  | .d _=>none
  | .r n=>match S[n]? with
    | some (.lst xs)=>some (xs, .lst n xs)
    | _=>none
def Q8 (m:M):MIt:=fun e S=>(m e S).bind fun x S1=>Z2o (Z6y S1 x) S1
theorem Y5f {K:PySem.W.Frag} {a:Addr} (n:Nat):Walk (Itl K a) n (fun H=>∃ xs,xs.length=n∧SqL K H a xs) (fun i H x H'=>H'=H∧∀ xs,SqL K H a xs→xs[i]?=some x) :=
  ⟨fun i _ hi ⟨xs,e,q⟩=>⟨xs,xs[i]'(by omega),q,by simp [show i < xs.length by omega]⟩,fun _ ⟨xs,e,q⟩=>⟨xs,q,by omega⟩,fun _ _ _ _ _ _ y=>y⟩
theorem Same.rfl' {H:Hp}:Same H H:=fun _ _ q=>q
theorem Y3k {α β:Type} {F:α→β→Prop}:∀ {l:List α} {r:List β} {j:Nat} {b:β},Paired F l r→r[j]?=some b→∃ a,l[j]?=some a∧F a b
  | _,_,_,_, .nil,z=>by simp at z
  | _,_,0,_, .cons h _,z=>by simp at z; subst z; exact ⟨_,rfl,h⟩
  | _,_,j + 1,_, .cons _ t,z=>by
    obtain ⟨a,h1,h2⟩:=Y3k (j:=j) t (by simpa using z)
    exact ⟨a,by simpa using h1,h2⟩
theorem AVs.at_ {K:PySem.W.Frag} {W:Wd} {H:Hp} {ds:List D} {vs:List V} {i:Nat} {v:V} (h:AVs K W H ds vs) (e:vs[i]?=some v):∃ d,ds[i]?=some d∧AV K W H d v:=by
  have hl:=h.length
  obtain ⟨h1,h2⟩:=List.getElem?_eq_some_iff.mp e
  have hd:ds[i]?=some (ds[i]'(by omega)):=List.getElem?_eq_getElem _
  obtain ⟨u,h3,h4⟩:=h.get hd
  rw [e] at h3
  cases h3
  exact ⟨_,hd,h4⟩
theorem Y0y {K:PySem.W.Frag} {W:Wd} {H:Hp}:∀ ns:List Int,AVs K W H (ns.map D.int) (ns.map V.int)
  | [] => .nil
  | i :: r => .cons (.int i) (Y0y r)
section
variable {X:Cx} {Wx:WX} {pos p:Pos} {tg e a b:Expr} {es:List Expr} {m:M} {ms:MG (List Bv.X)}
theorem Y4h {K:PySem.W.Frag} {W:Wd} {ρ:List Addr} {H:Hp} {a:Addr} {xs:List V} {ds:List D} (r:Lp K W H a xs) (hs:AVs K W H ds xs):Srv K W ρ H (ds.map .d, .free) (Itl K a) :=
  ⟨fun H=>SqL K H a xs,YAt xs,by rw [show (ds.map Bv.X.d,Lk.free).1.length=xs.length by simpa using hs.length]; exact walk_list,fun Z2 ρ2 S2 H2 st m p fz k=>⟨(m.lp r).sl,fun i x H3 y=>by
    obtain ⟨rfl,y⟩:=y
    obtain ⟨d,h1,h2⟩:=(hs.mv m).at_ y
    exact ⟨Same.rfl', .d d,by simp [h1], .d h2⟩⟩⟩
theorem Z2k (h:ME X Wx e m):MI X Wx tg e (Q8 m):=PI.of (X14 h) fun σ H R ⟨Z,ρ,e,S,st,ev,p⟩=>W3 st ev p fun ρ1 H1 v x S1 st1 g1 ev1 a1 p1=>by
  obtain ⟨w,hw,p2⟩:=p1.opt
  have fin:∀ J,Srv X.K (Wn Z ρ1) ρ1 H1 w J→R J H1:=fun J h=>W6.ret0 p2 st1 h
  cases a1 with
  | d a =>
    cases a with
    | lst w r hs=>cases hw; exact .inl ⟨_,rfl, .inl ⟨⟨_, .inl (.inl r)⟩,fin _ (Y4h (.inl ⟨w, .inl r⟩) hs)⟩⟩
    | scr r =>
      rename_i q ns
      cases hw
      refine .inl ⟨_,rfl, .inl ⟨⟨_,r.sl⟩,fin _ ?_⟩⟩
      have hs:AVs X.K (Wn Z ρ1) H1 (ns.map D.int) (ns.map V.int):=Y0y ns
      have e1:(ns.map D.int).map Bv.X.d=ns.map fun i=>Bv.X.d (.int i):=by simp
      rw [← e1]
      exact Y4h r hs
    | tup t hs =>
      rename_i q us ds
      cases hw
      refine .inl ⟨_,rfl, .inr ⟨⟨_,t.sq⟩,fin _ ⟨_,_,by rw [show (ds.map Bv.X.d,Lk.free).1.length=us.length by simpa using hs.length]; exact walk_tup,fun Z2 ρ2 S2 H2 st m p fz k=>⟨(m.tp t).sq,fun i x H3 y=>?_⟩⟩⟩⟩
      obtain ⟨rfl,y⟩:=y
      obtain ⟨d,h1,h2⟩:=(hs.mv m).at_ y
      exact ⟨Same.rfl', .d d,by simp [h1], .d h2⟩
    | str hz =>
      rename_i z
      cases hw
      refine .inr ⟨_,rfl,fin _ ⟨_,_,by rw [show (z.cps.toList.map fun c=>Bv.X.d (.str ⟨#[c]⟩),Lk.free).1.length=z.cps.size by simp]; exact walk_str,fun Z2 ρ2 S2 H2 st m p fz k=>⟨trivial,fun i x H3 y=>?_⟩⟩⟩
      obtain ⟨rfl,c,hc,rfl⟩:=y
      have hm:c ∈ z.cps.toList:=by
        have:=Array.mem_of_getElem? hc
        simpa using this
      have hc':=Z9v hz hm
      refine ⟨Same.rfl', .d (.str ⟨#[c]⟩),by simp [hc], .d (.str (Z83 fun c' m=>?_))⟩
      have:c'=c:=by simpa using m
      rw [this]; exact hc'
    | _=>cases hw
  | r h =>
    rename_i n a
    have hw:(match S1[n]? with
      | some (.lst xs)=>some (xs,Lk.lst n xs)
      | _=>none)=some w:=hw
    cases q:S1[n]? with
    | none=>rw [q] at hw; cases hw
    | some o =>
      rw [q] at hw
      cases o with
      | lst xs =>
        cases hw
        obtain ⟨vs,h1,h2⟩:=st1.ob n _ _ q h
        refine .inl ⟨_,rfl, .inl ⟨⟨_, .inl (.inl h1)⟩,fin _ ⟨_,_,Y5f xs.length,fun Z2 ρ2 S2 H2 st m p fz k=>?_⟩⟩⟩
        have k:(match S2[n]? with
          | some (.lst zs)=>decide (zs=xs)
          | _=>false)=true:=k
        cases q2:S2[n]? with
        | none=>rw [q2] at k; cases k
        | some o2 =>
          rw [q2] at k
          cases o2 with
          | lst zs =>
            have k:zs=xs:=of_decide_eq_true k
            subst k
            have h':ρ2[n]?=some a:=by
              obtain ⟨t,rfl⟩:=p
              rw [List.getElem?_append_left (List.getElem?_eq_some_iff.mp h).1]; exact h
            obtain ⟨us,h3,h4⟩:=st.ob n _ _ q2 h'
            refine ⟨⟨us,(Paired.length h4).symm, .inl (.inl h3)⟩,fun i x H3 y=>?_⟩
            obtain ⟨rfl,y⟩:=y
            obtain ⟨b,h5,h6⟩:=Y3k h4 (y us (.inl (.inl h3)))
            exact ⟨Same.rfl',b,h5,h6⟩
          | _=>cases k
      | _=>cases hw
def Z4v (j:Int):Bool:=decide (-(2 ^ 62) ≤ j∧j < 2 ^ 62)
def upTo (lo:Int) (n:Nat):List Bv.X:=(List.range n).map fun (i:Nat)=>Bv.X.d (.int (lo + i))
def ints?:List Bv.X→Option (List Int)
  | []=>some []
  | x :: r=>match Z23 x,ints? r with
    | some i,some l=>some (i :: l)
    | _,_=>none
theorem Z82 {K:PySem.W.Frag} {W:Wd} {ρ:List Addr} {H:Hp}:∀ {xs:List Bv.X} {vs:List V} {l:List Int},AXs K W ρ H xs vs→ints? xs=some l→vs=l.map V.int
  | _,_,_, .nil,e=>by cases e; rfl
  | x :: r,_,l, .cons h t,e=>by
    unfold ints? at e
    cases q:Z23 x with
    | none=>rw [q] at e; cases e
    | some i =>
      cases q2:ints? r with
      | none=>rw [q,q2] at e; cases e
      | some l2 =>
        rw [q,q2] at e
        cases e
        rw [h.int q,Z82 t q2]; rfl
def Y75 (xs:List Bv.X):Option (List Bv.X × Lk):=match ints? xs with
  | some [j]=>if Z4v j then some (upTo 0 j.toNat, .free) else none
  | _=>none
def Y76 (xs:List Bv.X):Option (List Bv.X × Lk):=match ints? xs with
  | some [i,j]=>if Z4v i && Z4v j then some (upTo i (j - i).toNat, .free) else none
  | _=>none
def Z4g (ms:MG (List Bv.X)):MIt:=fun e S=>(ms e S).bind fun xs S1=>Z2o (Y75 xs) S1
def Y0m (ms:MG (List Bv.X)):MIt:=fun e S=>(ms e S).bind fun xs S1=>Z2o (Y76 xs) S1
theorem Y6t {K:PySem.W.Frag} {W:Wd} {ρ:List Addr} {H:Hp} {lo:Int} {n:Nat}:Srv K W ρ H (upTo lo n, .free) (Itr lo n) :=
  ⟨fun H=>True,fun i H x H'=>i < n∧H'=H∧x = .int (lo + i),by rw [show (upTo lo n,Lk.free).1.length=n by simp [upTo]]; exact ⟨fun _ _ hi _=>hi,fun _ _=>Nat.le_refl _,fun i _ _ _ hi _ y=>⟨hi,y.1,y.2⟩⟩,fun Z2 ρ2 S2 H2 st m p fz k=>⟨trivial,fun i x H3 y=>by
    obtain ⟨hi,rfl,rfl⟩:=y
    exact ⟨Same.rfl', .d (.int (lo + i)),by simp [upTo,hi], .d (.int _)⟩⟩⟩
theorem Z34 {j:Int} (h:Z4v j=true):-(2 ^ 62) ≤ j∧j < 2 ^ 62:=of_decide_eq_true h
theorem Z9p (hg:Gl X "range") (hm:X.mg "range" = none) (ha:MA X Wx [a] ms) (hs:starEach [a] X.env=[(false,eval a X.env)]:=by rfl):MI X Wx tg (.Call (.Name "range" p) [a] [] pos) (Z4g ms):=PI.of (pi_range1 hg hm ha hs) fun σ H R ⟨Z,ρ,e,S,st,ev,p⟩=>W3 st ev p fun ρ1 H1 v xs S1 st1 g1 ev1 a1 p1=>by
  obtain ⟨w,hw,p2⟩:=p1.opt
  unfold Y75 at hw
  cases q:ints? xs with
  | none=>rw [q] at hw; cases hw
  | some l =>
    rw [q] at hw
    have e1:=Z82 a1 q
    match l,hw,e1 with
    | [j],hw,e1 =>
      obtain ⟨h1,h2⟩:=Z5o hw
      cases h2
      exact ⟨j,e1,(Z34 h1).1,(Z34 h1).2,W6.ret0 p2 st1 Y6t⟩
    | [],hw,_=>cases hw
    | _ :: _ :: _,hw,_=>cases hw
theorem Y9x (hg:Gl X "range") (hm:X.mg "range" = none) (ha:MA X Wx [a,b] ms) (hs:starEach [a,b] X.env=[(false,eval a X.env),(false,eval b X.env)]:=by rfl) (hs2:starEach [b] X.env=[(false,eval b X.env)]:=by rfl) :
    MI X Wx tg (.Call (.Name "range" p) [a,b] [] pos) (Y0m ms):=PI.of (pi_range2 hg hm ha hs hs2) fun σ H R ⟨Z,ρ,e,S,st,ev,p⟩=>W3 st ev p fun ρ1 H1 v xs S1 st1 g1 ev1 a1 p1=>by
  obtain ⟨w,hw,p2⟩:=p1.opt
  unfold Y76 at hw
  cases q:ints? xs with
  | none=>rw [q] at hw; cases hw
  | some l =>
    rw [q] at hw
    have e1:=Z82 a1 q
    match l,hw,e1 with
    | [i,j],hw,e1 =>
      obtain ⟨h1,h2⟩:=Z5o hw
      cases h2
      have h1:=Bool.and_eq_true_iff.mp h1
      exact ⟨i,j,e1,⟨(Z34 h1.1).1,(Z34 h1.1).2,(Z34 h1.2).1,(Z34 h1.2).2⟩,W6.ret0 p2 st1 Y6t⟩
    | [],hw,_=>cases hw
    | [_],hw,_=>cases hw
    | _ :: _ :: _ :: _,hw,_=>cases hw
end
end Bv
namespace Xq
open PySem PySem.Spec PyProof.Rows L2
inductive Ch (B:Heap) (H:Hp):Value→Prop
  | nil:Ch B H .none
  | cons {b:Addr} {ob:Obj} {ws:Array Value} {v:Value} (at_:B.get? b=some ob) (da:ob.data = .fields ws) (fr:H b=none) (nx:ws[2]?=some v) (rest:Ch B H v):Ch B H (.ref b)
def Ctx (B:Heap) (H:Hp) (o:Obj):Prop:=∀ ws:Array Value,o.data = .fields ws→∃ v,ws[2]?=some v∧Ch B H v
abbrev Zq (B:Heap) (H:Hp) (cls:Value) (d:Option Addr) (o:Obj):Prop:=Zc cls d o∧Ctx B H o
theorem ctx_steady {B:Heap} {H:Hp}:PXN.Steady1 (Ctx B H):=fun o v h=>by
  obtain ⟨c,d,dt,sl⟩:=o
  cases dt with
  | fields u0 =>
    intro ws e
    cases e
    obtain ⟨v2,e2,q⟩:=h u0 rfl
    exact ⟨v2,HotX.set_other (by decide) e2,q⟩
  | _=>intro ws e; cases e
theorem zq_steady {B:Heap} {H:Hp} {cls:Value} {d:Option Addr}:PXN.Steady1 (Zq B H cls d):=PXN.steady_and (PXN.steady_and PXN.steady_cls PXN.steady_dict) ctx_steady
structure Up (X:Cx) (W:WX) (u:Value) (s':Shared) (a:Addr) (B:Heap) (sI:Shared) (pins:List (Addr × Obj)) (σ:L2.St) (H:Hp) (cls:Value) (d:Option Addr):Prop where
  isA:u = .ref a
  inv:Inv X pins σ H sI
  gr:∀ b o,sI.heap.get? b=some o→b ∉ frs X.stack→B.get? b=some o
  up:sI.heap.UpToSlots s'.heap
  sky:Sky B X.stack a (Zq B H cls d) X.env.locals s'.heap
  na:H a=none
  os:s'.os=sI.os
  ag:AllBare s'.gens
  wish:W cls d σ H
def QX (X:Cx) (W:WX) (u:Value) (s':Shared):Prop:=∃ a B sI pins σ H cls d,Up X W u s' a B sI pins σ H cls d
def Tk (X:Cx) (W:WX):Prop:=∀ u s',QX X W u s'→X.xe u s'
structure Out (P:Program) (w:World) (outer:List Env) (H:Hp) (s:Shared) (E:XK) (u:Value) (s':Shared) (a:Addr) (B:Heap) (H':Hp) (cls:Value) (d:Option Addr):Prop where
  isA:u = .ref a
  fl:HandSPX.FlyingZ B outer a (Zq B H' cls d) s'.heap
  hok:HOk P w H' B
  ub:UB (frs outer) H H' s.heap B s'.heap
  na:H' a=none
  os:s'.os=s.os
  ag:AllBare s'.gens
  wish:E cls d H'
def CQ (P:Program) (w:World):CXT:=fun outer H s E u s'=>∃ a B H' cls d,Out P w outer H s E u s' a B H' cls d
section
variable {X:Cx} {pins:List (Addr × Obj)} {σ:L2.St} {H:Hp} {sI s s':Shared} {B:Heap} {W:WX} {E:XK}
theorem of_call (I:Inv X pins σ H s) (hW:∀ cls d H',E cls d H'→W cls d σ H') {u:Value} (c:CQ X.prog X.w X.stack H s E u s'):QX X W u s':=by
  obtain ⟨a,B,H',cls,d,x⟩:=c
  let keep:Addr→Bool:=fun b=>(B.get? b).isSome || decide (b ∈ frs X.stack)
  obtain ⟨G,inG,outG⟩:=restrict s'.heap keep
  have toG:∀ b o,B.get? b=some o→G.get? b=some o:=fun b o e=>(inG b (by show ((B.get? b).isSome || _)=true; rw [e]; rfl)).trans (x.fl.1 b o e)
  have frG:∀ b,b ∈ frs X.stack→G.get? b=s'.heap.get? b:=fun b hb=>inG b (by show (_ || decide _)=true; rw [decide_eq_true hb,Bool.or_true])
  have un:Un (frs X.stack) [] H H' s.heap G:=by
    refine ⟨fun b o e n hb _=>toG b o (x.ub.keep b o e n hb),fun b o e n hb _=>?_,fun b o e n _=>x.ub.free b o e n,fun b o e _=>?_,x.ub.tups,x.ub.frzs,x.ub.tbls⟩
    · rw [frG b hb]; exact x.ub.slot b o e hb
    · by_cases hb:b ∈ frs X.stack
      · rw [frG b hb]; obtain ⟨sl,q⟩:=x.ub.slot b o e hb; exact ⟨_,q⟩
      · obtain ⟨o',q⟩:=x.ub.there b o e hb; exact ⟨o',toG b o' q⟩
  have fromG:∀ b o,G.get? b=some o→s'.heap.get? b=some o∧keep b=true:=fun b o e=>by
    cases q:keep b with
    | true=>exact ⟨(inG b q).symm.trans e,rfl⟩
    | false=>rw [outG b q] at e; cases e
  refine ⟨a,B,{ s with heap:=G,gens:=s'.gens,drawn:=s'.drawn,toks:=s'.toks },pins,σ,H',cls,d,x.isA,I.call (ch:=[]) un (x.hok.kept toG) x.ag (fun _ z=>nomatch z),fun b o e hb=>?_,Heap.UpToSlots.of_keeps fun b o e=>(fromG b o e).1, .inr (.inl x.fl),x.na,x.os,x.ag,hW _ _ _ x.wish⟩
  obtain ⟨e1,k1⟩:=fromG b o e
  rcases Bool.or_eq_true_iff.mp k1 with k2 | k2
  · obtain ⟨o2,q⟩:=Option.isSome_iff_exists.mp k2
    have z:=x.fl.1 b o2 q
    rw [e1] at z; cases z; exact q
  · exact absurd (of_decide_eq_true k2) hb
theorem born {a:Addr} {oe:Obj} {vs:Array Value} {cls:Value} {d:Option Addr} (I:Inv X pins σ H sI) (k:∀ b o,sI.heap.get? b=some o→s'.heap.get? b=some o) (hne:sI.heap.get? a=none) (he:s'.heap.get? a=some oe)
    (hz:Zc cls d oe) (hx:Ctx (PySem.W.hideAll sI.heap (frs X.stack)) H oe) (hd:oe.data = .fields vs) (h1:vs[1]?=some .none) (na:H a=none) (os:s'.os=sI.os) (ag:AllBare s'.gens) (w:W cls d σ H):QX X W (.ref a) s':=by
  have none_:(PySem.W.hideAll sI.heap (frs X.stack)).get? a=none:=by
    rcases q:(PySem.W.hideAll sI.heap (frs X.stack)).get? a with _ | o
    · rfl
    · have z:=PySem.W.of_hideAll _ q
      rw [hne] at z; cases z
  have ff:s'.heap.FunFrames (PySem.W.hideAll sI.heap (frs X.stack)) X.stack:=Heap.FunFrames.of_keeps (fun b o e _=>⟨o,k b o e,rfl⟩) (funFrames_none I.stack fun b hb=>PySem.W.hideAll_none _ hb)
  exact ⟨a,_,sI,pins,σ,H,cls,d,rfl,I,fun b o e hb=>PySem.W.hideAll_get _ e hb,Heap.UpToSlots.of_keeps k, .inl ⟨fun b o e=>k b o (PySem.W.of_hideAll _ e),none_,ff,oe,vs,he,⟨hz,hx⟩,hd,h1⟩,na,os,ag,w⟩
theorem ctx_none {cls:Value} {d:Option Addr} {oe:Obj} (hz:L2N.Zn cls d oe):Ctx B H oe:=fun ws e=>⟨.none,hz.2.2 ws e, .nil⟩
theorem QX.leave (hs:X.stack=X.env :: X.outer) (hf:X.env.frame=some X.env.locals) (hex:X.ex=[]) {E₁:Value→Shared→Prop} (hW:∀ cls d σ H,W cls d σ H→E cls d H) {u:Value} (x:QX X W u s') :
    wpAny (model X.prog X.w) X.A (leaving X.env u) (fun _ s''=>CQ X.prog X.w X.outer X.H_0 X.s_0 E u s'') E₁ s':=by
  obtain ⟨a,B,sI,pins,σ,H,cls,d,rfl,I,gr,up,sky,na,os,ag,w⟩:=x
  have frames:X.A.frames=some (X.env :: X.outer):=I.ok.frames.trans (congrArg some hs)
  have hex':∀ b,b ∉ X.ex:=fun b hb=>by rw [hex] at hb; cases hb
  have away:∀ b o,X.s_0.heap.get? b=some o→b ∉ X.fs→b ∉ frs X.stack:=fun b o e hb hm=>by
    cases List.mem_cons.mp (I.stkSub b hm) with
    | inl z =>
      have l1:=Heap.lt_size e
      have l2:=I.ok.above
      rw [z] at l1
      exact Nat.lt_irrefl _ (Nat.lt_of_lt_of_le l1 l2)
    | inr z=>exact hb z
  have ends:∀ h',HandSPX.FlyingZ B X.outer a (Zq B H cls d) h'→s'.heap.UpToSlots h'→CQ X.prog X.w X.outer X.H_0 X.s_0 E (.ref a) { s' with heap:=h' }:=fun h' fl up'=>by
    have ub:UB (frs X.outer) X.H_0 H X.s_0.heap B h':=by
      refine ⟨fun b o e n hb=>gr b o (I.base.keep b o e n hb (hex' b)) (away b o e hb),fun b o e hb=>?_,fun b o e n=>I.base.free b o e n (hex' b),fun b o e hb=>?_,I.base.tups,I.base.frzs,I.base.tbls⟩
      · obtain ⟨_,o0,e0,notF⟩:=I.ok.funs.mem hb
        obtain rfl:o0=o:=by rw [e] at e0; cases e0; rfl
        obtain ⟨l1,q1⟩:=I.base.slot b o0 e (I.ok.frf b hb) hb (hex' b)
        obtain ⟨l2,q2⟩:=up b _ q1 notF
        exact up' b _ q2 notF |>.elim fun l3 q3=>⟨l3,q3⟩
      · obtain ⟨o',q1⟩:=I.base.there b o e (hex' b)
        exact ⟨o',gr b o' q1 (away b o e hb)⟩
    exact ⟨a,B,H,cls,d,rfl,fl,I.inGround gr,ub,na,os.trans I.os,ag,hW _ _ _ _ w⟩
  rw [hs] at sky
  rcases sky with ⟨b1,b2,b3,oe,vs,b4,b5,b6,b7⟩ | fl | hd
  · exact PXN.leaving_firstZ zq_steady frames b3 hf b4 b1 b2 b6 b7 b5 ends
  · exact PXN.leaves_onZ zq_steady frames hf fl ends
  · exact HandSPX.leaves_heldZ hf hd ends
theorem tk_of (hs:X.stack=X.env :: X.outer) (hf:X.env.frame=some X.env.locals) (hex:X.ex=[]) {E₁:Value→Shared→Prop}
    (hx:X.xe=fun e s'=>wpAny (model X.prog X.w) X.A (leaving X.env e) (fun _ s''=>CQ X.prog X.w X.outer X.H_0 X.s_0 E e s'') E₁ s'):Tk X (fun cls d _ H=>E cls d H):=fun u s' x=>by
  rw [hx]
  exact QX.leave (W:=fun cls d _ H=>E cls d H) hs hf hex (fun _ _ _ _ h=>h) x
theorem passAt (tk:Tk X W) (σ:L2.St):PassesAt (CQ X.prog X.w) X σ (WE W σ):=fun _ _ _ e s' I c=>tk e s' (of_call I (fun _ _ _ h=>h) c)
theorem tk0 {X:Cx}:Tk X (fun _ _ _ _=>False):=fun _ _ ⟨_,_,_,_,_,_,_,_,x⟩=>x.wish.elim
theorem ps_raiseQ {e:Expr} {t:L2.St→Hp→XK→Prop} {pos:Pos} (hc:X.calm=true) (tk:Tk X W) (he:L2N.PMk X e t):PS X (.Raise (some e) none pos) (fun _ σ H=>t σ H fun cls d H'=>W cls d σ H'):=by
  refine ⟨fun pins s σ H D I h=>?_⟩
  show wpAny _ _ (do standAt pos; raiseStmt X.env (some (do let v ← eval e X.env; standAt pos; pure v)) none) _ _ _
  refine wpAny_bind (wpAny_standAt (raise_made (I.ok.hd hc) (wpAny_bind (thn (he pins s σ H _ I h) fun u s1 hu=>wpAny_bind (wpAny_standAt (wpAny_pure ?_))))))
  obtain ⟨a,oe,vs,s2,H',cls,d,rfl,J,k,hne,ha,hz,hd,h1,na,os,ag,r,q⟩:=hu
  have L:=r (model X.prog X.w) s1.heap (J.kIn.keeps k)
  exact ⟨a,oe,vs,cls,rfl,ha,hz.1,hd,h1,L.1,L.2,tk _ _ (born J k hne ha hz.zc (ctx_none hz) hd h1 na os ag q)⟩
end
end Xq
namespace Xq
open PySem PySem.Spec PyProof.Rows L2
inductive Hc (h:Heap) (a:Addr):Value→Prop
  | nil:Hc h a .none
  | cons {b:Addr} {ob:Obj} {ws:Array Value} {v:Value} (ne:b ≠ a) (at_:h.get? b=some ob) (da:ob.data = .fields ws) (nx:ws[2]?=some v) (rest:Hc h a v):Hc h a (.ref b)
inductive Pth (h:Heap):Nat→Addr→Addr→Prop
  | here (b:Addr):Pth h 0 b b
  | step {c b c2:Addr} {oc:Obj} {ws:Array Value} {m:Nat}:h.get? c=some oc→oc.data = .fields ws→ws[2]?=some (.ref c2)→Pth h m c2 b→Pth h (m + 1) c b
theorem Pth.on {h:Heap} {m:Nat} {c b b2:Addr} {ob:Obj} {ws:Array Value} (p:Pth h m c b) (e:h.get? b=some ob) (d:ob.data = .fields ws) (n:ws[2]?=some (.ref b2)):Pth h (m + 1) c b2:=by
  induction p with
  | here b=>exact .step e d n (.here _)
  | step e1 d1 n1 _ ih=>exact .step e1 d1 n1 (ih e)
section
variable {prog:Program} {w:World} {A:Around} {E:Value→Shared→Prop} {s:Shared}
theorem unchain_code {R:Result→Shared→Prop} {a:Addr} {v:Value} (hc:Hc s.heap a v) :
    ∀ (A:Around) (b c:Addr) (t:Bool) (m:Nat),v = .ref b→Pth s.heap m c b→(t=true→1 ≤ m)→R (.ok (.ret .none)) s→codeAny (model prog w) A (.builtin "proto.unchain" ⟨[.ref a, .ref b, .ref c, .bool t],[]⟩) R s:=by
  induction hc with
  | nil=>intro A b c t m e; cases e
  | @cons b0 ob ws v2 ne0 e1 d1 n1 r1 ih =>
    intro A b c t m e p ht hR
    obtain rfl:b=b0:=by cases e; rfl
    refine codeAny_builtin HotX.entry_unchain ?_
    show wpAny _ _ (field (.ref b) 2 >>= _) _ _ s
    refine wpAny_bind (wpAny_field e1 d1 n1 ?_)
    cases r1 with
    | nil=>exact wpAny_pure hR
    | @cons b2 ob2 ws2 v3 ne e2 d2 n2 r2 =>
      have z1:¬ ((Value.ref b2 == Value.none)=true):=by simp
      have z2:¬ ((Value.ref b2 == Value.ref a)=true):=by simpa using ne
      show wpAny _ _ (if (Value.ref b2 == Value.none)=true then _ else _) _ _ s
      rw [if_neg z1]
      show wpAny _ _ (if (Value.ref b2 == Value.ref a)=true then _ else _) _ _ s
      rw [if_neg z2]
      show wpAny _ _ (if (Value.ref b2 == Value.ref c)=true then _ else _) _ _ s
      by_cases hs:(Value.ref b2 == Value.ref c)=true
      · rw [if_pos hs]
        exact wpAny_bind (wpAny_rule (wpAny_pure hR))
      · rw [if_neg hs]
        have p2:Pth s.heap (m + 1) c b2:=p.on e1 d1 n1
        cases t with
        | false =>
          refine wpAny_bind (wpAny_pure ?_)
          exact wpAny_pure ⟨Code.quiet_builtin _ (by decide +kernel),ih A b2 c true (m + 1) rfl p2 (fun _=>Nat.le_add_left _ _) hR⟩
        | true =>
          cases p with
          | here _=>exact absurd (ht rfl) (by decide)
          | @step _ _ c2 oc wc m2 f1 f2 f3 f4 =>
            refine wpAny_bind (wpAny_field f1 f2 f3 ?_)
            exact wpAny_pure ⟨Code.quiet_builtin _ (by decide +kernel),ih A b2 c2 false _ rfl (f4.on e1 d1 n1) (fun z=>by cases z) hR⟩
theorem raiseNew_chain {α:Type} {a x1:Addr} {oe:Obj} {ws:Array Value} {Q:α→Shared→Prop} (hh:A.handled=some (.ref x1)) (hc:Hc s.heap a (.ref x1)) (ha:s.heap.get? a=some oe) (da:oe.data = .fields ws) (hi:2 < ws.size)
    (hE:E (.ref a) { s with heap:=s.heap.update a (Obj.mapFields (·.setIfInBounds 2 (.ref x1))) }):wpAny (model prog w) A (raiseNew (.ref a):Sem α) Q E s:=by
  have hb:(Value.ref x1 != Value.ref a)=true:=by
    cases hc with
    | cons ne _ _ _ _=>exact HotX.ref_bne ne
  have un:∀ {Q':Value→Shared→Prop},Q' .none s→wpAny (model prog w) A (holding [Value.ref a] (runValue (.builtin "proto.unchain" ⟨[.ref a, .ref x1, .ref x1, .bool false],[]⟩))) Q' E s:=fun q =>
    wpAny_holding (wpAny_runValue (unchain_code hc _ x1 x1 false 0 rfl (.here _) (fun z=>by cases z) q))
  unfold raiseNew
  refine wpAny_bind (wpAny_handled ?_)
  rw [hh]
  first
  | (show wpAny _ _ (if (Value.ref x1 != Value.ref a)=true then _ else _) _ _ _
     rw [if_pos hb]
     exact wpAny_bind (un (wpAny_bind (HotX.chained ha da hi (wpAny_throw hE)))))
  | (show wpAny _ _ (if (Value.ref x1 != Value.ref a)=true then _ else _) _ _ _
     rw [if_pos hb]
     exact wpAny_bind (wpAny_bind (un (HotX.chained ha da hi (wpAny_throw hE)))))
  | (refine wpAny_bind ?_
     show wpAny _ _ (if (Value.ref x1 != Value.ref a)=true then _ else _) _ _ _
     rw [if_pos hb]
     exact wpAny_bind (un (HotX.chained ha da hi (wpAny_throw hE))))
end
inductive Cp (pn:List (Addr × Obj)):Value→Prop
  | nil:Cp pn .none
  | cons {b:Addr} {ob:Obj} {ws:Array Value} {v:Value} (mem:(b,ob) ∈ pn) (da:ob.data = .fields ws) (nx:ws[2]?=some v) (rest:Cp pn v):Cp pn (.ref b)
theorem Cp.mono {pn pn':List (Addr × Obj)} {v:Value} (c:Cp pn v) (k:∀ p ∈ pn,p ∈ pn'):Cp pn' v:=by
  induction c with
  | nil=>exact .nil
  | cons mem da nx _ ih=>exact .cons (k _ mem) da nx ih
section
variable {X:Cx} {pins:List (Addr × Obj)} {σ:L2.St} {H:Hp} {s:Shared}
theorem Cp.heap {h':Heap} {a:Addr} {v:Value} (c:Cp X.pn v) (I:Inv X pins σ H s) (ha:s.heap.get? a=none) (k:∀ b o,b ≠ a→s.heap.get? b=some o→h'.get? b=some o):Hc h' a v:=by
  induction c with
  | nil=>exact .nil
  | @cons b ob ws v mem da nx _ ih =>
    have e:=(I.pin (b,ob) (List.mem_append_left _ mem)).1
    have ne:b ≠ a:=fun z=>by
      have e':s.heap.get? b=some ob:=e
      rw [z,ha] at e'; cases e'
    exact .cons ne (k _ _ ne e) da nx ih
theorem Cp.ground {v:Value} (c:Cp X.pn v) (I:Inv X pins σ H s):Ch (PySem.W.hideAll s.heap (frs X.stack)) H v:=by
  induction c with
  | nil=>exact .nil
  | @cons b ob ws v mem da nx _ ih =>
    obtain ⟨e,fr,nl,nf,_⟩:=I.pin (b,ob) (List.mem_append_left _ mem)
    exact .cons (PySem.W.hideAll_get _ e fun z=>(List.mem_cons.mp (I.stkSub b z)).elim nl nf) da fr nx ih
end
end Xq
namespace Xq
open PySem PySem.Spec PyProof.Rows L2
structure Hot (X:Cx) (a:Addr) (cls:Value):Prop where
  hd:X.A.handled=some (.ref a)
  ch:Cp X.pn (.ref a)
  base:X.base.get? a=none
  obj:∃ (oe:Obj) (vs:Array Value),(a,oe) ∈ X.pn∧oe.cls=cls∧oe.data = .fields vs
abbrev suiteQ (X:Cx) (a:Addr) (pn:List (Addr × Obj)) (xe:Value→Shared→Prop):Cx:={ X with A:=X.A.mark (some (.ref a)),calm:=false,pn:=pn,xe:=xe }
theorem pa_suiteQ {X:Cx} {a:Addr} {pn:List (Addr × Obj)} {xe:Value→Shared→Prop} {e:List Expr} {t:TA} (h:PA (X.suite a pn) e t):PA (suiteQ X a pn xe) e t:=⟨fun pos pins s σ H Q I q=>by
  refine wpAny_mono (h.run pos pins s σ H Q (I.wish fun _ _=>False) q) (fun u s' z=>?_) fun _ _ z=>z.elim
  obtain ⟨v,H',J,r,k⟩:=z
  exact ⟨v,H',Inv.unwish (X:=suiteQ X a pn xe) (E:=fun _ _=>False) J,r,k⟩⟩
theorem pss_suiteQ {X:Cx} {a:Addr} {pn:List (Addr × Obj)} {xe:Value→Shared→Prop} {e:List Stmt} {t:TS} (h:PSs (X.suite a pn) e t):PSs (suiteQ X a pn xe) e t:=⟨fun pins s σ H D I q=>by
  refine wpAny_mono (h.run pins s σ H D (I.wish fun _ _=>False) q) (fun u s' z=>?_) fun _ _ z=>z.elim
  exact SP.unwish (X:=suiteQ X a pn xe) (E:=fun _ _=>False) z⟩
section
variable {X:Cx} {W:WX} {a:Addr} {cls0:Value}
theorem ps_raiseQF {e:Expr} {t:L2.St→Hp→XK→Prop} {i:Nat} {n:Str} {np pos:Pos} (ht:Hot X a cls0) (rz:Raises X cls0) (tk:Tk X W) (he:L2H.PMk5 X e t) (hN:X.N[i]?=some n) (hl:X.env.kindOf n=some .local) (hdb:(n == ("__debug__" : Str))=false) :
    PS X (.Raise (some e) (some (.Name n np)) pos) (fun _ σ H=>σ[i]?=some (some (.ref a))∧t σ H fun cls d H'=>W cls d σ H'):=by
  refine ⟨fun pins s σ H D I ⟨hi,h⟩=>?_⟩
  refine wpAny_Raise_from (thn (he pins s σ H _ I h) fun u s1 hu=>?_)
  obtain ⟨⟨b,oe,vs,sI,H',cls,d,rfl,J,k,hne,hb,hz,hd,h1,nb,os,ag,r,q⟩,h5⟩:=hu
  have J1:Inv X pins σ H' s1:=J.call' os (Un.kept k) (J.hok.kept k) ag (ch:=[]) (fun _ z=>nomatch z)
  have size:4 < vs.size:=h5 b oe vs rfl hb hd
  obtain ⟨m,hn,lk⟩:=J1.loc
  obtain ⟨u,ru,l⟩:=lk i n (.ref a) hN hi (.inl hl)
  obtain rfl:u=Value.ref a:=ru
  have hm:m n=some (.ref a):=by
    rcases l with ⟨_,z⟩ | ⟨z | z,_⟩
    · exact z
    · rw [hl] at z; cases z
    · rw [hl] at z; cases z
  refine wpAny_Name (wpAny_loadName_local J1.ok.kind hl hn hm ?_) hdb
  obtain ⟨oa,va,ma,ca,da⟩:=ht.obj
  have ga:=(J.pin (a,oa) (List.mem_append_left _ ma)).1
  have nab:a ≠ b:=fun z=>by
    have ga':sI.heap.get? a=some oa:=ga
    rw [z,hne] at ga'; cases ga'
  obtain ⟨r1,r2⟩:=r (model X.prog X.w) sI.heap J.kIn
  have R:RaiseAt (model X.prog X.w) sI.heap s1.heap b oe vs cls:=⟨hb,hz.1,hd,k,hne,r1,r2⟩
  obtain ⟨c1,c2⟩:=rz (model X.prog X.w) X.base I.ok.mod.kin
  have Rc:RaiseAt (model X.prog X.w) X.base s1.heap a oa va cls0:=⟨k _ _ ga,ca,da,J1.bk,ht.base,c1,c2⟩
  refine raise_from_tree R size (.inr ⟨a,oa,va,cls0,rfl,X.base,Rc⟩) ?_
  let h2:Heap:=(s1.heap.update b (Obj.mapFields (·.setIfInBounds 3 (.ref a)))).update b (Obj.mapFields (·.setIfInBounds 4 (.bool true)))
  have d3:=Obj.data_mapFields hd (·.setIfInBounds 3 (.ref a))
  have g3:=Heap.get?_update_self (Obj.mapFields (·.setIfInBounds 3 (.ref a))) hb (Obj.isFreed_of_fields d3)
  have d4:=Obj.data_mapFields d3 (·.setIfInBounds 4 (.bool true))
  have g4:h2.get? b=_:=Heap.get?_update_self (Obj.mapFields (·.setIfInBounds 4 (.bool true))) g3 (Obj.isFreed_of_fields d4)
  have old:∀ x o,x ≠ b→s1.heap.get? x=some o→h2.get? x=some o:=fun x o hx e=>by
    show ((s1.heap.update b _).update b _).get? x=_
    rw [Heap.get?_update_other _ _ (Ne.symm hx),Heap.get?_update_other _ _ (Ne.symm hx)]
    exact e
  have f1:((vs.setIfInBounds 3 (Value.ref a)).setIfInBounds 4 (Value.bool true))[1]?=some Value.none:=HotX.set_other (by decide) (HotX.set_other (by decide) h1)
  refine setFlight_fresh (s:={ s1 with heap:=h2 }) g4 d4 f1 ?_
  have big:2 < ((vs.setIfInBounds 3 (Value.ref a)).setIfInBounds 4 (Value.bool true)).size:=by rw [HotX.set_size,HotX.set_size]; omega
  refine raiseNew_chain (s:={ s1 with heap:=h2 }) ht.hd (ht.ch.heap J hne fun x o hx e=>old x o hx (k x o e)) g4 d4 big (tk _ _ ?_)
  have d5:=Obj.data_mapFields d4 (·.setIfInBounds 2 (.ref a))
  refine born J (fun x o e=>?_) hne (Heap.get?_update_self _ g4 (Obj.isFreed_of_fields d5)) ⟨?_,?_⟩ (fun ws e=>?_) d5 (HotX.set_other (by decide) f1) nb os ag q
  · have hx:x ≠ b:=fun z=>by rw [z,hne] at e; cases e
    show (h2.update b _).get? x=some o
    rw [Heap.get?_update_other _ _ (Ne.symm hx)]
    exact old x o hx (k x o e)
  · rw [Obj.cls_mapFields,Obj.cls_mapFields,Obj.cls_mapFields]; exact hz.1
  · rw [HandSPX.dict_mapFields,HandSPX.dict_mapFields,HandSPX.dict_mapFields]; exact hz.2.1
  · rw [d5] at e
    cases e
    refine ⟨.ref a,?_,ht.ch.ground J⟩
    first
      | exact Array.getElem?_setIfInBounds_self_of_lt big
      | simp [Array.getElem?_setIfInBounds,big]
end
end Xq
namespace Xq
open PySem PySem.Spec PyProof.Rows L2
theorem funFrames_to {h h' B:Heap} (k:∀ b o,h.get? b=some o→(∀ vs,o.data ≠ .fields vs)→∃ o',h'.get? b=some o'∧∀ vs,o'.data ≠ .fields vs):∀ {l:List Env},h.FunFrames B l→h'.FunFrames B l
  | [],_=>trivial
  | _ :: _,⟨x1,⟨L,o,x2,x3,x4,x5⟩,x6⟩=>by
    obtain ⟨o',y1,y2⟩:=k L o x4 x5
    exact ⟨x1,⟨L,o',x2,x3,y1,y2⟩,funFrames_to k x6⟩
section
variable {X:Cx} {pins:List (Addr × Obj)} {σ:L2.St} {H:Hp} {sI s:Shared} {B:Heap} {a:Addr} {Z:Obj→Prop} {i:Nat} {n:Str} {pos:Pos}
def Gone (X:Cx) (pins:List (Addr × Obj)) (σ:L2.St) (H:Hp) (B:Heap) (a:Addr) (Z:Obj→Prop) (s':Shared):Prop :=
  ∃ sI',Inv X pins σ H sI'∧(∀ b o,sI'.heap.get? b=some o→b ∉ frs X.stack→B.get? b=some o)∧sI'.heap.UpToSlots s'.heap∧HandSPX.HeldZ B X.stack a Z X.env.locals s'.heap∧s'.os=sI'.os∧AllBare s'.gens
theorem gone_held {M:Model} {A:Around} {E:Value→Shared→Prop} {Q:Unit→Shared→Prop} (hs:X.stack=X.env :: X.outer) (hf:X.env.frame=some X.env.locals) (hN:X.N.Nodup) (hi:X.N[i]?=some n) (hl:X.env.kindOf n=some .local)
    (I:Inv X pins σ H sI) (gr:∀ b o,sI.heap.get? b=some o→b ∉ frs X.stack→B.get? b=some o) (up:sI.heap.UpToSlots s.heap) (hd:HandSPX.HeldZ B X.stack a Z X.env.locals s.heap) (os:s.os=sI.os) (ag:AllBare s.gens)
    (h:∀ s',Gone X pins (σ.set i none) H B a Z s'→Q () s'):wpAny M A (do bindName X.env n .none; unbindBehindTheSuite X.env n pos) Q E s:=by
  have J:Inv X pins σ H s:=I.landed gr hd.1 up os ag
  obtain ⟨m,hn,lk⟩:=id J.loc
  have cls:(X.env.scope.kind == .class || (X.env.scope.kind == .module && X.env.locals != X.env.globals))=false:=by rw [I.ok.kind]; rfl
  refine wpAny_nameGoes_keeps hl hn cls fun h' v hn' same=>h _ ?_
  have inL:X.env.locals ∈ frs X.stack:=by rw [hs]; exact List.mem_filterMap.mpr ⟨X.env,List.mem_cons_self,hf⟩
  obtain ⟨b1,b2,b3,b4⟩:=hd
  have sb:∀ b,b ≠ X.env.locals→h'.get? b=s.heap.get? b:=same.2
  obtain ⟨G,inG,outG⟩:=restrict h' fun b=>(sI.heap.get? b).isSome
  have atG:∀ b o,sI.heap.get? b=some o→G.get? b=h'.get? b:=fun b o e=>inG b (by rw [e]; rfl)
  have fromG:∀ b o,G.get? b=some o→h'.get? b=some o∧∃ o2,sI.heap.get? b=some o2:=fun b o e=>by
    cases q:sI.heap.get? b with
    | none=>rw [outG b (by rw [q]; rfl)] at e; cases e
    | some o2=>exact ⟨(atG b o2 q).symm.trans e,o2,rfl⟩
  have firm:∀ b o,sI.heap.get? b=some o→b ∉ frs X.stack→G.get? b=some o:=fun b o e hb=>by
    rw [atG b o e,sb b fun z=>hb (z ▸ inL)]
    exact b1 b o (gr b o e hb)
  have loose:∀ b o,sI.heap.get? b=some o→(∀ vs,o.data ≠ .fields vs)→b ≠ X.env.locals→∃ sl,G.get? b=some { o with slots:=sl }:=fun b o e nf hb=>by
    rw [atG b o e,sb b hb]
    exact up b o e nf
  have frNF:∀ b ∈ frs X.stack,∀ o,sI.heap.get? b=some o→∀ vs,o.data ≠ .fields vs:=fun b hb o e=>by
    obtain ⟨_,o2,e2,q⟩:=I.stack.mem hb
    rw [e] at e2; cases e2; exact q
  have there:∀ b o,sI.heap.get? b=some o→b ≠ X.env.locals→∃ o',G.get? b=some o':=fun b o e hb=>by
    by_cases hm:b ∈ frs X.stack
    · obtain ⟨sl,q⟩:=loose b o e (frNF b hm o e) hb; exact ⟨_,q⟩
    · exact ⟨o,firm b o e hm⟩
  have below:∀ b o,X.s_0.heap.get? b=some o→b ≠ X.env.locals:=fun b o e=>Nat.ne_of_lt (Nat.lt_of_lt_of_le (Heap.lt_size e) I.ok.above)
  have out:∀ b,b ≠ X.env.locals→b ∉ X.fs→b ∉ frs X.stack:=fun b x y z=>(List.mem_cons.mp (I.stkSub b z)).elim x y
  have gL:G.get? X.env.locals=h'.get? X.env.locals:=by
    obtain ⟨_,⟨oL,_,_,eL,_⟩,_⟩:=id I.loc
    exact atG _ oL eL
  have cellG:∀ y c u,X.env.cells.lookup y=some c→s.heap.IsCell c u→G.IsCell c u:=fun y c u e z=>by
    obtain ⟨_,oc,ec,_⟩:=I.cell y c e
    obtain ⟨o2,e2,d2⟩:=z.sameBut same (I.cne y c e)
    exact ⟨o2,(atG c oc ec).trans e2,d2⟩
  have J':Inv X pins (σ.set i none) H { sI with heap:=G }:=by
    refine ⟨I.ok,I.os,I.bare,⟨fun b o e n hb hx=>firm b o (I.base.keep b o e n hb hx) (out b (below b o e) hb),fun b o e n hb hx=>?_,I.base.free,fun b o e hx=>?_,I.base.tups,I.base.frzs,I.base.tbls⟩,⟨_,hn'.at fun o e=>gL.trans e,fun j y u e1 e2 e3=>?_⟩,fun y c e=>?_,I.free,I.freeC,fun p hp=>?_,fun b ob e=>?_,by rw [List.length_set]; exact I.len⟩
    · obtain ⟨_,o2,e2,nf⟩:=I.ok.funs.mem hb
      rw [e] at e2; cases e2
      obtain ⟨l1,q1⟩:=I.base.slot b o e n hb hx
      obtain ⟨l2,q2⟩:=loose b _ q1 nf (below b o e)
      exact ⟨l2,q2⟩
    · obtain ⟨o2,q⟩:=I.base.there b o e hx
      exact there b o2 q (below b o e)
    · by_cases hj:j=i
      · rw [hj] at e2
        by_cases hlt:i < σ.length
        · rw [List.getElem?_set_self hlt] at e2; cases e2
        · rw [List.getElem?_eq_none (by rw [List.length_set]; omega)] at e2; cases e2
      · rw [List.getElem?_set_ne (Ne.symm hj)] at e2
        obtain ⟨u',r,q⟩:=lk j y u e1 e2 e3
        have yn:y ≠ n:=fun w=>hj (nodup_ix hN e1 (w ▸ hi))
        refine ⟨u',r,q.imp (fun z=>⟨z.1,(if_neg yn).trans z.2⟩) fun z=>⟨z.1,?_⟩⟩
        obtain ⟨c,ec,hcell⟩:=z.2
        exact ⟨c,ec,cellG y c _ ec hcell⟩
    · obtain ⟨u,z⟩:=J.cell y c e
      exact ⟨u,cellG y c u e z⟩
    · obtain ⟨x1,x2,x3,x4,x5⟩:=I.pin p hp
      exact ⟨firm _ _ x1 (out _ x3 x4),x2,x3,x4,x5⟩
    · refine (I.hok b ob e).stay (fun c u hc r=>firm c u r fun hm=>?_) (fun _ q=>q) fun _ _ q=>q
      have z:=I.stkFree c hm
      rcases hc with hc | hc
      · rw [hc,e] at z; cases z
      · rw [hc] at z; cases z
  refine ⟨{ sI with heap:=G },J',fun b o e hb=>?_,Heap.UpToSlots.of_keeps fun b o e=>(fromG b o e).1,⟨fun b o e=>?_,b2,funFrames_to (fun b o e nf=>?_) b3,?_⟩,os,ag⟩
  · obtain ⟨e1,o2,e2⟩:=fromG b o e
    have q:=gr b o2 e2 hb
    rw [sb b fun z=>hb (z ▸ inL),b1 b o2 q] at e1
    cases e1; exact q
  · have ne:b ≠ X.env.locals:=fun z=>by
      obtain ⟨q,_⟩:=b3.mem inL
      rw [← z,e] at q; cases q
    exact (sb b ne).trans (b1 b o e)
  · by_cases hb:b=X.env.locals
    · obtain ⟨o2,es,ep,e2,d2,_⟩:=hn'
      rw [hb]
      exact ⟨o2,e2,fun vs z=>by rw [d2] at z; cases z⟩
    · exact ⟨o,(sb b hb).trans e,nf⟩
  · obtain ⟨oe,vs,T,oT,ts,x1,x2,x3,x4,x5,x6,x7,x8,x9⟩:=b4
    obtain ⟨oL,es,ep,eL,dL,_⟩:=hn
    have notL:∀ {x o ws},s.heap.get? x=some o→o.data = .fields ws→x ≠ X.env.locals:=fun {x o ws} e d z=>by
      rw [z,eL] at e; cases e; rw [dL] at d; cases d
    exact ⟨oe,vs,T,oT,ts,(sb a (notL x1 x3)).trans x1,x2,x3,x4,x5,x6,(sb T (notL x7 x8)).trans x7,x8,x9⟩
end
end Xq
namespace Xq
open PySem PySem.Spec PyProof.Rows L2
theorem Ch.pins {B h:Heap} {H:Hp} {v:Value} (st:B.StaysIn h) (c:Ch B H v):∃ l:List (Addr × Obj),Cp l v∧∀ p ∈ l,h.get? p.1=some p.2∧H p.1=none∧(∃ o,B.get? p.1=some o)∧∀ u,p.2.data ≠ .cell u:=by
  induction c with
  | nil=>exact ⟨[], .nil,fun p hp=>by cases hp⟩
  | @cons b ob ws v at_ da fr nx _ ih =>
    obtain ⟨l,h1,h2⟩:=ih
    refine ⟨(b,ob) :: l, .cons List.mem_cons_self da nx (h1.mono fun p hp=>List.mem_cons_of_mem _ hp),fun p hp=>?_⟩
    rcases List.mem_cons.mp hp with e | hp
    · subst e
      exact ⟨st b ob at_,fr,⟨ob,at_⟩,fun u z=>by have z':ob.data = .cell u:=z; rw [da] at z'; cases z'⟩
    · exact h2 p hp
section
variable {X:Cx} {x n:Str} {c:Value} {i:Nat} {body suite:List Stmt} {b₀:Stmt} {np pos pos':Pos} {tb:WX→TS} {ts:Addr→Value→Option Addr→TS} {Wout:WX}
theorem noted {M:Model} {A:Around} {E₁:Value→Shared→Prop} {s:Shared} {B:Heap} {env:Env} {outer:List Env} {L a:Addr} {Z:Obj→Prop} {Q:Unit→Shared→Prop} (hZ:PXN.Steady1 Z) (hfr:A.frames=some (env :: outer)) (hf:env.frame=some L)
    (k:Sky B (env :: outer) a Z L s.heap) (hQ:∀ h',HandSPX.HeldZ B (env :: outer) a Z L h'→s.heap.UpToSlots h'→Q () { s with heap:=h' }):wpAny M A (noteFrame (.ref a) env) Q E₁ s:=by
  rcases k with ⟨y1,y2,y3,oe,vs,y4,y5,y6,y7⟩ | fl | hh
  · exact PXN.look_newZ hZ hfr y3 hf y4 y1 y2 y6 y7 y5 hQ
  · exact PXN.looks_onZ hZ hfr hf fl hQ
  · exact HandSPX.againZ hf hh.2.2.2 (hQ s.heap hh (Heap.UpToSlots.refl _))
theorem on_from {M:Model} {A:Around} {s:Shared} {B:Heap} {env:Env} {l:List Env} {L a:Addr} {Z:Obj→Prop} {fl:Value} {what:String} {Q:Flow→Shared→Prop} {E:Value→Shared→Prop} (hf:env.frame=some L)
    (b1:B.StaysIn s.heap) (b2:B.get? a=none) (b3:s.heap.FunFrames B l) (b4:HandSPX.TracedZ s.heap B a Z fl) (hE:∀ h',HandSPX.HeldZ B l a Z L h'→s.heap.UpToSlots h'→E (.ref a) { s with heap:=h' }):wpAny M A (passOn what (.ref a) env:Sem Flow) Q E s:=by
  obtain ⟨oe,vs,T,oT,ws,he,hz,hd,h1,hr⟩:=id b4
  unfold PySem.passOn
  refine wpAny_bind (wpAny_field he hd h1 ?_)
  rw [if_neg (show ¬ ((Value.ref T == Value.none)=true) from by simp)]
  have fin:wpAny M A (setFlight (.ref a) env.frame) (fun _ s4=>wpAny M A (throw (.ref a):Sem Flow) Q E s4) E s:=by
    rw [hf]
    exact HandSPX.setFlight_anyZ b1 b3 b4 fun h' k1 k2 k3 k4=>wpAny_throw (hE h' ⟨k1,b2,k2,k3⟩ k4)
  first
    | exact wpAny_bind (wpAny_pure (wpAny_bind fin))
    | exact wpAny_bind fin
theorem ps_try_asQ (hs:X.stack=X.env :: X.outer) (hf:X.env.frame=some X.env.locals) (hN:X.N.Nodup) (hi:X.N[i]?=some n) (hln:X.env.kindOf n=some .local) (hc:Names X x c)
    (hpa:∀ hd:Option Value,PassesOwnAt (model X.prog X.w) (X.A.mark hd) X.A X.env X.xe) (tk:Tk X Wout)
    (hb:∀ (W:WX) (pn:List (Addr × Obj)) (xe:Value→Shared→Prop),Tk (X.tr pn xe) W→PassesOwn (model X.prog X.w) X.A X.env xe→PSs (X.tr pn xe) body (tb W))
    (hsu:∀ (a:Addr) (oe:Obj) (cls:Value) (d:Option Addr) (pn:List (Addr × Obj)) (xe:Value→Shared→Prop),Zc cls d oe→(∃ vs,oe.data = .fields vs)→Hot (suiteQ X a ((a,oe) :: pn) xe) a cls →
      Tk (suiteQ X a ((a,oe) :: pn) xe) (fun cls d σ H=>Wout cls d (σ.set i none) H)→PSs (suiteQ X a ((a,oe) :: pn) xe) (b₀ :: suite) (ts a cls d)) :
    PS X (.Try body [.ExceptHandler (some (.Name x np)) (some n) (b₀ :: suite) pos'] [] [] pos) (fun D σ H=>tb (wAs X.K c i ts Wout D) D σ H):=by
  refine ⟨fun pins s σ H D I h=>?_⟩
  have ok:=I.ok
  have frames:X.A.frames=some (X.env :: X.outer):=ok.frames.trans (congrArg some hs)
  have loc:Loc X.env.scope n := .inl hln
  refine wpAny_Try_except ?_
  let xeB:Value→Shared→Prop:=fun e s₁=>wpAny (model X.prog X.w) X.A (noteFrame e X.env) (fun _ s₂=>wpAny (model X.prog X.w) X.A (setFlight e none) (fun _ s₃ =>
    wpAny (model X.prog X.w) X.A (handleBy e X.env [.ExceptHandler (some (.Name x np)) (some n) (b₀ :: suite) pos']) (SP X pins D) X.xe s₃) X.xe s₂) X.xe s₁
  refine wpAny_mono ((hb (wAs X.K c i ts Wout D) (X.pn++pins) xeB (fun u s' up0=>?_) PassesOwn.looking).run [] s σ H D (I.toTry _) h) (fun f s1 hsp=>?_) (fun e s1 he=>he)
  · obtain ⟨a,B,sI,pins',σ1,H1,cls,d,rfl,J0,gr,up,sky0,na,os,ag,b,hb1,hyes,hno⟩:=up0
    have J:Inv X pins σ1 H1 sI:=J0.ofTry ok
    have sky:Sky B (X.env :: X.outer) a (Zq B H1 cls d) X.env.locals s'.heap:=by rw [← hs]; exact sky0
    show wpAny (model X.prog X.w) X.A (noteFrame (.ref a) X.env) _ _ _
    refine L2N.Sky.land zq_steady frames hf sky fun h3 fl3 up3=>?_
    have Y12:∀ h4,HandSPX.FlyingZ B (X.env :: X.outer) a (Zq B H1 cls d) h4→s'.heap.UpToSlots h4→∀ (xe:Value→Shared→Prop),∃ oe pn,(∀ p ∈ X.pn++pins,p ∈ pn)∧Zq B H1 cls d oe∧(∃ vs,oe.data = .fields vs)∧h4.get? a=some oe∧Inv (suiteQ X a ((a,oe) :: pn) xe) [] σ1 H1 { s' with heap:=h4 }∧Hot (suiteQ X a ((a,oe) :: pn) xe) a cls:=by
      intro h4 fl4 up4 xe
      have J4:Inv X pins σ1 H1 { s' with heap:=h4 }:=J.landed gr fl4.1 (up.trans up4) os ag
      obtain ⟨oe,vs,he,hz,hd⟩:=fl4.there
      obtain ⟨v,hv,cv⟩:=hz.2 vs hd
      obtain ⟨l,cl,hl⟩:=cv.pins fl4.1
      have notFr:∀ b,b ∈ frs (X.env :: X.outer)→B.get? b=none:=fun b hb=>(fl4.2.2.1.mem hb).1
      have aFr:a ∉ frs (X.env :: X.outer):=fun hm=>by
        obtain ⟨_,o2,e2,q⟩:=fl4.2.2.1.mem hm
        rw [he] at e2; cases e2
        exact q _ hd
      have isL:X.env.locals ∈ frs (X.env :: X.outer):=List.mem_filterMap.mpr ⟨X.env,List.mem_cons_self,hf⟩
      have inF:∀ b,b ∈ X.fs→b ∈ frs (X.env :: X.outer):=fun b hb=>by
        obtain ⟨e,m,q⟩:=List.mem_filterMap.mp hb
        exact List.mem_filterMap.mpr ⟨e,List.mem_cons_of_mem _ m,q⟩
      refine ⟨oe,l++(X.pn++pins),fun p hp=>List.mem_append_right _ hp,hz,⟨vs,hd⟩,he,⟨⟨J4.ok.mod,J4.ok.kind,J4.ok.glob,J4.ok.blt,J4.ok.above,J4.ok.inj,J4.ok.has,J4.ok.cab,(fun z=>absurd (show false=true from z) Bool.false_ne_true),J4.ok.frames,J4.ok.stk,J4.ok.exf,J4.ok.bs,J4.ok.bsz,J4.ok.noex,J4.ok.exfs,J4.ok.funs,J4.ok.frf⟩,J4.os,J4.bare,J4.base,J4.loc,J4.cell,J4.free,J4.freeC,fun p hp=>?_,J4.hok,J4.len⟩,⟨rfl,?_,?_,oe,vs,List.mem_cons_self,hz.1.1,hd⟩⟩
      · have hp':p ∈ (a,oe) :: (l++(X.pn++pins)):=by rw [List.append_nil] at hp; exact hp
        rcases List.mem_cons.mp hp' with e | hp'
        · subst e
          exact ⟨he,na,fun z=>aFr (by rw [show a=X.env.locals from z]; exact isL),fun z=>aFr (inF _ z),fun u z=>by have z':oe.data = .cell u:=z; rw [hd] at z'; cases z'⟩
        · rcases List.mem_append.mp hp' with hp' | hp'
          · obtain ⟨y1,y2,⟨o,y3⟩,y4⟩:=hl p hp'
            refine ⟨y1,y2,(?_:p.1 ≠ X.env.locals),(?_:p.1 ∉ X.fs),y4⟩
            · intro z
              rw [z,notFr _ isL] at y3
              cases y3
            · intro z
              rw [notFr _ (inF _ z)] at y3
              cases y3
          · exact J4.pin p hp'
      · exact .cons List.mem_cons_self hd hv (cl.mono fun p hp=>List.mem_cons_of_mem _ (List.mem_append_left _ hp))
      · rcases q:X.base.get? a with _ | o
        · rfl
        · have q1:=J.bk a o q
          have q2:a ∉ frs X.stack:=by rw [hs]; exact aFr
          have q3:=gr a o q1 q2
          rw [fl4.2.1] at q3; cases q3
    obtain ⟨oe3,pn3,_,hz3,_,he3,S3,_⟩:=Y12 h3 fl3 up3 fun _ _=>False
    refine wpAny_handleBy_cons (codeAny_handlers_test ?_) (by intro q; cases q)
    have LT:PySem.W.Looks (model X.prog X.w) h3 (typeOf (.ref a)) cls:=fun A Q E s k q=>wpAny_typeOf_ref (k _ _ he3) (by rw [hz3.1.1]; exact q)
    have LM:=PySem.W.exm_one (M:=model X.prog X.w) S3.kIn LT hb1
    have test:∀ {Q E:Value→Shared→Prop},Q c { s' with heap:=h3 }→wpAny (model X.prog X.w) (X.A.mark (some (.ref a))) (eval (.Name x np) X.env) Q E { s' with heap:=h3 }:=fun {Q E} q=>by
      obtain ⟨g1,g2,g3 | ⟨g3,g4,g5⟩⟩:=hc
      · exact ld_glob (X:=suiteQ X a ((a,oe3) :: pn3) fun _ _=>False) S3 g1 g3 q g2
      · exact ld_blt (X:=suiteQ X a ((a,oe3) :: pn3) fun _ _=>False) S3 g1 g3 g4 q g5 g2
    refine test (LM.here ?_)
    cases b with
    | false =>
      show wpAny _ X.A (handleBy (.ref a) X.env []) _ _ _
      refine wpAny_handleBy_nil ?_
      obtain ⟨k1,k2,k3,k4⟩:=id fl3
      exact on_from (s:={ s' with heap:=h3 }) hf k1 k2 k3 k4 fun h4 hh4 up4=>tk _ _ ⟨a,B,sI,pins,σ1,H1,cls,d,rfl,J,gr,(up.trans up3).trans up4, .inr (.inr (by rw [hs]; exact hh4)),na,os,ag,hno rfl⟩
    | true =>
      refine codeAny_handlers_suite_as ?_
      refine HandSPX.lands_againZ fl3 fun h4 fl4 up4=>?_
      obtain ⟨oe,pn,sub,hz,hd,he,S4,hot⟩:=Y12 h4 fl4 (up3.trans up4) (AsSuiteRaised (model X.prog X.w) (X.A.mark (some (.ref a))) X.env n pos' (notedBy (model X.prog X.w) (X.A.mark (some (.ref a))) X.env (cameBackBy (model X.prog X.w) X.A X.env X.xe)))
      have back:∀ {xe σ2 H2 s2 pin2},Inv (suiteQ X a ((a,oe) :: pn) xe) pin2 σ2 H2 s2→Inv X pins σ2 H2 s2:=fun {xe σ2 H2 s2 pin2} K =>
        ⟨ok,K.os,K.bare,K.base,K.loc,K.cell,K.free,K.freeC,fun p hp=>K.pin p (List.mem_append_left _ (List.mem_cons_of_mem _ (sub p hp))),K.hok,K.len⟩
      refine store_ok (X:=suiteQ X a ((a,oe) :: pn) _) (v := .ref a) S4 hN hi loc rfl (fun s5 S5=>?_) (.inr hln)
      have tkS:Tk (suiteQ X a ((a,oe) :: pn) (AsSuiteRaised (model X.prog X.w) (X.A.mark (some (.ref a))) X.env n pos' (notedBy (model X.prog X.w) (X.A.mark (some (.ref a))) X.env (cameBackBy (model X.prog X.w) X.A X.env X.xe)))) (fun cls d σ H=>Wout cls d (σ.set i none) H):=fun u2 s2 x2=>by
        obtain ⟨a2,B2,sI2,pn2,σ2,H2,cls2,d2,rfl,I2,gr2,up2,sky2,na2,os2,ag2,w2⟩:=x2
        have I2':=back I2
        have sky3:Sky B2 (X.env :: X.outer) a2 (Zq B2 H2 cls2 d2) X.env.locals s2.heap:=by rw [← hs]; exact sky2
        show wpAny _ _ (noteFrame (.ref a2) X.env) _ _ _
        refine noted zq_steady frames hf sky3 fun h5 hh5 up5=>?_
        refine gone_held (s:={ s2 with heap:=h5 }) (a:=a2) (Z:=Zq B2 H2 cls2 d2) hs hf hN hi hln I2' gr2 (up2.trans up5) (by rw [hs]; exact hh5) os2 ag2 fun s6 g6=>?_
        obtain ⟨sI6,I6,gr6,up6,⟨k1,k2,k3,k4⟩,os6,ag6⟩:=g6
        exact on_from hf k1 k2 k3 k4 fun h7 hh7 up7=>hpa _ _ _ (tk _ _ ⟨a2,B2,sI6,pins,_,H2,cls2,d2,rfl,I6,gr6,up6.trans up7, .inr (.inr hh7),na2,os6,ag6,w2⟩)
      have end_:∀ {σ6:L2.St} {H6:Hp} {s6:Shared} {Q:Shared→Prop},Inv (suiteQ X a ((a,oe) :: pn) (AsSuiteRaised (model X.prog X.w) (X.A.mark (some (.ref a))) X.env n pos' (notedBy (model X.prog X.w) (X.A.mark (some (.ref a))) X.env (cameBackBy (model X.prog X.w) X.A X.env X.xe)))) [] σ6 H6 s6→(∀ s7,Inv X pins (σ6.set i none) H6 s7→Q s7) →
          wpAny (model X.prog X.w) X.A (do bindName X.env n .none; unbindBehindTheSuite X.env n pos') (fun _ s7=>Q s7) X.xe s6:=fun {σ6 H6 s6 Q} S6 hq=>gone_ok (back S6) hN hi hln hq
      refine wpAny_mono ((hsu a oe cls d pn _ hz.1 hd hot tkS).run [] s5 _ H1 _ S5 (hyes rfl a na)) (fun f s6 hsp=>?_) (fun _ _ z=>z)
      cases f with
      | ret u =>
        obtain ⟨v6,σ6,H6,S6,r6,q6⟩:=hsp
        exact end_ S6 fun s7 J7=>⟨_,_,_,J7,r6,q6⟩
      | next=>obtain ⟨σ6,H6,S6,q6⟩:=hsp; exact end_ S6 fun s7 J7=>⟨_,_,J7,q6⟩
      | brk=>obtain ⟨σ6,H6,S6,q6⟩:=hsp; exact end_ S6 fun s7 J7=>⟨_,_,J7,q6⟩
      | cont=>obtain ⟨σ6,H6,S6,q6⟩:=hsp; exact end_ S6 fun s7 J7=>⟨_,_,J7,q6⟩
  · cases f with
    | ret u=>obtain ⟨v,σ2,H2,K,r,q⟩:=hsp; exact ⟨v,σ2,H2,K.ofTry ok,r,q⟩
    | next=>obtain ⟨σ2,H2,K,q⟩:=hsp; exact wpAny_execs_nil ⟨σ2,H2,K.ofTry ok,q⟩
    | brk=>obtain ⟨σ2,H2,K,q⟩:=hsp; exact ⟨σ2,H2,K.ofTry ok,q⟩
    | cont=>obtain ⟨σ2,H2,K,q⟩:=hsp; exact ⟨σ2,H2,K.ofTry ok,q⟩
end
end Xq
namespace Bv
open PySem PySem.Spec L2
open PyProof.Rows hiding St
variable [HasW]
structure FnG (P:Program) (w:World) (K:PySem.W.Frag) (mg:Str→Option Value) (base:Heap) (k:Nat) (f:Addr) (fd:FuncData) (ps:List Str) (sp:Sp):Prop where
  len:∀ vs H Q E,sp vs H Q E→vs.length=ps.length
  run:∀ (A:Around) (outer:List Env) (s:Shared) (H:Hp) (as:Args) (us:List Value) (vs:List V) (Q:VK) (E:XK),A.guards=some []→Room k A→Env0 P w K mg base A outer s H→BindsTo s fd as (ps.zip us)→Vals vs us→sp vs H Q E →
    codeAny (model P w) A (.call (.ref f) as) (CR (Xq.CQ P w) outer P w H s Q E) s
theorem Y9n {A:Around} {C:Addr} {us:List Value} {kw:List (Str × Value)} (h:A.guards=some []):(A.under (.builtin "type.__call__" ⟨.ref C :: us,kw⟩)).guards=some []:=by
  have e:(Code.builtin "type.__call__" ⟨.ref C :: us,kw⟩).guards=[]:=by first | rfl | simp [Code.guards,Code.isGuard,guardIds]
  show pushGuards (Code.builtin "type.__call__" ⟨.ref C :: us,kw⟩).guards A.guards=some []
  rw [e]
  exact h
section
variable {P:Program} {w:World} {K:PySem.W.Frag} {mg:Str→Option Value} {base:Heap} {x qual:Str} {pa:Arguments} {bd:List Stmt} {sc:Scope} {dl:List V} {kw:List (Str × V)} {f:Addr} {fd:FuncData} {N ps:List Str} {k:Nat} {sp:Sp}
abbrev cxB (P:Program) (w:World) (K:PySem.W.Frag) (mg:Str→Option Value) (base:Heap) (N:List Str) (qual:Str) (sc:Scope) (f:Addr) (cdv:Value) (A:Around) (outer:List Env) (s:Shared) (H:Hp) (E:XK):Cx :=
  cxOf (Xq.CQ P w) P w K mg base N qual sc f cdv A outer s H E
theorem FnG.of (F:FunD K x qual pa bd sc dl kw f fd) (S:FnScope N ps sc) (len:∀ vs H Q E,sp vs H Q E→vs.length=ps.length)
    (body:∀ (cdv:Value) (A:Around) (outer:List Env) (s:Shared) (H:Hp) (vs:List V) (Q:VK) (E:XK),A.guards=some []→Room k (A.deeper (envOfC qual sc s.heap.objs.size f cdv))→sp vs H Q E →
      ∃ t,PSs (cxB P w K mg base N qual sc f cdv A outer s H E) bd t∧t { nx:=fun _ H'=>Q .non H',rt:=Q } (L2.start N vs) H):FnG P w K mg base (k + 1) f fd ps sp:=by
  obtain ⟨oc,od,dV,kV,doc,pm,an,cdv,ct,osl,rfl,look,code,_,_⟩:=F.ex
  refine ⟨len,fun A outer s H as us vs Q E gu room e0 binds rel hsp=>?_⟩
  have inK:K.In s.heap:=e0.mod.kin.keeps fun b o q=>(e0.bs b o q).1
  have nolim:s.heap.NoLimit:=e0.mod.nolimit.keeps fun b o q=>(e0.bs b o q).1
  refine codeAny_call_function room.depth (inK _ _ look) rfl S.co S.gen rfl (PySem.W.codeRec_of inK code) (binds _ _ _ _ ?_)
  refine wpAny_newFunctionEnv_cells S.kind (fun ⟨n,v⟩ m=>?_) fun env ee s1 z=>?_
  · rcases S.par n (List.of_mem_zip m).1 with q | q
    · exact .inl q
    · exact .inr ⟨q,PySem.W.cellsFrom_some _ _ _ (.inl q)⟩
  · subst ee
    refine ⟨nolim.keeps z.toInCall.keep,codeAny_func ?_⟩
    obtain ⟨t,run,q⟩:=body cdv A outer s H vs Q E gu (room.deeper _) hsp
    have I:Inv (cxB P w K mg base N qual sc f cdv A outer s H E) [] (L2.start N vs) H s1:=inv_start S room.hd e0 (len _ _ _ _ hsp) rel z
    refine wpAny_mono (run.run [] s1 (L2.start N vs) H _ I q) (fun fl s' y=>?_) fun _ _ y=>y
    cases fl with
    | ret u=>obtain ⟨v,σ',H',J,rv,q⟩:=y; exact ⟨v,H',J.os,J.bare,J.base,J.hok,rv,q⟩
    | next=>obtain ⟨σ',H',J,q⟩:=y; exact ⟨.non,H',J.os,J.bare,J.base,J.hok,rfl,q⟩
    | brk=>obtain ⟨_,_,_,q⟩:=y; exact (show False from q).elim
    | cont=>obtain ⟨_,_,_,q⟩:=y; exact (show False from q).elim
end
theorem Y30 {X:Cx} {k:Nat} {f:Addr} {fd:FuncData} {ps:List Str} {sp:Sp} {dvs:List V} {ds:List Value} {E:St→XK} {pins:List (Addr × Obj)} {σ:St} {H:Hp} {s:Shared} {Q:VK} {us:List Value} {vs:List V} (F:FnG X.prog X.w X.K X.mg X.base k f fd ps sp) (gu:X.A.guards=some []) (room:Room k X.A) (hb:Binds X.K fd ps ds) (hd:Vals dvs ds) (hx:PassesAt (Xq.CQ X.prog X.w) X σ (E σ))
    (I:Inv X pins σ H s) (r:Vals vs us) (h:sp (vs++dvs) H Q (E σ)):codeAny (model X.prog X.w) X.A (.call (.ref f) ⟨us,[]⟩) (wants (EP X pins σ Q) X.xe) s:=by
  have rel:=r.append hd
  have many:(us++ds).length=ps.length:=rel.length.symm.trans (F.len _ _ _ _ h)
  refine codeAny_mono (F.run X.A X.stack s H ⟨us,[]⟩ (us++ds) (vs++dvs) Q (E σ) gu room I.env0 (hb s us I.kIn many) rel h) fun y s' z=>?_
  cases y with
  | error e=>exact hx pins H s e s' I z
  | ok fl =>
    cases fl with
    | ret u=>exact I.after z
    | next=>exact z.elim
    | brk=>exact z.elim
    | cont=>exact z.elim
omit [HasW] in
theorem Y54 {P:Program} {w:World} {K:PySem.W.Frag} {mg mb:Str→Option Value} {k:Nat} {fa a:Addr} {fd:FuncData} {x:Str} {sp:Sp} {s1:Shared} {vs:List Value} {ns:List Int} (KX:K.In s1.heap) (hm:s1.heap.Ns mainGlobals mg) (hb:s1.heap.Ns builtinsNs mb) (hbb:∀ x:Str,x ≠ "__name__" → mb x=bootBuiltins x)
    (lim:s1.heap.NoLimit) (hg:s1.gens=#[]) (ha:s1.heap.get? a=some { cls := .type "list",data := .seq vs.toArray }) (hi:IntsAre vs ns) (hl:ns.length ≤ sizeLine) (room:Room k callerA) (F:∀ base:Heap,K.In base→base.Ns mainGlobals mg→FnG P w K mg base k fa fd [x] sp)
    (bind:∀ (s:Shared) (u:Value),BindsTo s fd ⟨[u],[]⟩ [(x,u)]) (hsp:∀ H:Hp,Only H→SqL K H a (ns.map V.int)→sp [.ref a] H (fun v _=>v = .bl true) fun _ _ _=>False) :
    codeAny (model P w) callerA (.call (.ref fa) ⟨[.ref a],[]⟩) (fun r s'=>r = .ok (.ret (.bool true))∧OldK s1.heap s'.heap∧s'.os=s1.os∧AllBare s'.gens) s1:=by
  have main:∀ H:Hp,Only H→SqL K H a (ns.map V.int)→HOk P w H s1.heap→(∀ b,H b ≠ none→b=a)→(H a ≠ none→K.lookup a=none) →
      codeAny (model P w) callerA (.call (.ref fa) ⟨[.ref a],[]⟩) (fun r s'=>r = .ok (.ret (.bool true))∧OldK s1.heap s'.heap∧s'.os=s1.os∧AllBare s'.gens) s1:=fun H only seq hok own out=>by
    have isA:∀ {b:Addr},H b=none ∨ b=a:=fun {b}=>Classical.byCases .inl fun z => .inr (own b z)
    have keepN:∀ {b:Addr} {o:Obj},s1.heap.get? b=some o→H b=none→(hidT s1.heap H).get? b=some o:=fun q n=>hidT_get q n
    have dictN:∀ {b:Addr} {o:Obj} {es:Array DictEntry} {ep:Nat},s1.heap.get? b=some o→o.data = .dict es ep→H b=none:=fun {b o es ep} q d=>isA.resolve_right fun z=>by
      rw [z,ha] at q
      cases q
      exact nomatch (show Data.seq vs.toArray _=Data.dict es ep from d)
    have nsN:∀ {b:Addr} {m:Str→Option Value},s1.heap.Ns b m→(hidT s1.heap H).Ns b m:=fun {b m} ⟨o,es,ep,q,d,r⟩=>⟨o,es,ep,keepN q (dictN q d),d,r⟩
    have inB:K.In (hidT s1.heap H):=fun b o q=>keepN (KX b o q) (Classical.byContradiction fun z=>by
      rw [own b z,out (by rw [← own b z]; exact z)] at q
      cases q)
    have modB:Mod K mg (hidT s1.heap H):=⟨inB,nsN hm,⟨mb,nsN hb,hbb⟩,let ⟨mc,h1,h2⟩:=lim; ⟨mc,nsN h1,h2⟩⟩
    have e0:Env0 P w K mg (hidT s1.heap H) callerA [] s1 H:=⟨rfl,modB,fun b o q=>of_hidT q,Nat.le_of_eq (hidT_size _ _),trivial,fun b z=>absurd (show b ∈ ([]:List Addr) from z) (by simp),hok, .of_eq hg⟩
    refine codeAny_mono ((F _ inB (nsN hm)).run callerA [] s1 H ⟨[.ref a],[]⟩ [.ref a] [.ref a] _ _ rfl room e0 (bind s1 (.ref a)) (.cons rfl .nil) (hsp H only seq)) fun y s' z=>?_
    cases y with
    | error e =>
      obtain ⟨_,_,_,_,_,no⟩:=z
      exact no.wish.elim
    | ok fl =>
      cases fl with
      | next=>exact z.elim
      | brk=>exact z.elim
      | cont=>exact z.elim
      | ret u =>
        obtain ⟨v,H',os,bare,un,hok',rv,q⟩:=z
        cases (show v = .bl true from q)
        cases (show u=Value.bool true from rv)
        refine ⟨rfl,OldK.of_keep fun b o e=>?_,os,bare⟩
        rcases only b with n | ⟨ob,xs,n⟩
        · exact un.keep b o e n (fun z=>absurd (show b ∈ ([]:List Addr) from z) (by simp)) (by simp)
        · obtain ⟨e1,_⟩:=hok b _ n
          obtain ⟨e2,_⟩:=hok' b _ (un.frzs b ob _ n)
          rw [e] at e1
          cases e1
          exact e2
  have rv:=vals_ints hi
  cases own:K.lookup a with
  | some o =>
    have e:=KX a o own
    rw [ha] at e
    cases e
    exact main (fun _=>none) (fun _ => .inl rfl) (.inr ⟨_,vs.toArray,_,own,rfl,rfl,rfl,by rw [List.size_toArray,hi.length]; exact hl,by simpa using rv⟩) (fun b u z=>nomatch (show (none:Option HO)=some u from z)) (fun b z=>absurd rfl z) fun z=>absurd rfl z
  | none =>
    let H0:Hp:=fun b=>if b=a then some (.frz { cls := .type "list",data := .seq vs.toArray } (.lst (ns.map V.int))) else none
    have at0:H0 a=some (.frz { cls := .type "list",data := .seq vs.toArray } (.lst (ns.map V.int))):=if_pos rfl
    have off:∀ b,b ≠ a→H0 b=none:=fun b z=>if_neg z
    refine main H0 (fun b=>?_) (.inl (.inr ⟨_,at0⟩)) (fun b u z=>?_) (fun b z=>Classical.byContradiction fun y=>z (off b y)) fun _=>own
    · by_cases y:b=a
      · exact .inr ⟨_,_,by rw [y]; exact at0⟩
      · exact .inl (off b y)
    · by_cases y:b=a
      · rw [y,at0] at z
        cases z
        rw [y]
        exact ⟨ha,by rw [List.length_map]; exact hl,vs,_,rv,ha⟩
      · rw [off b y] at z; cases z
omit [HasW] in
theorem walk_ofG {l:PySem.W.OpenLaw} {n k:Nat} {q:Program} {loose:List Str} {XP:(Str→Option Value)→Heap→Prop} {YP:World→Heap→Prop} {d:DefRec} {x:Str} (hn:l.most=some n) (hn2:n ≤ sizeLine) (hdf:d.params.defaults=[]) (room:Room k callerA)
    (F:∀ (w:World) (mg:Str→Option Value) (fa:Addr) (h:Heap),YP w h→h.Ns mainGlobals mg→mg d.name=some (.ref fa) →
      ∃ (K:PySem.W.Frag) (fd:FuncData) (sp:Sp),K.In h∧(∀ (s:Shared) (u:Value),BindsTo s fd ⟨[u],[]⟩ [(x,u)])∧(∀ (H:Hp) (a:Addr) (ns:List Int),ns.length ≤ n→Only H→SqL K H a (ns.map V.int)→sp [.ref a] H (fun v _=>v = .bl true) fun _ _ _=>False) ∧
        ∀ base:Heap,K.In base→base.Ns mainGlobals mg→FnG l.prog w K mg base k fa fd [x] sp):PySem.W.WalkO q loose XP YP l.row.toRowW d [] (fun f vs=>PySem.call f vs):=by
  refine Att.attach_call hn hdf fun w s0 s1 mg mb fa o pm cd doc a vs ns G Y _ _ _ hmg hobj hints hlen hg=>?_
  obtain ⟨K,fd,sp,KX,bind,hsp,run⟩:=F w mg fa _ Y G.T.g hmg
  exact Y54 KX G.T.g G.T.b G.T.builtins G.T.nolimit hg hobj hints (Nat.le_trans hlen hn2) room run bind fun H only seq=>hsp H a ns hlen only seq
end Bv
namespace Bv
open PySem PySem.Spec L2
open PyProof.Rows hiding St
variable [HasW]
def okX (k:Nat):X→Bool
  | .d _=>true
  | .r n=>decide (n < k)
def okO (k:Nat):O→Bool
  | .lst xs=>xs.all (okX k)
  | .dic kvs=>kvs.all fun p=>okX k p.2
  | .fdc kvs=>kvs.all fun p=>okX k p.2
  | .tdc kvs=>kvs.all fun p=>okX k p.2
  | .tfc kvs=>kvs.all fun p=>okX k p.2
  | .ins _ fs=>fs.all fun p=>okX k p.2
def cut (k:Nat) (S:Sto):Option Sto:=if (S.take k).all (okO k) then some (S.take k) else none
def Z0y (k:Nat) (S:Sto):X→Option X
  | .d v=>some (.d v)
  | .r n=>if decide (n < k) then some (.r n) else ((X.r n).get S).map .d
def trunc (k:Nat):R X→R X
  | .ok x S=>match Z0y k S x,cut k S with
    | some y,some T => .ok y T
    | _,_ => .ok x S
  | .err C fs S=>match cut k S with
    | some T => .err C fs T
    | none => .err C fs S
  | .bad => .bad
section
variable {K:PySem.W.Frag} {Z:Wd} {ρ ρ1:List Addr} {S S1 T:Sto} {H H1:Hp}
theorem Z8p {W W':Wd} {x:X} {v:V} (p:ρ <+: ρ1) (m:Mv W H W' H) (h:okX ρ.length x=true) (a:AX K W ρ1 H x v):AX K W' ρ H x v:=by
  cases a with
  | d a=>exact .d (a.mv m)
  | r e =>
    rename_i n a
    have h:n < ρ.length:=of_decide_eq_true h
    obtain ⟨t,rfl⟩:=p
    rw [List.getElem?_append_left h] at e
    exact .r e
theorem Z5t {α β:Type} {F G:α→β→Prop} {f:α→Bool} (hf:∀ a b,f a=true→F a b→G a b):∀ {l:List α} {r:List β},l.all f=true→Paired F l r→Paired G l r
  | _,_,_, .nil => .nil
  | a :: l,_,h, .cons x t=>by
    rw [List.all_cons,Bool.and_eq_true] at h
    exact .cons (hf _ _ h.1 x) (Z5t hf h.2 t)
theorem Y2z (s:Sta K Z ρ S H) (s1:Sta K Z ρ1 S1 H1) (g:Go ρ H ρ1 H1) (h:cut ρ.length S1=some T):Sta K Z ρ T H1∧Go ρ H ρ H1∧Mv (Wn Z ρ1) H1 (Wn Z ρ) H1:=by
  obtain ⟨h1,h2⟩:(S1.take ρ.length).all (okO ρ.length)=true∧T=S1.take ρ.length:=by
    unfold cut at h
    split at h
    · rename_i q; cases h; exact ⟨q,rfl⟩
    · cases h
  subst h2
  have m:Mv (Wn Z ρ1) H1 (Wn Z ρ) H1:=fun a o z q=>⟨fun w=>z (w.elim .inl fun w => .inr (g.pre.subset w)),q⟩
  have hl:ρ.length ≤ S1.length:=by rw [s1.len]; exact g.pre.length_le
  refine ⟨⟨s.nd,fun a z=>⟨(s.z a z).1,(s1.z a z).2⟩,by simp; omega,fun n o a e1 e2=>?_⟩,⟨List.prefix_refl _,fun a o z q=>⟨z,(g.keep a o z q).2⟩,g.fz⟩,m⟩
  have hn:n < ρ.length:=(List.getElem?_eq_some_iff.mp e2).1
  have e3:S1[n]?=some o:=by rw [List.getElem?_take_of_lt hn] at e1; exact e1
  have e4:ρ1[n]?=some a:=by
    obtain ⟨t,rfl⟩:=g.pre
    rw [List.getElem?_append_left hn]; exact e2
  have x:=s1.ob n o a e3 e4
  have ho:okO ρ.length o=true:=(List.all_eq_true.mp h1) o (List.mem_of_getElem? e1)
  cases o with
  | lst xs=>obtain ⟨vs,e,q⟩:=x; exact ⟨vs,e,Z5t (fun _ _=>Z8p g.pre m) ho q⟩
  | dic kvs=>obtain ⟨vs,e,q⟩:=x; exact ⟨vs,e,Z5t (f:=fun p=>okX ρ.length p.2) (fun _ _ h z=>⟨z.1,Z8p g.pre m h z.2⟩) (show (kvs.all fun p=>okX ρ.length p.2)=true from ho) q⟩
  | fdc kvs=>obtain ⟨ob,vs,e,q⟩:=x; exact ⟨ob,vs,e,Z5t (f:=fun p=>okX ρ.length p.2) (fun _ _ h z=>⟨z.1,Z8p g.pre m h z.2⟩) (show (kvs.all fun p=>okX ρ.length p.2)=true from ho) q⟩
  | tdc kvs=>obtain ⟨vs,e,q⟩:=x; exact ⟨vs,e,Z5t (f:=fun p=>okX ρ.length p.2) (fun _ _ h z=>⟨z.1,z.2.1.mv m,Z8p g.pre m h z.2.2⟩) (show (kvs.all fun p=>okX ρ.length p.2)=true from ho) q⟩
  | tfc kvs=>obtain ⟨ob,vs,e,q⟩:=x; exact ⟨ob,vs,e,Z5t (f:=fun p=>okX ρ.length p.2) (fun _ _ h z=>⟨z.1,z.2.1.mv m,Z8p g.pre m h z.2.2⟩) (show (kvs.all fun p=>okX ρ.length p.2)=true from ho) q⟩
  | ins C fs=>obtain ⟨dx,vs,e,q⟩:=x; exact ⟨dx,vs,e,Z5t (f:=fun p=>okX ρ.length p.2) (fun _ _ h z=>⟨z.1,Z8p g.pre m h z.2⟩) (show (fs.all fun p=>okX ρ.length p.2)=true from ho) q⟩
theorem Y9t {x y:X} {v:V} (s:Sta K Z ρ S H) (s1:Sta K Z ρ1 S1 H1) (g:Go ρ H ρ1 H1) (m:Mv (Wn Z ρ1) H1 (Wn Z ρ) H1) (h:Z0y ρ.length S1 x=some y) (a:AX K (Wn Z ρ1) ρ1 H1 x v):AX K (Wn Z ρ) ρ H1 y v:=by
  cases x with
  | d d=>cases h; exact Z8p g.pre m rfl a
  | r n =>
    have h:(if decide (n < ρ.length) then some (X.r n) else ((X.r n).get S1).map .d)=some y:=h
    by_cases hn:n < ρ.length
    · rw [if_pos (decide_eq_true hn)] at h
      cases h
      exact Z8p g.pre m (decide_eq_true hn) a
    · rw [if_neg (by simpa using hn)] at h
      obtain ⟨d,h1,h2⟩:=Option.map_eq_some_iff.mp h
      subst h2
      have w:=a.get s1 h1
      cases a with
      | r e =>
        rename_i b
        have hb:¬ Wn Z ρ b:=fun z=>by
          rcases z with z | z
          · exact (s1.z b z).1 (List.mem_of_getElem? e)
          · obtain ⟨j,hj,e5⟩:=List.getElem_of_mem z
            obtain ⟨t,rfl⟩:=g.pre
            have e6:(ρ++t)[j]?=some b:=by rw [List.getElem?_append_left hj,List.getElem?_eq_getElem hj,e5]
            have hn2:n < (ρ++t).length:=(List.getElem?_eq_some_iff.mp e).1
            have hj2:j < (ρ++t).length:=(List.getElem?_eq_some_iff.mp e6).1
            have:(ρ++t)[n]=(ρ++t)[j]:=by
              rw [List.getElem?_eq_getElem hn2] at e
              rw [List.getElem?_eq_getElem hj2] at e6
              exact Option.some.inj (e.trans e6.symm)
            have:=(List.getElem_inj s1.nd).mp this
            omega
        cases w with
        | av w=>exact .d (w.mv m)
        | lst h hs=>exact .d (.lst hb h (hs.mv m))
        | fdc h hs=>exact .d (.dic hb h (hs.mv m))
theorem Y0r {Wx:WX} {σ:St} {Q:VK} {r:R X} (s:Sta K Z ρ S H) (h:W6 (AX K) K Z ρ H Wx σ Q (trunc S.length r)):W6 (AX K) K Z ρ H Wx σ Q r:=by
  rw [s.len] at h
  cases r with
  | bad=>exact h
  | ok x T =>
    intro ρ1 H1 v s1 g a
    have h:W6 (AX K) K Z ρ H Wx σ Q (match Z0y ρ.length T x,cut ρ.length T with
      | some y,some T => .ok y T
      | _,_ => .ok x T):=h
    cases q1:Z0y ρ.length T x with
    | none=>rw [q1] at h; exact h ρ1 H1 v s1 g a
    | some y =>
      cases q2:cut ρ.length T with
      | none=>rw [q1,q2] at h; exact h ρ1 H1 v s1 g a
      | some T' =>
        rw [q1,q2] at h
        obtain ⟨s2,g2,m⟩:=Y2z s s1 g q2
        exact h ρ H1 v s2 g2 (Y9t s s1 g m q1 a)
  | err C fs T =>
    have h:W6 (AX K) K Z ρ H Wx σ Q (match cut ρ.length T with
      | some T => .err C fs T
      | none => .err C fs T):=h
    cases q2:cut ρ.length T with
    | none=>rw [q2] at h; exact h
    | some T' =>
      rw [q2] at h
      intro ρ1 H1 d s1 g z
      obtain ⟨s2,g2,m⟩:=Y2z s s1 g q2
      refine h ρ H1 d s2 g2 ?_
      rcases z with z | ⟨dd,vs,z1,z2,z3,z4,z5⟩
      · exact .inl z
      · exact .inr ⟨dd,vs,z1,z2,fun w=>z3 (w.elim .inl fun w => .inr (g.pre.subset w)),z4,z5.mv m⟩
end
abbrev wxE (E:XK):WX:=fun c d _ H=>E c d H
def spE (K:PySem.W.Frag) (n:Nat) (g:List X→Sto→R X):Sp:=fun vs H Q E=>vs.length=n∧∃ (Z:Wd) (ρ:List Addr) (xs:List X) (S:Sto),Sta K Z ρ S H∧AXs K (Wn Z ρ) ρ H xs vs∧W6 (AX K) K Z ρ H (wxE E) [] Q (g xs S)
inductive PR where
  | ok (d:D) | err (C:Str) (fs:List (Str × D)) | bad
def X0s (K:PySem.W.Frag) (W:Wd) (H:Hp) (Q:VK) (E:XK):PR→Prop
  | .ok d=>∀ H' v,Same H H'→AV K W H' d v→Q v H'
  | .err C fs=>∀ H' d,Same H H'→X0o K W H H' fs d→E (.ref (He.ga K C)) d H'
  | .bad=>False
def spP (K:PySem.W.Frag) (n:Nat) (g:List D→PR):Sp:=fun vs H Q E=>vs.length=n∧∃ (W:Wd) (ds:List D),(∀ a,W a→∃ o,H a=some o)∧AVs K W H ds vs∧X0s K W H Q E (g ds)
def ev0 (N:Nat) (xs:List X):Ev:=xs.map some++List.replicate (N - xs.length) none
def Z39:RO→R X
  | .go (.nx _) S => .ok (.d .non) S
  | .go (.rt x) S => .ok x S
  | .err C fs _ S => .err C fs S
  | _ => .bad
def Y1f (N:Nat) (mb:MS) (xs:List X) (S:Sto):R X:=trunc S.length (Z39 (mb (ev0 N xs) S))
def Y78 (N:Nat) (mb:MS) (xs:List X) (S:Sto):R X:=Z39 (mb (ev0 N xs) S)
def Z3z:RO→PR
  | .go (.nx _) _ => .ok .non
  | .go (.rp d) _ => .ok d
  | .err C fs _ _ => .err C fs
  | _ => .bad
def Z6v (N:Nat) (mb:MS) (ds:List D):PR:=Z3z (mb (ev0 N (ds.map .d)) [])
theorem Y5t {K:PySem.W.Frag} {W:Wd} {ρ:List Addr} {H:Hp} {N:List Str} {xs:List X} {vs:List V} (a:AXs K W ρ H xs vs):EvOk K W ρ H (ev0 N.length xs) (L2.start N vs):=by
  have hl:xs.length=vs.length:=Paired.length a
  refine ⟨by simp [ev0,L2.start,hl],fun i x q=>?_⟩
  unfold ev0 at q
  by_cases hi:i < xs.length
  · rw [List.getElem?_append_left (by simpa using hi),List.getElem?_map] at q
    obtain ⟨y,h1,h2⟩:=Option.map_eq_some_iff.mp q
    cases h2
    have go:∀ {l:List X} {r:List V} {j:Nat},AXs K W ρ H l r→l[j]?=some x→∃ b,r[j]?=some b∧AX K W ρ H x b:=fun {l r j} p=>by
      induction p generalizing j with
      | nil=>intro z; simp at z
      | cons x _ ih =>
        intro z
        cases j with
        | zero=>simp at z; subst z; exact ⟨_,rfl,x⟩
        | succ n=>simp at z; obtain ⟨b,h1,h2⟩:=ih z; exact ⟨b,by simpa using h1,h2⟩
    obtain ⟨v,h3,h4⟩:=go a h1
    refine ⟨v,?_,h4⟩
    unfold L2.start
    rw [List.getElem?_append_left (by rw [List.length_map,← hl]; exact hi),List.getElem?_map,h3]; rfl
  · rw [List.getElem?_append_right (by simpa using hi)] at q
    rw [List.getElem?_replicate] at q
    split at q <;> cases q
section
variable {P:Program} {w:World} {K:PySem.W.Frag} {mg:Str→Option Value} {base:Heap} {x qual:Str} {pa:Arguments} {bd:List Stmt} {sc:Scope} {dl:List V} {kw:List (Str × V)} {f:Addr} {fd:FuncData} {N ps:List Str} {k:Nat} {mb:MS}
theorem fnE (F:FunD K x qual pa bd sc dl kw f fd) (S:FnScope N ps sc)
    (h:∀ (cdv:Value) (A:Around) (outer:List Env) (s:Shared) (H:Hp) (E:XK),A.guards=some []→Room k (A.deeper (envOfC qual sc s.heap.objs.size f cdv))→MPs (cxB P w K mg base N qual sc f cdv A outer s H E) (wxE E) bd mb) :
    FnG P w K mg base (k + 1) f fd ps (spE K ps.length (Y1f N.length mb)):=FnG.of F S (fun _ _ _ _ z=>z.1) fun cdv A outer s H vs Q E gu hr ⟨hl,Z,ρ,xs,T,st,a,p⟩=>by
  refine ⟨_,h cdv A outer s H E gu hr,Z,ρ,ev0 N.length xs,T,st,Y5t a,?_⟩
  have p:=Y0r st (show W6 (AX K) K Z ρ H (wxE E) [] Q (trunc T.length (Z39 (mb (ev0 N.length xs) T))) from p)
  cases q:mb (ev0 N.length xs) T with
  | bad=>rw [q] at p; exact p
  | err C fs e S'=>rw [q] at p; exact fun ρ' H' σ' d s1 g ev z=>p ρ' H' d s1 g z
  | go o S' =>
    rw [q] at p
    cases o with
    | nx e=>exact fun ρ' H' σ' s1 g ev=>p ρ' H' .non s1 g (.d .non)
    | rt x=>exact p
    | bk e=>exact p.elim
    | ct e=>exact p.elim
    | rp d=>exact p.elim
    | rq d=>exact p.elim
theorem fnR (F:FunD K x qual pa bd sc dl kw f fd) (S:FnScope N ps sc)
    (h:∀ (cdv:Value) (A:Around) (outer:List Env) (s:Shared) (H:Hp) (E:XK),A.guards=some []→Room k (A.deeper (envOfC qual sc s.heap.objs.size f cdv))→MPs (cxB P w K mg base N qual sc f cdv A outer s H E) (wxE E) bd mb) :
    FnG P w K mg base (k + 1) f fd ps (spE K ps.length (Y78 N.length mb)):=FnG.of F S (fun _ _ _ _ z=>z.1) fun cdv A outer s H vs Q E gu hr ⟨hl,Z,ρ,xs,T,st,a,p⟩=>by
  refine ⟨_,h cdv A outer s H E gu hr,Z,ρ,ev0 N.length xs,T,st,Y5t a,?_⟩
  have p:W6 (AX K) K Z ρ H (wxE E) [] Q (Z39 (mb (ev0 N.length xs) T)):=p
  cases q:mb (ev0 N.length xs) T with
  | bad=>rw [q] at p; exact p
  | err C fs e S'=>rw [q] at p; exact fun ρ' H' σ' d s1 g ev z=>p ρ' H' d s1 g z
  | go o S' =>
    rw [q] at p
    cases o with
    | nx e=>exact fun ρ' H' σ' s1 g ev=>p ρ' H' .non s1 g (.d .non)
    | rt x=>exact p
    | bk e=>exact p.elim
    | ct e=>exact p.elim
    | rp d=>exact p.elim
    | rq d=>exact p.elim
theorem fnP (F:FunD K x qual pa bd sc dl kw f fd) (S:FnScope N ps sc)
    (h:∀ (cdv:Value) (A:Around) (outer:List Env) (s:Shared) (H:Hp) (E:XK),A.guards=some []→Room k (A.deeper (envOfC qual sc s.heap.objs.size f cdv))→MPs (cxB P w K mg base N qual sc f cdv A outer s H E) (wxE E) bd mb) :
    FnG P w K mg base (k + 1) f fd ps (spP K ps.length (Z6v N.length mb)):=FnG.of F S (fun _ _ _ _ z=>z.1) fun cdv A outer s H vs Q E gu hr ⟨hl,W,ds,hw,a,p⟩=>by
  have m0:∀ H,Mv W H (Wn W []) H:=fun H a o z q=>⟨fun y=>y.elim z (by simp),q⟩
  have m1:∀ ρ H,Mv (Wn W ρ) H W H:=fun ρ H a o z q=>⟨fun y=>z (.inl y),q⟩
  have st:Sta K W [] [] H:=⟨List.nodup_nil,fun a z=>⟨by simp,hw a z⟩,rfl,fun n o a e1 _=>by simp at e1⟩
  refine ⟨_,h cdv A outer s H E gu hr,W,[],ev0 N.length (ds.map .d),[],st,Y5t (a.mv (m0 H)).axs,?_⟩
  have p:X0s K W H Q E (Z3z (mb (ev0 N.length (ds.map .d)) [])):=p
  cases q:mb (ev0 N.length (ds.map .d)) [] with
  | bad=>rw [q] at p; exact p
  | err C fs e S' =>
    rw [q] at p
    refine fun ρ' H' σ' d s1 g ev z=>p H' d (fun a o q=>(g.keep a o (by simp) q).2) ?_
    rcases z with z | ⟨dd,vs,z1,z2,z3,z4,z5⟩
    · exact .inl z
    · exact .inr ⟨dd,vs,z1,z2,fun w=>z3 (.inl w),z4,z5.mv (m1 _ _)⟩
  | go o S' =>
    rw [q] at p
    cases o with
    | nx e=>exact fun ρ' H' σ' s1 g ev=>p H' .non (fun a o q=>(g.keep a o (by simp) q).2) .non
    | rp d=>exact fun H' v k a=>p H' v (fun b o q=>k b o (by simp) q) a
    | bk e=>exact p.elim
    | ct e=>exact p.elim
    | rt d=>exact p.elim
    | rq d=>exact p.elim
end
end Bv
namespace Bv
open PySem PySem.Spec L2
open PyProof.Rows hiding St
variable [HasW]
mutual
def D.noL:D→Bool
  | .lst _=>false
  | .dic _=>false
  | .scr _=>false
  | .tup ds=>D.noLs ds
  | .obj _ fs=>D.noLf fs
  | _=>true
def D.noLs:List D→Bool
  | []=>true
  | d :: r=>d.noL && D.noLs r
def D.noLf:List (Str × D)→Bool
  | []=>true
  | (_,d) :: r=>d.noL && D.noLf r
end
def Y7a (W W':Wd) (H:Hp):Prop:=∀ a,W a→¬ W' a→(∃ xs,H a=some (.lst xs)) ∨ ∃ ob ks,H a=some (.frz ob (.dK ks))
theorem Y95 {ds:List D} (h:(D.tup ds).noL=true):D.noLs ds=true:=by simpa [D.noL] using h
theorem Y93 {C:Str} {fs:List (Str × D)} (h:(D.obj C fs).noL=true):D.noLf fs=true:=by simpa [D.noL] using h
theorem Y19 {d:D} {r:List D} (h:D.noLs (d :: r)=true):d.noL=true∧D.noLs r=true:=by simpa [D.noLs] using h
theorem Y18 {f:Str} {d:D} {r:List (Str × D)} (h:D.noLf ((f,d) :: r)=true):d.noL=true∧D.noLf r=true:=by simpa [D.noLf] using h
theorem Y92 {ds:List D}:¬ (D.lst ds).noL=true:=by simp [D.noL]
theorem Y91 {ds:List (D × D)}:¬ (D.dic ds).noL=true:=by simp [D.noL]
theorem Y94 {ds:List Int}:¬ (D.scr ds).noL=true:=by simp [D.noL]
section
variable {K:PySem.W.Frag} {W W':Wd} {H:Hp}
mutual
theorem AV.noL (hw:Y7a W W' H):∀ {d:D} {v:V},d.noL=true→AV K W' H d v→AV K W H d v
  | _,_,_, .non => .non
  | _,_,_, .bl b => .bl b
  | _,_,_, .int i => .int i
  | _,_,_, .str x => .str x
  | _,_,_, .gl x => .gl x
  | _,_,n, .tup h hs => .tup (by
      rcases h with ⟨h1,h2⟩ | h
      · refine .inl ⟨fun z=>?_,h2⟩
        rcases hw _ z h1 with ⟨xs,q⟩ | ⟨_,ks,q⟩ <;> (rw [h2] at q; cases q)
      · exact .inr h) (AVs.noL hw (Y95 n) hs)
  | _,_,n, .obj h1 h2 hs => .obj (fun z=>by
      rcases hw _ z h1 with ⟨xs,q⟩ | ⟨_,ks,q⟩ <;> (rw [h2] at q; cases q)) h2 (AVf.noL hw (Y93 n) hs)
  | _,_,n, .lst _ _ _=>(Y92 n).elim
  | _,_,n, .dic _ _ _=>(Y91 n).elim
  | _,_,n, .scr _=>(Y94 n).elim
theorem AVs.noL (hw:Y7a W W' H):∀ {ds:List D} {vs:List V},D.noLs ds=true→AVs K W' H ds vs→AVs K W H ds vs
  | _,_,_, .nil => .nil
  | _,_,n, .cons h hs => .cons (AV.noL hw (Y19 n).1 h) (AVs.noL hw (Y19 n).2 hs)
theorem AVf.noL (hw:Y7a W W' H):∀ {ds:List (Str × D)} {vs:List (Str × V)},D.noLf ds=true→AVf K W' H ds vs→AVf K W H ds vs
  | _,_,_, .nil => .nil
  | _,_,n, .cons h hs => .cons (AV.noL hw (Y18 n).1 h) (AVf.noL hw (Y18 n).2 hs)
end
end
def X.isD:X→Bool
  | .d _=>true
  | .r _=>false
def callP (g:List D→PR) (xs:List X) (S:Sto):R X:=match gets S xs with
  | some ds=>(match g ds with
    | .ok d=>if xs.all X.isD || d.noL then .ok (.d d) S else .bad
    | .err C fs=>if xs.all X.isD || D.noLf fs then .err C fs S else .bad
    | .bad => .bad)
  | none => .bad
section
variable {K:PySem.W.Frag} {Z:Wd} {ρ:List Addr} {S:Sto} {H:Hp}
def X0r (ρ:List Addr) (xs:List X):Wd:=fun a=>∃ n,X.r n ∈ xs∧ρ[n]?=some a
theorem lend (st:Sta K Z ρ S H) (W':Wd) (hs:∀ a,W' a→Wn Z ρ a):∀ {xs:List X} {vs:List V} {ds:List D},(∀ a,X0r ρ xs a→¬ W' a)→AXs K (Wn Z ρ) ρ H xs vs→gets S xs=some ds→AVs K W' H ds vs
  | _,_,_,_, .nil,e=>by cases e; exact .nil
  | x :: r,_,ds,hb, .cons h t,e=>by
    unfold gets at e
    cases q:x.get S with
    | none=>rw [q] at e; cases e
    | some d =>
      cases q2:gets S r with
      | none=>rw [q,q2] at e; cases e
      | some l =>
        rw [q,q2] at e
        cases e
        have m:Mv (Wn Z ρ) H W' H:=fun a o z y=>⟨fun w=>z (hs a w),y⟩
        refine .cons ?_ (lend st W' hs (fun a ⟨n,h1,h2⟩=>hb a ⟨n,List.mem_cons_of_mem _ h1,h2⟩) t q2)
        have w:=h.get st q
        cases h with
        | d h=>cases q; exact h.mv m
        | r h =>
          have nb:=hb _ ⟨_,List.mem_cons_self,h⟩
          cases w with
          | av w=>exact w.mv m
          | lst h hs=>exact .lst nb h (hs.mv m)
          | fdc h hs=>exact .dic nb h (hs.mv m)
theorem Y8t (st:Sta K Z ρ S H):∀ {xs:List X} {ds:List D} {a:Addr},gets S xs=some ds→X0r ρ xs a→(∃ vs,H a=some (.lst vs)) ∨ ∃ ob ks,H a=some (.frz ob (.dK ks))
  | [],_,_,_,⟨n,h,_⟩=>by simp at h
  | x :: r,ds,a,e,⟨n,h,h2⟩=>by
    unfold gets at e
    cases q:x.get S with
    | none=>rw [q] at e; cases e
    | some d =>
      cases q2:gets S r with
      | none=>rw [q,q2] at e; cases e
      | some l =>
        rcases List.mem_cons.mp h with z | z
        · subst z
          have w:=(AX.r (K:=K) (W:=Wn Z ρ) (H:=H) h2).get st q
          have q':(match S[n]? with
            | some (.lst xs)=>(ds? xs).map .lst
            | some (.fdc kvs)=>(ks? kvs).map .dic
            | _=>none)=some d:=q
          cases y:S[n]? with
          | none=>rw [y] at q'; cases q'
          | some o =>
            rw [y] at q'
            have ob:=st.ob n o a y h2
            cases o with
            | lst xs=>obtain ⟨vs,h3,_⟩:=ob; exact .inl ⟨vs,h3⟩
            | fdc xs=>obtain ⟨o,vs,h3,_⟩:=ob; exact .inr ⟨o,vs,h3⟩
            | _=>cases q'
        · exact Y8t st q2 ⟨n,z,h2⟩
theorem Y7q {xs:List X} (h:xs.all X.isD=true) (a:Addr):¬ X0r ρ xs a:=fun ⟨n,h1,_⟩=>by
  have:=List.all_eq_true.mp h _ h1
  cases this
end
end Bv
namespace Bv
open PySem PySem.Spec L2
open PyProof.Rows hiding St
variable [HasW]
section
variable {K:PySem.W.Frag} {Z:Wd} {ρ:List Addr} {S:Sto} {H:Hp}
theorem X2h {g:List D→PR} {Wx:WX} {σ:St} {Q:VK} {xs:List X} {vs:List V} {n:Nat} (st:Sta K Z ρ S H) (a:AXs K (Wn Z ρ) ρ H xs vs) (hn:vs.length=n) (p:W6 (AX K) K Z ρ H Wx σ Q (callP g xs S)):spP K n g vs H Q (WE Wx σ):=by
  unfold callP at p
  cases q:gets S xs with
  | none=>rw [q] at p; exact p.elim
  | some ds =>
    rw [q] at p
    have p:W6 (AX K) K Z ρ H Wx σ Q (match g ds with
      | .ok d=>if xs.all X.isD || d.noL then .ok (.d d) S else .bad
      | .err C fs=>if xs.all X.isD || D.noLf fs then .err C fs S else .bad
      | .bad => .bad):=p
    let W':Wd:=fun a=>Wn Z ρ a∧¬ X0r ρ xs a
    have only:∀ {H':Hp},Same H H'→Y7a (Wn Z ρ) W' H':=fun k a h1 h2=>by
      have:X0r ρ xs a:=Classical.byContradiction fun z=>h2 ⟨h1,z⟩
      rcases Y8t st q this with ⟨vs,h⟩ | ⟨o,vs,h⟩
      · exact .inl ⟨vs,k _ _ h⟩
      · exact .inr ⟨o,vs,k _ _ h⟩
    have none':xs.all X.isD=true→∀ {H':Hp},Mv W' H' (Wn Z ρ) H':=fun hd H' a o z y=>⟨fun w=>z ⟨w,Y7q hd a⟩,y⟩
    refine ⟨hn,W',ds,fun a h=>st.thereW h.1,lend st W' (fun a h=>h.1) (fun a h z=>z.2 h) a q,?_⟩
    cases q2:g ds with
    | bad=>rw [q2] at p; exact p.elim
    | ok d =>
      rw [q2] at p
      have p:W6 (AX K) K Z ρ H Wx σ Q (if xs.all X.isD || d.noL then .ok (.d d) S else .bad):=p
      split at p
      · rename_i hc
        refine fun H' v k a=>p ρ H' v (st.grow k) (Go.grow k) (.d ?_)
        rcases Bool.or_eq_true_iff.mp hc with hc | hc
        · exact a.mv (none' hc)
        · exact a.noL (only k) hc
      · exact p.elim
    | err C fs =>
      rw [q2] at p
      have p:W6 (AX K) K Z ρ H Wx σ Q (if xs.all X.isD || D.noLf fs then .err C fs S else .bad):=p
      split at p
      · rename_i hc
        refine fun H' d k z=>p ρ H' d (st.grow k) (Go.grow k) ?_
        rcases z with z | ⟨dd,vs,z1,z2,z3,z4,z5⟩
        · exact .inl z
        · refine .inr ⟨dd,vs,z1,z2,fun w=>?_,z4,?_⟩
          · obtain ⟨o,e⟩:=st.thereW w
            rw [z2] at e; cases e
          · rcases Bool.or_eq_true_iff.mp hc with hc | hc
            · exact z5.mv (none' hc)
            · exact z5.noL (only k) hc
      · exact p.elim
theorem Y83 {g:List X→Sto→R X} {Wx:WX} {σ:St} {Q:VK} {xs:List X} {vs:List V} {n:Nat} (st:Sta K Z ρ S H) (a:AXs K (Wn Z ρ) ρ H xs vs) (hn:vs.length=n) (p:W6 (AX K) K Z ρ H Wx σ Q (g xs S)):spE K n g vs H Q (WE Wx σ):=by
  refine ⟨hn,Z,ρ,xs,S,st,a,?_⟩
  cases q:g xs S with
  | bad=>rw [q] at p; exact p
  | ok x T=>rw [q] at p; exact p
  | err C fs T=>rw [q] at p; exact p
end
end Bv
namespace Bv
open PySem PySem.Spec L2
open PyProof.Rows hiding St
variable [HasW]
def Y69 (X:Cx) (Wx:WX) (fv:Value) (n:Nat) (g:List Bv.X→Sto→R Bv.X):Prop:=∀ (pins:List (Addr × Obj)) (s:Shared) (σ:St) (H:Hp) (Q:VK) (us:List Value) (vs:List V) (Z:Wd) (ρ:List Addr) (xs:List Bv.X) (S:Sto),
  Inv X pins σ H s→Vals vs us→Sta X.K Z ρ S H→AXs X.K (Wn Z ρ) ρ H xs vs→vs.length=n→W6 (AX X.K) X.K Z ρ H Wx σ Q (g xs S)→codeAny (model X.prog X.w) X.A (.call fv ⟨us,[]⟩) (wants (EP X pins σ Q) X.xe) s
structure Dft (K:PySem.W.Frag) (dxs:List D) (dvs:List V) (ds:List Value):Prop where
  av:∀ W H,AVs K W H dxs dvs
  va:Vals dvs ds
theorem Y20 {K:PySem.W.Frag}:Dft K [] [] []:=⟨fun _ _ => .nil, .nil⟩
def X7 (dxs:List D) (g:List Bv.X→Sto→R Bv.X):List Bv.X→Sto→R Bv.X:=fun xs S=>g (xs++dxs.map .d) S
section
variable {X:Cx} {Wx:WX} {k n:Nat} {f:Addr} {fd:FuncData} {ps:List Str} {dxs:List D} {dvs:List V} {ds:List Value}
theorem X21 {g:List Bv.X→Sto→R Bv.X} (tk:Xq.Tk X Wx) (gu:X.A.guards=some []) (F:FnG X.prog X.w X.K X.mg X.base k f fd ps (spE X.K n g)) (hr:Room k X.A) (hb:Binds X.K fd ps ds) (hd:Dft X.K dxs dvs ds) (hn:n - dvs.length + dvs.length=n:=by rfl) :
    Y69 X Wx (.ref f) (n - dvs.length) (X7 dxs g):=fun pins s σ H Q us vs Z ρ xs S I r st a hl p =>
  Y30 F gu hr hb hd.va (Xq.passAt tk σ) I r (Y83 st (Paired.append a (hd.av _ _).axs) (by rw [List.length_append,hl,hn]) p)
theorem X22 {g:List D→PR} (tk:Xq.Tk X Wx) (gu:X.A.guards=some []) (F:FnG X.prog X.w X.K X.mg X.base k f fd ps (spP X.K n g)) (hr:Room k X.A) (hb:Binds X.K fd ps ds) (hd:Dft X.K dxs dvs ds) (hn:n - dvs.length + dvs.length=n:=by rfl) :
    Y69 X Wx (.ref f) (n - dvs.length) (X7 dxs (callP g)):=fun pins s σ H Q us vs Z ρ xs S I r st a hl p =>
  Y30 F gu hr hb hd.va (Xq.passAt tk σ) I r (X2h st (Paired.append a (hd.av _ _).axs) (by rw [List.length_append,hl,hn]) p)
def fs?:List (Str × Bv.X)→Option (List (Str × D))
  | []=>some []
  | (f,x) :: r=>match x,fs? r with
    | .d v,some l=>some ((f,v) :: l)
    | _,_=>none
def frz (S:Sto) (k:Nat):Option D:=match S[k]? with
  | some (.ins C fs)=>(fs? fs).map (.obj C)
  | _=>none
def mkF (k:Nat):R Bv.X→R Bv.X
  | .ok (.d .non) S=>(match frz S k,cut k S with
    | some d,some T => .ok (.d d) T
    | _,_ => .bad)
  | .ok _ _ => .bad
  | .err C fs S=>trunc k (.err C fs S)
  | .bad => .bad
def made (C:Str) (mk:Nat→R Bv.X→R Bv.X) (g:List Bv.X→Sto→R Bv.X):List Bv.X→Sto→R Bv.X:=fun xs S=>mk S.length (g (.r S.length :: xs) (S++[.ins C []]))
def Mks (mk:Nat→R Bv.X→R Bv.X):Prop:=∀ {K:PySem.W.Frag} {Z:Wd} {ρ:List Addr} {S:Sto} {H H2:Hp} {Wx:WX} {σ:St} {Q:VK} {x:Addr} {r:R Bv.X},Sta K Z ρ S H→H x=none→(∀ a o,H a=some o→H2 a=some o)→Sta K Z (ρ++[x]) (S++[.ins (Str.empty) []]) H2 ∨ True→x ∉ ρ→Go ρ H (ρ++[x]) H2 →
  W6 (AX K) K Z ρ H Wx σ Q (mk S.length r)→W6 (AX K) K Z (ρ++[x]) H2 Wx σ (fun v H3=>v = .non∧Q (.ref x) H3) r
theorem Y8i {K:PySem.W.Frag} {W:Wd} {ρ:List Addr} {H:Hp}:∀ {fs:List (Str × Bv.X)} {vs:List (Str × V)} {l:List (Str × D)},Paired (fun (p:Str × Bv.X) (q:Str × V)=>p.1=q.1∧AX K W ρ H p.2 q.2) fs vs→fs? fs=some l→AVf K W H l vs
  | _,_,_, .nil,e=>by cases e; exact .nil
  | (f,x) :: r,(f',v) :: _,l, .cons h t,e=>by
    cases x with
    | r n=>simp [fs?] at e
    | d d =>
      unfold fs? at e
      cases q:fs? r with
      | none=>rw [q] at e; cases e
      | some l2 =>
        rw [q] at e
        cases e
        obtain ⟨h1,h2⟩:=h
        obtain rfl:f=f':=h1
        cases h2 with
        | d h2=>exact .cons h2 (Y8i t q)
theorem Y9y {K:PySem.W.Frag} {Z:Wd} {ρ:List Addr} {S:Sto} {H H2:Hp} {Wx:WX} {σ:St} {Q Q':VK} {x:Addr} {C:Str} {fs:List (Str × D)} {T:Sto} (st:Sta K Z ρ S H) (k:∀ a o,H a=some o→H2 a=some o) (g:Go ρ H (ρ++[x]) H2)
    (p:W6 (AX K) K Z ρ H Wx σ Q (trunc S.length (.err C fs T))):W6 (AX K) K Z (ρ++[x]) H2 Wx σ Q' (.err C fs T) :=
  Y88.shift g (fun a o h=>⟨o,k a o h⟩) (show Y88 K Z ρ H Wx σ C fs T from Y0r st p)
theorem X1s:Mks mkF:=fun {K Z ρ S H H2 Wx σ Q x r} st hx k _ hn g p=>by
  cases r with
  | bad=>exact p
  | err C fs T=>exact Y9y st k g p
  | ok y T =>
    cases y with
    | r n=>exact p.elim
    | d d =>
      cases d with
      | non =>
        intro ρ1 H1 v s1 g1 a
        have p:W6 (AX K) K Z ρ H Wx σ Q (match frz T S.length,cut S.length T with
          | some d,some T => .ok (.d d) T
          | _,_ => .bad):=p
        cases a with
        | d a =>
          cases a with
          | non =>
            refine ⟨rfl,?_⟩
            cases q1:frz T S.length with
            | none=>rw [q1] at p; exact p.elim
            | some d =>
              cases q2:cut S.length T with
              | none=>rw [q1,q2] at p; exact p.elim
              | some T' =>
                rw [q1,q2] at p
                have gg:=g.trans g1
                have q2':=q2
                rw [st.len] at q2'
                obtain ⟨s2,g2,m⟩:=Y2z st s1 gg q2'
                refine p ρ H1 (.ref x) s2 g2 (.d ?_)
                have ex:ρ1[S.length]?=some x:=by
                  obtain ⟨t,rfl⟩:=g1.pre
                  rw [st.len,List.append_assoc,List.getElem?_append_right (Nat.le_refl _),Nat.sub_self]; rfl
                unfold frz at q1
                cases y:T[S.length]? with
                | none=>rw [y] at q1; cases q1
                | some o =>
                  rw [y] at q1
                  have ob:=s1.ob _ o x y ex
                  cases o with
                  | ins C fs =>
                    obtain ⟨l,h1,h2⟩:=Option.map_eq_some_iff.mp (show (fs? fs).map (D.obj C)=some d from q1)
                    subst h2
                    obtain ⟨dx,vs,h3,h4⟩:=ob
                    refine .obj (fun z=>?_) h3 ((Y8i h4 h1).mv m)
                    rcases z with z | z
                    · exact (s1.z x z).1 (List.mem_of_getElem? ex)
                    · exact hn z
                  | _=>cases q1
      | _=>exact p.elim
theorem Y7h {C:Str} {g:List Bv.X→Sto→R Bv.X} {mk:Nat→R Bv.X→R Bv.X} (hm:Mks mk) (tk:Xq.Tk X Wx) (gu:X.A.guards=some []) (M:Mk X.K (He.ga X.K C) f) (F:FnG X.prog X.w X.K X.mg X.base k f fd ps (spE X.K (n + 1) g)) (hr:Room (k + 1) X.A) (hb:Binds X.K fd ps ds) (hd:Dft X.K dxs dvs ds) (hn:n - dvs.length + dvs.length=n:=by rfl) :
    Y69 X Wx (.ref (He.ga X.K C)) (n - dvs.length) (X7 dxs (made C mk g)):=fun pins s σ H Q us vs Z ρ xs S I r st a hl p=>by
  have I2:=Inv.made (C:=He.ga X.K C) I
  have f1:H (s.heap.objs.size + 1)=none:=I.hok.fresh (Nat.le_succ _)
  have f2:H s.heap.objs.size=none:=I.hok.fresh (Nat.le_refl _)
  have fne:s.heap.objs.size ≠ s.heap.objs.size + 1:=Nat.ne_of_lt (Nat.lt_succ_self _)
  have kk:∀ a o,H a=some o→(upd (upd H s.heap.objs.size (.own (s.heap.objs.size + 1))) (s.heap.objs.size + 1) (.ins (He.ga X.K C) s.heap.objs.size [])) a=some o:=fun a o q=>by
    rw [upd_ne (ne_of_none q f1),upd_ne (ne_of_none q f2)]; exact q
  obtain ⟨st2,g2⟩:=st.push (o' := .ins C []) f1 kk ⟨_,[],upd_same, .nil⟩
  have hx:s.heap.objs.size + 1 ∉ ρ:=fun z=>by
    obtain ⟨m,o,e1,e2⟩:=st.mem z
    obtain ⟨u,q⟩:=(st.ob m o _ e1 e2).there
    rw [f1] at q; cases q
  have p2:=hm st f1 kk (.inr trivial) hx g2 (show W6 (AX X.K) X.K Z ρ H Wx σ Q (mk S.length (g (.r S.length :: (xs++dxs.map .d)) (S++[.ins C []]))) from p)
  have a2:AXs X.K (Wn Z (ρ++[s.heap.objs.size + 1])) (ρ++[s.heap.objs.size + 1]) _ (.r S.length :: (xs++dxs.map .d)) (V.ref (s.heap.objs.size + 1) :: (vs++dvs)) :=
    .cons (.r (by rw [st.len,List.getElem?_append_right (Nat.le_refl _),Nat.sub_self]; rfl)) (Paired.append (a.mv (g2.mv st) g2.pre) (hd.av _ _).axs)
  have hq:=Y83 st2 a2 (n:=n + 1) (by simp only [List.length_cons,List.length_append,hl]; omega) p2
  have r2:Vals (V.ref (s.heap.objs.size + 1) :: (vs++dvs)) (Value.ref (s.heap.objs.size + 1) :: (us++ds)) := .cons rfl (r.append hd.va)
  have hl2:(Value.ref (s.heap.objs.size + 1) :: us++ds).length=ps.length:=by
    have e:=r2.length
    rw [F.len _ _ _ _ hq] at e
    exact e.symm
  refine (make_map (f:=f) I.kIn M.makes M.init (beq_iff_eq.mp M.fn) (codeAny_mono (F.run _ X.stack _ _ ⟨Value.ref (s.heap.objs.size + 1) :: us,[]⟩ (Value.ref (s.heap.objs.size + 1) :: (us++ds)) _ _ (WE Wx σ) (Y9n gu) (hr.make _ us [])
    (I2.env0.make _ us []) (hb _ (Value.ref (s.heap.objs.size + 1) :: us) I2.kIn hl2) r2 hq) fun y s' hq'=>?_))
  cases y with
  | error e=>exact Xq.passAt tk σ pins _ _ e s' I2 hq'
  | ok fl =>
    cases fl with
    | ret u =>
      obtain ⟨v,H',I3,rv,ev,q3⟩:=I2.after hq'
      subst ev
      exact ⟨rv,V.ref (s.heap.objs.size + 1),H',I3,rfl,q3⟩
    | next=>exact False.elim hq'
    | brk=>exact False.elim hq'
    | cont=>exact False.elim hq'
end
end Bv
namespace Bv
open PySem PySem.Spec L2
open PyProof.Rows hiding St
variable [HasW]
def Z8 (g:List Bv.X→Sto→R Bv.X) (ms:MG (List Bv.X)):M:=fun e S=>(ms e S).bind g
def X6 (n:Nat) (g:List Bv.X→Sto→R Bv.X):List Bv.X→Sto→R Bv.X:=fun xs S=>if decide (xs.length=n) then g xs S else .bad
section
variable {X:Cx} {Wx:WX} {n:Nat} {f:Addr} {x:Str} {p pos apos:Pos} {e o:Expr} {es:List Expr} {ms:MG (List Bv.X)} {mo:M} {g:List Bv.X→Sto→R Bv.X}
theorem ari {rel:R Bv.X→Prop} {xs:List Bv.X} {S:Sto} (hb:¬ rel .bad) (h:rel (X6 n g xs S)):xs.length=n∧rel (g xs S):=by
  unfold X6 at h
  by_cases hn:xs.length=n
  · rw [if_pos (decide_eq_true hn)] at h; exact ⟨hn,h⟩
  · rw [if_neg (by simpa using hn)] at h; exact (hb h).elim
theorem V1 (c:Y69 X Wx (.ref f) n g) (hg:Gl X x) (hm:X.mg x=some (.ref f)) (hk:PySem.W.keepIn X.K (.ref f)=true) (ha:MA X Wx (e :: es) ms) (hdb:(x == ("__debug__" : Str))=false:=by decide)
    (he:starEach (e :: es) X.env=(false,eval e X.env) :: starEach es X.env:=by rfl) (hpl:(backTo pos (starEach es X.env)).any (·.1)=false:=by rfl):ME X Wx (.Call (.Name x p) (e :: es) [] pos) (Z8 (X6 n g) ms):=⟨fun pins s σ H Q I ⟨Z,ρ,e,S,st,ev,q⟩=>by
  refine wpAny_Call_Name_kw (ld_glob I hg hm ?_ hdb)
  refine PySem.W.callWith_K (h₀:=X.base) I.ok.mod.kin hk (thn (ha.run pos pins s σ H _ I (W3 (R':=fun vs H1=>∃ (ρ1:List Addr) (xs:List Bv.X) (S1:Sto),Sta X.K Z ρ1 S1 H1∧AXs X.K (Wn Z ρ1) ρ1 H1 xs vs∧W6 (AX X.K) X.K Z ρ1 H1 Wx σ Q (X6 n g xs S1)) st ev q fun ρ1 H1 v xs S1 s1 g1 ev1 a1 p1=>⟨ρ1,xs,S1,s1,a1,p1⟩))
    fun us s1 ⟨vs,H1,I1,r,ρ1,xs,S1,st1,a1,p1⟩=>⟨I1.kIn,?_⟩) he hpl
  obtain ⟨hl,p2⟩:=ari (rel:=W6 (AX X.K) X.K Z ρ1 H1 Wx σ Q) (fun z=>z) p1
  exact wpAny_call (c pins s1 σ H1 Q us vs Z ρ1 xs S1 I1 r st1 a1 (by rw [← Paired.length a1]; exact hl) p2)⟩
def Y5i (K:PySem.W.Frag) (r:List V→Hp→VK→Prop) (g:List Bv.X→Sto→R Bv.X):Prop:=∀ (Z:Wd) (ρ:List Addr) (S:Sto) (H:Hp) (Wx:WX) (σ:St) (xs:List Bv.X) (vs:List V) (Q:VK),Sta K Z ρ S H→AXs K (Wn Z ρ) ρ H xs vs→W6 (AX K) K Z ρ H Wx σ Q (g xs S)→r vs H Q
theorem CallR.or {fv:Value} {r r':List V→Hp→VK→Prop} (h:CallR X fv r) (h':CallR X fv r'):CallR X fv (fun xs H Q=>r xs H Q ∨ r' xs H Q):=fun pins s σ H xs us Q I v q=>q.elim (h pins s σ H xs us Q I v) (h' pins s σ H xs us Q I v)
theorem Z0j {id:String} {r:List V→Hp→VK→Prop} (hc:CallR X (.builtin id) r) (h:Y5i X.K r g) (hg:Gl X x) (hm:X.mg x=none) (ha:MA X Wx (e :: es) ms) (hv:bootBuiltins x=some (.builtin id):=by rfl) (hn:x ≠ "__name__" := by decide) (hdb:(x == ("__debug__" : Str))=false:=by decide)
    (he:starEach (e :: es) X.env=(false,eval e X.env) :: starEach es X.env:=by rfl) (hpl:(backTo pos (starEach es X.env)).any (·.1)=false:=by rfl):ME X Wx (.Call (.Name x p) (e :: es) [] pos) (Z8 g ms):=PE.of (pe_callB hc hg hm hv ha hn hdb he hpl) fun σ H Q ⟨Z,ρ,e,S,st,ev,q⟩ =>
  W3 st ev q fun ρ1 H1 v xs S1 s1 g1 ev1 a1 p1=>h Z ρ1 S1 H1 Wx σ xs v Q s1 a1 p1
theorem Z4i {T:String} {r:List V→Hp→VK→Prop} (hc:CallR X (.type T) r) (h:Y5i X.K r g) (hg:Gl X x) (hm:X.mg x=none) (ha:MA X Wx (e :: es) ms) (hv:bootBuiltins x=some (.type T):=by rfl) (hn:x ≠ "__name__" := by decide) (hdb:(x == ("__debug__" : Str))=false:=by decide)
    (he:starEach (e :: es) X.env=(false,eval e X.env) :: starEach es X.env:=by rfl) (hpl:(backTo pos (starEach es X.env)).any (·.1)=false:=by rfl):ME X Wx (.Call (.Name x p) (e :: es) [] pos) (Z8 g ms):=PE.of (pe_callTy hc hg hm hv ha hn hdb he hpl) fun σ H Q ⟨Z,ρ,e,S,st,ev,q⟩ =>
  W3 st ev q fun ρ1 H1 v xs S1 s1 g1 ev1 a1 p1=>h Z ρ1 S1 H1 Wx σ xs v Q s1 a1 p1
end
def Z0r (f:List Int→Option Int):List Bv.X→Sto→R Bv.X:=fun xs S=>match (ints? xs).bind f with
  | some i => .ok (.d (.int i)) S
  | none => .bad
theorem Z9j {K:PySem.W.Frag} {Z:Wd} {ρ:List Addr} {S:Sto} {H:Hp} {Wx:WX} {σ:St} {Q:VK} {f:List Int→Option Int} {xs:List Bv.X} {vs:List V} (st:Sta K Z ρ S H) (a:AXs K (Wn Z ρ) ρ H xs vs) (h:W6 (AX K) K Z ρ H Wx σ Q (Z0r f xs S)):∃ l i,vs=l.map V.int∧f l=some i∧Q (.int i) H:=by
  unfold Z0r at h
  cases q:(ints? xs).bind f with
  | none=>rw [q] at h; exact h.elim
  | some i =>
    rw [q] at h
    obtain ⟨l,h1,h2⟩:=Option.bind_eq_some_iff.mp q
    exact ⟨l,i,Z82 a h1,h2,W6.ret0 h st (.d (.int i))⟩
def Z33:List Int→Option Int
  | [i]=>some (if i < 0 then -i else i)
  | _=>none
def Z4j:List Int→Option Int
  | [i,j]=>some (if j < i then j else i)
  | _=>none
def Z4h:List Int→Option Int
  | [i,j]=>some (if j > i then j else i)
  | _=>none
section
variable {K:PySem.W.Frag}
theorem X0w:Y5i K (fun xs H Q=>∃ i,xs=[.int i]∧Q (.int (if i < 0 then -i else i)) H) (Z0r Z33):=fun Z ρ S H Wx σ xs vs Q st a h=>by
  obtain ⟨l,i,e1,e2,q⟩:=Z9j st a h
  match l,e2 with
  | [j],e2=>cases e2; exact ⟨j,e1,q⟩
theorem X20:Y5i K (fun xs H Q=>∃ i j,xs=[.int i, .int j]∧Q (.int (if j < i then j else i)) H) (Z0r Z4j):=fun Z ρ S H Wx σ xs vs Q st a h=>by
  obtain ⟨l,i,e1,e2,q⟩:=Z9j st a h
  match l,e2 with
  | [j,k],e2=>cases e2; exact ⟨j,k,e1,q⟩
theorem X2z:Y5i K (fun xs H Q=>∃ i j,xs=[.int i, .int j]∧Q (.int (if j > i then j else i)) H) (Z0r Z4h):=fun Z ρ S H Wx σ xs vs Q st a h=>by
  obtain ⟨l,i,e1,e2,q⟩:=Z9j st a h
  match l,e2 with
  | [j,k],e2=>cases e2; exact ⟨j,k,e1,q⟩
def Z3h:List Bv.X→Sto→R Bv.X
  | [.d (.int i)],S => .ok (.d (.int i)) S
  | [.d (.bl b)],S => .ok (.d (.int (if b then 1 else 0))) S
  | _,_ => .bad
theorem Y6i {W:Wd} {ρ:List Addr} {H:Hp} {d:D} {vs:List V} (a:AXs K W ρ H [.d d] vs):∃ v,vs=[v]∧AV K W H d v:=by
  cases a with
  | cons h t =>
    cases t
    cases h with
    | d h=>exact ⟨_,rfl,h⟩
theorem Y0z:Y5i K (fun xs H Q=>(∃ i,xs=[.int i]∧Q (.int i) H) ∨ ∃ k,xs=[.bl k]∧Q (.int (if k then 1 else 0)) H) Z3h:=fun Z ρ S H Wx σ xs vs Q st a h=>by
  unfold Z3h at h
  split at h
  · rename_i j
    obtain ⟨v,rfl,b⟩:=Y6i a
    have e:v = .int j:=by cases b; rfl
    exact .inl ⟨_,by rw [e],W6.ret0 h st (.d (.int _))⟩
  · rename_i j
    obtain ⟨v,rfl,b⟩:=Y6i a
    have e:v = .bl j:=by cases b; rfl
    exact .inr ⟨_,by rw [e],W6.ret0 h st (.d (.int _))⟩
  · exact h.elim
def Z4r:D→Option Int
  | .str z=>if decide (z.length ≤ sizeLine) then some z.length else none
  | .scr ns=>some ns.length
  | _=>none
def Z3i (S:Sto):Bv.X→Option Int
  | .d (.dic kvs)=>some kvs.length
  | .d d=>match items S (.d d) with
    | some ys=>some ys.length
    | none=>Z4r d
  | .r n=>match S[n]? with
    | some (.lst xs)=>some xs.length
    | some (.dic kvs)=>some kvs.length
    | some (.fdc kvs)=>some kvs.length
    | _=>none
def Z0u:List Bv.X→Sto→R Bv.X
  | [x],S=>(match Z3i S x with
    | some n => .ok (.d (.int n)) S
    | none => .bad)
  | _,_ => .bad
abbrev X17 (K:PySem.W.Frag):List V→Hp→VK→Prop:=fun xs H Q=>((∃ p ys,xs=[.ref p]∧(SqL K H p ys ∨ SqT K H p ys)∧Q (.int ys.length) H) ∨ (∃ z,xs=[.str z]∧z.length ≤ sizeLine∧Q (.int z.length) H)) ∨ ∃ a kvs,xs=[V.ref a]∧Rd H a (.dK kvs)∧Q (.int kvs.length) H
theorem Y4u {X:Cx}:CallR X (.builtin "len") (fun xs H Q=>∃ a kvs,xs=[V.ref a]∧Rd H a (.dK kvs)∧Q (.int kvs.length) H):=fun pins s σ H xs us Q I r h=>by
  obtain ⟨a,kvs,rfl,hd,q⟩:=h
  cases r with
  | cons r t =>
    cases t
    cases (show _=Value.ref a from r)
    exact d_len I hd fun t s' I'=>⟨V.int kvs.length,H,I',⟨t,rfl⟩,q⟩
theorem Z25 {X:Cx}:CallR X (.builtin "len") (X17 X.K):=CallR.or (CallR.or call_len_seq call_len_str) Y4u
theorem AVk.length {W:Wd} {H:Hp}:∀ {ds:List (D × D)} {vs:List (Key × V)},AVk K W H ds vs→ds.length=vs.length
  | _,_, .nil=>rfl
  | _,_, .cons _ _ t=>by simp [AVk.length t]
theorem Z29:Y5i K (X17 K) Z0u:=fun Z ρ S H Wx σ xs vs Q st a h=>by
  unfold Z0u at h
  split at h
  · rename_i x
    cases a with
    | cons ha t =>
      cases t
      cases q:Z3i S x with
      | none=>rw [q] at h; exact h.elim
      | some n =>
        rw [q] at h
        have hQ:Q (.int n) H:=W6.ret0 h st (.d (.int n))
        cases ha with
        | d ha =>
          cases ha with
          | dic w r hs=>cases q; exact .inr ⟨_,_,rfl, .inr ⟨_,r⟩,by rw [← hs.length]; exact hQ⟩
          | lst w r hs =>
            rw [show Z3i S (.d (.lst _))=some ((List.map Bv.X.d _).length:Int) from rfl,List.length_map] at q
            cases q; exact .inl (.inl ⟨_,_,rfl, .inl (.inl (.inl r)),by rw [← hs.length]; exact hQ⟩)
          | tup r hs =>
            rw [show Z3i S (.d (.tup _))=some ((List.map Bv.X.d _).length:Int) from rfl,List.length_map] at q
            cases q; exact .inl (.inl ⟨_,_,rfl, .inr r.sq,by rw [← hs.length]; exact hQ⟩)
          | scr r =>
            rename_i q' ns
            cases q
            exact .inl (.inl ⟨_,ns.map V.int,rfl, .inl r.sl,by rw [List.length_map]; exact hQ⟩)
          | str hz =>
            rename_i z
            have q:(if decide (z.length ≤ sizeLine) then some (z.length:Int) else none)=some n:=q
            obtain ⟨h1,h2⟩:=Z5o q
            cases h2
            exact .inl (.inr ⟨z,rfl,of_decide_eq_true h1,hQ⟩)
          | _=>cases q
        | r e =>
          rename_i m b
          have q:(match S[m]? with
            | some (.lst xs)=>some (xs.length:Int)
            | some (.dic kvs)=>some (kvs.length:Int)
            | some (.fdc kvs)=>some (kvs.length:Int)
            | _=>none)=some n:=q
          cases z:S[m]? with
          | none=>rw [z] at q; cases q
          | some o =>
            rw [z] at q
            have ob:=st.ob m o b z e
            cases o with
            | lst xs =>
              cases q
              obtain ⟨vs,h3,h4⟩:=ob
              exact .inl (.inl ⟨_,vs,rfl, .inl (.inl (.inl h3)),by rw [← Paired.length h4]; exact hQ⟩)
            | dic xs =>
              cases q
              obtain ⟨vs,h3,h4⟩:=ob
              exact .inr ⟨_,vs,rfl, .inl h3,by rw [← Paired.length h4]; exact hQ⟩
            | fdc xs =>
              cases q
              obtain ⟨o,vs,h3,h4⟩:=ob
              exact .inr ⟨_,vs,rfl, .inr ⟨o,h3⟩,by rw [← Paired.length h4]; exact hQ⟩
            | _=>cases q
  · exact h.elim
def Y55:List Bv.X→Sto→R Bv.X
  | [x],S=>(match items S x with
    | some ys => .ok (.r S.length) (S++[.lst ys])
    | none => .bad)
  | _,_ => .bad
abbrev Y99 (K:PySem.W.Frag):List V→Hp→VK→Prop:=fun xs H Q=>∃ p ys,xs=[.ref p]∧(SqL K H p ys ∨ SqT K H p ys)∧∀ l,H l=none→Q (.ref l) (upd H l (.lst ys))
theorem Y9e:Y5i K (Y99 K) Y55:=fun Z ρ S H Wx σ xs vs Q st a h=>by
  unfold Y55 at h
  split at h
  · rename_i x
    cases a with
    | cons ha t =>
      cases t
      cases q:items S x with
      | none=>rw [q] at h; exact h.elim
      | some ys =>
        rw [q] at h
        obtain ⟨b,us,rfl,hq,hp⟩:=ha.items st q
        refine ⟨b,us,rfl,hq.symm,fun l hl=>?_⟩
        obtain ⟨s2,g2⟩:=st.pushL hl hp
        exact h _ _ _ s2 g2 (.r (by rw [st.len,List.getElem?_append_right (Nat.le_refl _),Nat.sub_self]; rfl))
  · exact h.elim
def Y3t:List Bv.X→Sto→R Bv.X
  | [x],S=>(match (items S x).bind ds? with
    | some ds => .ok (.d (.tup ds)) S
    | none => .bad)
  | _,_ => .bad
abbrev X19 (K:PySem.W.Frag):List V→Hp→VK→Prop:=fun xs H Q=>∃ p ys,xs=[.ref p]∧((SqL K H p ys∧∀ l,H l=none→Q (.ref l) (upd H l (.tup ys))) ∨ (SqT K H p ys∧Q (.ref p) H))
theorem Y7f:Y5i K (X19 K) Y3t:=fun Z ρ S H Wx σ xs vs Q st a h=>by
  unfold Y3t at h
  split at h
  · rename_i x
    cases a with
    | cons ha t =>
      cases t
      cases q:(items S x).bind ds? with
      | none=>rw [q] at h; exact h.elim
      | some ds =>
        rw [q] at h
        obtain ⟨ys,h1,h2⟩:=Option.bind_eq_some_iff.mp q
        have fin:∀ {b us},SqL K H b us→AXs K (Wn Z ρ) ρ H ys us→∀ l,H l=none→Q (.ref l) (upd H l (.tup us)):=fun hq hp l hl=>W6.ret h st (Z0f hl) (.d (Z76 (fun z hz=>st.thereW hz) hl (AXs.ds hp h2)))
        cases ha with
        | r e =>
          obtain ⟨b,us,e1,hq,hp⟩:=(AX.r e).items st h1
          cases e1
          rename_i m _
          have h1':(match S[m]? with
            | some (.lst xs)=>some xs
            | _=>none)=some ys:=h1
          cases z:S[m]? with
          | none=>rw [z] at h1'; cases h1'
          | some o =>
            rw [z] at h1'
            cases o with
            | lst xs =>
              cases h1'
              obtain ⟨vs,h3,h4⟩:=st.ob m _ _ z e
              exact ⟨_,vs,rfl, .inl ⟨.inl (.inl h3),fin (.inl (.inl h3)) h4⟩⟩
            | _=>cases h1'
        | d ha =>
          cases ha with
          | lst w r hs=>cases h1; exact ⟨_,_,rfl, .inl ⟨.inl (.inl r),fin (.inl (.inl r)) hs.axs⟩⟩
          | tup r hs =>
            cases h1
            rename_i ds2
            have e3:∀ (l:List D),ds? (l.map Bv.X.d)=some l:=fun l=>by
              induction l with
              | nil=>rfl
              | cons d r ih=>simp [ds?,ih]
            rw [e3] at h2
            cases h2
            exact ⟨_,_,rfl, .inr ⟨r.sq,W6.ret0 h st (.d (.tup r hs))⟩⟩
          | _=>cases h1
  · exact h.elim
def bls?:List Bv.X→Option (List Bool)
  | []=>some []
  | .d (.bl b) :: r=>(bls? r).map (b :: ·)
  | _ :: _=>none
theorem Y5m {W:Wd} {ρ:List Addr} {H:Hp}:∀ {xs:List Bv.X} {vs:List V} {l:List Bool},AXs K W ρ H xs vs→bls? xs=some l→vs=l.map V.bl
  | _,_,_, .nil,e=>by cases e; rfl
  | x :: r,_,l, .cons h t,e=>by
    cases x with
    | r n=>simp [bls?] at e
    | d d =>
      cases d with
      | bl b =>
        obtain ⟨l2,h1,h2⟩:=Option.map_eq_some_iff.mp (show (bls? r).map (b :: ·)=some l from e)
        subst h2
        cases h with
        | d h=>cases h; rw [Y5m t h1]; rfl
      | _=>simp [bls?] at e
def U9 (S:Sto):Bv.X→Bool
  | .d (.lst _)=>true
  | .r n=>match S[n]? with
    | some (.lst _)=>true
    | _=>false
  | _=>false
theorem AX.itemsL {Z:Wd} {ρ:List Addr} {S:Sto} {H:Hp} {x:Bv.X} {v:V} {ys:List Bv.X} (st:Sta K Z ρ S H) (h:AX K (Wn Z ρ) ρ H x v) (e:Bv.items S x=some ys) (hl:U9 S x=true):∃ q xs,v = .ref q∧H q=some (.lst xs)∧AXs K (Wn Z ρ) ρ H ys xs:=by
  cases h with
  | d h =>
    cases h with
    | lst w r hs=>cases e; exact ⟨_,_,rfl,r,hs.axs⟩
    | _=>cases hl
  | r h =>
    rename_i n q
    have e1:(match S[n]? with
      | some (.lst xs)=>some xs
      | _=>none)=some ys:=e
    cases z:S[n]? with
    | none=>rw [z] at e1; cases e1
    | some o =>
      rw [z] at e1
      cases o with
      | lst xs =>
        cases e1
        obtain ⟨vs,h1,h2⟩:=st.ob n _ q z h
        exact ⟨q,vs,rfl,h1,h2⟩
      | _=>cases e1
def Z9x (f:List Bool→Bool):List Bv.X→Sto→R Bv.X
  | [x],S=>if U9 S x then (match (items S x).bind bls? with
    | some l => .ok (.d (.bl (f l))) S
    | none => .bad) else .bad
  | _,_ => .bad
theorem Y3z {f:List Bool→Bool} {Z:Wd} {ρ:List Addr} {S:Sto} {H:Hp} {Wx:WX} {σ:St} {Q:VK} {xs:List Bv.X} {vs:List V} (st:Sta K Z ρ S H) (a:AXs K (Wn Z ρ) ρ H xs vs) (h:W6 (AX K) K Z ρ H Wx σ Q (Z9x f xs S)):∃ a bs,vs=[V.ref a]∧SqL K H a (bs.map V.bl)∧Q (.bl (f bs)) H:=by
  unfold Z9x at h
  split at h
  · rename_i x
    split at h
    · rename_i hl
      cases a with
      | cons ha t =>
        cases t
        cases q:(items S x).bind bls? with
        | none=>rw [q] at h; exact h.elim
        | some l =>
          rw [q] at h
          obtain ⟨ys,h1,h2⟩:=Option.bind_eq_some_iff.mp q
          obtain ⟨b,us,rfl,hq,hp⟩:=ha.itemsL st h1 hl
          rw [Y5m hp h2] at hq
          exact ⟨b,l,rfl, .inl (.inl hq),W6.ret0 h st (.d (.bl _))⟩
    · exact h.elim
  · exact h.elim
theorem Y2x:Y5i K (rAll K) (Z9x fun l=>l.all id):=fun Z ρ S H Wx σ xs vs Q st a h=>Y3z st a h
theorem X2y:Y5i K (rAny K) (Z9x fun l=>l.any id):=fun Z ρ S H Wx σ xs vs Q st a h=>Y3z st a h
end
end Bv
namespace Bv
open PySem PySem.Spec L2
open PyProof.Rows hiding St
variable [HasW]
abbrev X3g:Wd→List Addr→Hp→Option Int→Option Int→Prop:=fun _ _ _ b c=>b=c
abbrev MO (X:Cx) (Wx:WX) (e:Option Expr) (m:MG (Option Int)):Prop:=PO X e (RG X3g X.K Wx m)
def Z0s:MG (Option Int):=fun _ S => .ok none S
def Y9 (m:M):MG (Option Int):=fun e S=>(m e S).bind fun x S1=>Z2o ((Z23 x).map some) S1
def Z3s {α:Type} (xs:List α) (lo hi:Option Int):List α:=(xs.drop (HT.sIx xs.length 0 lo)).take (HT.sIx xs.length xs.length hi - HT.sIx xs.length 0 lo)
def slX (S:Sto) (x:X) (lo hi:Option Int):Option X:=match x with
  | .d (.lst ds)=>some (.d (.lst (Z3s ds lo hi)))
  | .d (.tup ds)=>some (.d (.tup (Z3s ds lo hi)))
  | .d (.scr ns)=>some (.d (.lst ((Z3s ns lo hi).map .int)))
  | .d (.str z)=>if decide (z.length ≤ sizeLine) then some (.d (.str ⟨(Z3s z.cps.toList lo hi).toArray⟩)) else none
  | .r n=>(match S[n]? with
    | some (.lst xs)=>(ds? (Z3s xs lo hi)).map fun ds => .d (.lst ds)
    | _=>none)
  | _=>none
def Y3 (m:M) (ml mh:MG (Option Int)):M:=fun e S=>(m e S).bind fun x S1=>(ml e S1).bind fun l S2=>(mh e S2).bind fun h S3=>Z2o (slX S3 x l h) S3
section
variable {X:Cx} {Wx:WX} {pos p p2 apos:Pos} {a b c o i e:Expr} {lo hi:Option Expr} {ma mb mc m mo mi:M} {ml mh:MG (Option Int)} {ms:MG (List Bv.X)}
theorem PO.of {e:Option Expr} {t t':TO} (h:PO X e t) (w:∀ σ H Q,t' σ H Q→t σ H Q):PO X e t':=⟨fun pins s σ H Q I q=>h.run pins s σ H Q I (w σ H Q q)⟩
theorem Z0k:MO X Wx none Z0s:=PO.of po_none fun σ H Q ⟨Z,ρ,e,S,st,ev,p⟩=>W6.ret0 p st rfl
theorem Q6 (h:ME X Wx a m):MO X Wx (some a) (Y9 m):=PO.of (po_some h) fun σ H Q ⟨Z,ρ,e,S,st,ev,p⟩=>W3 st ev p fun ρ1 H1 v x S1 s1 g1 ev1 a1 p1=>by
  obtain ⟨o,ho,p2⟩:=p1.opt
  obtain ⟨j,h1,h2⟩:=Option.map_eq_some_iff.mp ho
  subst h2
  exact ⟨j,a1.int h1,W6.ret0 p2 s1 rfl⟩
theorem AVs.cutV {K:PySem.W.Frag} {W:Wd} {H:Hp} {ds:List D} {vs:List V} (h:AVs K W H ds vs) (lo hi:Option Int):AVs K W H (Z3s ds lo hi) (L2.cutV vs lo hi):=by
  unfold Z3s L2.cutV
  rw [h.length]
  exact (h.drop _).take _
theorem AXs.takeP {α β:Type} {F:α→β→Prop}:∀ {l:List α} {r:List β} (n:Nat),Paired F l r→Paired F (l.take n) (r.take n)
  | _,_,0,_ => .nil
  | _,_,_ + 1, .nil => .nil
  | _,_,n + 1, .cons x t => .cons x (AXs.takeP n t)
theorem AXs.dropP {α β:Type} {F:α→β→Prop}:∀ {l:List α} {r:List β} (n:Nat),Paired F l r→Paired F (l.drop n) (r.drop n)
  | _,_,0,t=>t
  | _,_,_ + 1, .nil => .nil
  | _,_,n + 1, .cons x t=>AXs.dropP n t
theorem Y72 {F:Bv.X→V→Prop} {l:List Bv.X} {r:List V} (h:Paired F l r) (lo hi:Option Int):Paired F (Z3s l lo hi) (L2.cutV r lo hi):=by
  unfold Z3s L2.cutV
  rw [Paired.length h]
  exact AXs.takeP _ (AXs.dropP _ h)
theorem Y5o {α β:Type} (f:α→β) (xs:List α) (lo hi:Option Int):Z3s (xs.map f) lo hi=(Z3s xs lo hi).map f:=by
  unfold Z3s
  rw [List.length_map,List.map_take,List.map_drop]
theorem Y7j {α:Type} {xs:List α} {lo hi:Option Int} {a:α} (h:a ∈ Z3s xs lo hi):a ∈ xs:=List.mem_of_mem_drop (List.mem_of_mem_take h)
theorem V9 (he:ME X Wx a m) (hl:MO X Wx lo ml) (hh:MO X Wx hi mh):ME X Wx (.Subscript a (.Slice lo hi none p2) pos) (Y3 m ml mh):=PE.of (pe_slice (SlR.or (SlR.or sl_list sl_tupA) sl_str) he hl hh) fun σ H Q ⟨Z,ρ,e,S,st,ev,p⟩=>by
  refine W3 st ev p fun ρ1 H1 v x S1 s1 g1 ev1 a1 p1=>?_
  refine W3 (rel:=X3g) s1 ev1 p1 fun ρ2 H2 l l' S2 s2 g2 ev2 e2 p2=>?_
  refine W3 (rel:=X3g) s2 ev2 p2 fun ρ3 H3 h h' S3 s3 g3 ev3 e3 p3=>?_
  cases (show l'=l from e2)
  cases (show h'=h from e3)
  have a3:=(a1.mv (g2.mv s1) g2.pre).mv (g3.mv s2) g3.pre
  obtain ⟨y,hy,p4⟩:=p3.opt
  clear p3 p2 p1 p a1
  have lst:∀ {q:Addr} {xs:List V} {ds:List D},SqL X.K H3 q xs→AVs X.K (Wn Z ρ3) H3 ds xs→y = .d (.lst (Z3s ds l h))→∃ a xs,V.ref q = .ref a∧SqL X.K H3 a xs∧∀ p,H3 p=none→Q (.ref p) (upd H3 p (.lst (L2.cutV xs l h))):=fun {q xs ds} hq hs ey=>by
    subst ey
    exact ⟨q,xs,rfl,hq,fun p hp=>W6.ret p4 s3 (Z0f hp) (.d (Z75 (fun z hz=>s3.thereW hz) hp (hs.cutV l h)))⟩
  cases a3 with
  | d a =>
    cases a with
    | lst w r hs=>cases hy; exact .inl (.inl (lst (.inl (.inl r)) hs rfl))
    | scr r =>
      rename_i q ns
      cases hy
      exact .inl (.inl (lst r.sl (Y0y ns) (by rw [Y5o])))
    | tup t hs =>
      rename_i q xs ds
      cases hy
      refine .inl (.inr ⟨_,xs,rfl,t.sq,fun hw=>?_,fun _ p hp=>W6.ret p4 s3 (Z0f hp) (.d (Z76 (fun z hz=>s3.thereW hz) hp (hs.cutV l h)))⟩)
      have e0:Z3s ds l h=ds:=by
        unfold Z3s
        rw [hs.length,hw.1,hw.2,List.drop_zero,Nat.sub_zero,← hs.length,List.take_length]
      rw [e0] at p4
      exact W6.ret0 p4 s3 (.d (.tup t hs))
    | str hz =>
      rename_i z
      have hy:(if decide (z.length ≤ sizeLine) then some (Bv.X.d (.str ⟨(Z3s z.cps.toList l h).toArray⟩)) else none)=some y:=hy
      obtain ⟨h1,h2⟩:=Z5o hy
      cases h2
      refine .inr ⟨z,rfl,of_decide_eq_true h1,?_⟩
      have e0:cutS z l h=⟨(Z3s z.cps.toList l h).toArray⟩:=by
        unfold cutS Z3s
        rw [show z.cps.toList.length=z.length from by simp [Str.length]]
      rw [e0]
      exact W6.ret0 p4 s3 (.d (.str (Z83 fun c m=>Z9v hz (Y7j (by simpa using m)))))
    | _=>cases hy
  | r hr =>
    rename_i n q
    have hy:(match S3[n]? with
      | some (.lst xs)=>(ds? (Z3s xs l h)).map fun ds=>Bv.X.d (.lst ds)
      | _=>none)=some y:=hy
    cases z:S3[n]? with
    | none=>rw [z] at hy; cases hy
    | some ob =>
      rw [z] at hy
      cases ob with
      | lst xs =>
        obtain ⟨ds,h1,h2⟩:=Option.map_eq_some_iff.mp (show (ds? (Z3s xs l h)).map (fun ds=>Bv.X.d (.lst ds))=some y from hy)
        subst h2
        obtain ⟨vs,h3,h4⟩:=s3.ob n _ q z hr
        exact .inl (.inl ⟨q,vs,rfl, .inl (.inl h3),fun p hp=>W6.ret p4 s3 (Z0f hp) (.d (Z75 (fun z hz=>s3.thereW hz) hp (AXs.ds (Y72 h4 l h) h1)))⟩)
      | _=>cases hy
def Z3u (S:Sto) (o i v:Bv.X):Option Sto:=match o,Z23 i with
  | .r n,some k=>(match S[n]? with
    | some (.lst xs)=>(ixN xs.length k).map fun j=>S.set n (.lst (xs.set j v))
    | _=>none)
  | _,_=>none
def Z00 (mo mi m:M):MS:=fun e S=>(m e S).so e fun v S1=>(mo e S1).so e fun o S2=>(mi e S2).so e fun i S3=>match Z3u S3 o i v with
  | some S4 => .go (.nx e) S4
  | none => .bad
theorem Paired.setP {α β:Type} {F:α→β→Prop} {a:α} {b:β} (h:F a b):∀ {l:List α} {r:List β} (j:Nat),Paired F l r→Paired F (l.set j a) (r.set j b)
  | _,_,_, .nil => .nil
  | _,_,0, .cons _ t => .cons h t
  | _,_,j + 1, .cons x t => .cons x (Paired.setP h j t)
theorem Sta.putL {K:PySem.W.Frag} {Z:Wd} {ρ:List Addr} {S:Sto} {H:Hp} {n:Nat} {q:Addr} {xs:List Bv.X} {vs us:List V} (s:Sta K Z ρ S H) (hn:ρ[n]?=some q) (hq:H q=some (.lst us)) (a:AXs K (Wn Z ρ) ρ H xs vs):Sta K Z ρ (S.set n (.lst xs)) (upd H q (.lst vs))∧Go ρ H ρ (upd H q (.lst vs)) :=
  s.put hn (fun _ _ z=>by rw [hq] at z; cases z) ⟨vs,upd_same,AXs.mv (fun b o h z=>⟨h,by rw [upd_ne (fun y=>h (.inr (by rw [y]; exact List.mem_of_getElem? hn)))]; exact z⟩) (List.prefix_refl _) a⟩
theorem Y6c (ho:ME X Wx o mo) (hi:ME X Wx i mi) (ha:ME X Wx a m) (hs:swapsWithSole [.Subscript o i p] a pos.line X.env=pure false:=by rfl) (hw:swappedStores [.Subscript o i p] a X.env=pure none:=by rfl)
    (h1:(assignEach [.Subscript o i p] X.env).map (·.2)=[assign (.Subscript o i p) X.env]:=by rfl)
    (h2:∀ v,assign (.Subscript o i p) X.env v=(do
      let ov ← holding [v] (eval o X.env)
      let iv ← holding [v,ov] (eval i X.env)
      standAt p
      holding [v,ov,iv] (setItem ov iv v)
      release [v,ov,iv] []):=by intro _; rfl):MP X Wx (.Assign [.Subscript o i p] a pos) (Z00 mo mi m):=PS.of (ps_asg ha (pg_sub ho hi set_list h2) hs hw h1) fun D σ H ⟨Z,ρ,e,S,st,ev,q⟩=>by
  refine Z2n st ev q fun ρ1 H1 v x S1 s1 g1 ev1 a1 q1=>?_
  refine Z2n s1 ev1 q1 fun ρ2 H2 ov y S2 s2 g2 ev2 a2 q2=>?_
  refine Z2n s2 ev2 q2 fun ρ3 H3 iv z S3 s3 g3 ev3 a3 q3=>?_
  have b1:=(a1.mv (g2.mv s1) g2.pre).mv (g3.mv s2) g3.pre
  have b2:=a2.mv (g3.mv s2) g3.pre
  cases q4:Z3u S3 y z x with
  | none=>rw [q4] at q3; exact q3.elim
  | some S4 =>
    rw [q4] at q3
    cases y with
    | d d=>cases q4
    | r n =>
      have q4:(match Z23 z with
        | some k=>(match S3[n]? with
          | some (.lst xs)=>(ixN xs.length k).map fun j=>S3.set n (.lst (xs.set j x))
          | _=>none)
        | none=>none)=some S4:=by
        cases hz:Z23 z with
        | none=>simp [Z3u,hz] at q4
        | some k=>simp only [Z3u,hz] at q4; exact q4
      cases hz:Z23 z with
      | none=>rw [hz] at q4; cases q4
      | some k =>
        rw [hz] at q4
        have q4:(match S3[n]? with
          | some (.lst xs)=>(ixN xs.length k).map fun j=>S3.set n (.lst (xs.set j x))
          | _=>none)=some S4:=q4
        cases hs:S3[n]? with
        | none=>rw [hs] at q4; cases q4
        | some ob =>
          rw [hs] at q4
          cases ob with
          | lst xs =>
            obtain ⟨j,h1,h2⟩:=Option.map_eq_some_iff.mp (show (ixN xs.length k).map (fun j=>S3.set n (.lst (xs.set j x)))=some S4 from q4)
            subst h2
            cases b2 with
            | r b2 =>
              rename_i q
              obtain ⟨vs,h3,h4⟩:=s3.ob n _ q hs b2
              have e3:=a3.int hz
              subst e3
              obtain ⟨s5,g5⟩:=s3.putL b2 h3 (Paired.setP b1 j h4)
              exact ⟨q,vs,k,j,rfl,rfl,h3,by rw [← Paired.length h4]; exact h1,q3 ρ3 _ σ s5 g5 (ev3.mv (g5.mv s3) g5.pre)⟩
          | _=>cases q4
def Z2z (ty:Sto→Bv.X→Bool) (g:Bv.X→List Bv.X→Sto→R Bv.X) (mo:M) (ms:MG (List Bv.X)):M:=fun e S=>(mo e S).bind fun x S1=>if ty S1 x then (ms e S1).bind fun xs S2=>g x xs S2 else .bad
def MtX (K:PySem.W.Frag) (r:V→List V→Hp→VK→Prop) (g:Bv.X→List Bv.X→Sto→R Bv.X):Prop:=∀ (Z:Wd) (ρ:List Addr) (S:Sto) (H:Hp) (Wx:WX) (σ:L2.St) (x:Bv.X) (v:V) (xs:List Bv.X) (vs:List V) (Q:VK),Sta K Z ρ S H→AX K (Wn Z ρ) ρ H x v→AXs K (Wn Z ρ) ρ H xs vs→W6 (AX K) K Z ρ H Wx σ Q (g x xs S)→r v vs H Q
theorem Y7r {Z:Wd} {ρ:List Addr} {S:Sto} {H:Hp} {x:Bv.X} {v:V} (st:Sta X.K Z ρ S H) (a:AX X.K (Wn Z ρ) ρ H x v) (h:U9 S x=true):tyV X.K "list" v H:=by
  cases a with
  | d a =>
    cases a with
    | lst w r hs=>exact .inl ⟨rfl,_, .inl (.inl r)⟩
    | _=>cases h
  | r e =>
    rename_i n q
    have h:(match S[n]? with
      | some (.lst _)=>true
      | _=>false)=true:=h
    cases z:S[n]? with
    | none=>rw [z] at h; cases h
    | some ob =>
      rw [z] at h
      cases ob with
      | lst xs =>
        obtain ⟨vs,h3,_⟩:=st.ob n _ q z e
        exact .inl ⟨rfl,vs, .inl (.inl h3)⟩
      | _=>cases h
variable {es:List Expr} {id:String} {name:Str} {r:V→List V→Hp→VK→Prop} {g:Bv.X→List Bv.X→Sto→R Bv.X} {cpos:Pos}
theorem Y27 (slot:Slot "list" name id) (hty:typeOf (.builtin id)=pure (.type "method_descriptor")) (hm:MtR X id r) (h:MtX X.K r g) (ho:ME X Wx o mo) (ha:MA X Wx (e :: es) ms) (hbase:attributeBase o name X.env (eval o X.env)=eval o X.env:=by rfl)
    (hfew:((backTo cpos (starEach (e :: es) X.env)).all (fun x => !x.1) && (backToKw cpos (keywordEach [] X.env)).all (fun x=>x.1.isSome)
      && decide ((e :: es).length + ([]:List Keyword).length + (if ([]:List Keyword).isEmpty then 0 else 1) < 30))=true:=by rfl)
    (hline:(apos.endLine == cpos.line)=true:=by rfl) (hs:starEach (e :: es) X.env=(false,eval e X.env) :: starEach es X.env:=by rfl) (hplain:(backTo cpos (starEach es X.env)).any (·.1)=false:=by rfl) :
    ME X Wx (.Call (.Attribute o name apos) (e :: es) [] cpos) (Z2z U9 g mo ms):=PE.of (pe_bm PySem.F.plainAttrs_list slot hty hm ho ha hbase hfew hline hs hplain) fun σ H Q ⟨Z,ρ,e,S,st,ev,p⟩=>W3 st ev p fun ρ1 H1 v x S1 s1 g1 ev1 a1 p1=>by
  have p1:W6 (AX X.K) X.K Z ρ1 H1 Wx σ Q (if U9 S1 x then (ms e S1).bind fun xs S2=>g x xs S2 else .bad):=p1
  split at p1
  · rename_i hl
    exact ⟨Y7r s1 a1 hl,W3 s1 ev1 p1 fun ρ2 H2 vs xs S2 s2 g2 ev2 a2 p2=>h Z ρ2 S2 H2 Wx σ x v xs vs Q s2 (a1.mv (g2.mv s1) g2.pre) a2 p2⟩
  · exact p1.elim
def Z01 (S:Sto):Bv.X→Option (Nat × List Bv.X)
  | .r n=>(match S[n]? with
    | some (.lst xs)=>some (n,xs)
    | _=>none)
  | _=>none
theorem Z9l {K:PySem.W.Frag} {Z:Wd} {ρ:List Addr} {S:Sto} {H:Hp} {x:Bv.X} {v:V} {n:Nat} {xs:List Bv.X} (st:Sta K Z ρ S H) (a:AX K (Wn Z ρ) ρ H x v) (h:Z01 S x=some (n,xs)):∃ q vs,v = .ref q∧ρ[n]?=some q∧H q=some (.lst vs)∧AXs K (Wn Z ρ) ρ H xs vs:=by
  cases a with
  | d a=>cases h
  | r e =>
    rename_i k q
    have h:(match S[k]? with
      | some (.lst xs)=>some (k,xs)
      | _=>none)=some (n,xs):=h
    cases z:S[k]? with
    | none=>rw [z] at h; cases h
    | some ob =>
      rw [z] at h
      cases ob with
      | lst ys =>
        cases h
        obtain ⟨vs,h3,h4⟩:=st.ob _ _ q z e
        exact ⟨q,vs,rfl,e,h3,h4⟩
      | _=>cases h
def Z0z:Bv.X→List Bv.X→Sto→R Bv.X:=fun x ys S=>match Z01 S x,ys with
  | some (n,xs),[y]=>if decide (xs.length < sizeLine) then .ok (.d .non) (S.set n (.lst (xs++[y]))) else .bad
  | _,_ => .bad
theorem Z6s {K:PySem.W.Frag}:MtX K rAppend Z0z:=fun Z ρ S H Wx σ x v ys ws Q st a as p=>by
  unfold Z0z at p
  split at p
  · rename_i n xs y hl
    split at p
    · rename_i hz
      obtain ⟨q,vs,rfl,e,h3,h4⟩:=Z9l st a hl
      cases as with
      | cons h t =>
        cases t
        have hz:=of_decide_eq_true hz
        obtain ⟨s5,g5⟩:=st.putL e h3 (Paired.append h4 (.cons h .nil))
        exact ⟨q,vs,_,rfl,rfl,h3,by rw [← Paired.length h4]; exact hz,p ρ _ .non s5 g5 (.d .non)⟩
    · exact p.elim
  · exact p.elim
theorem Paired.get {α β:Type} {F:α→β→Prop} {l:List α} {r:List β} (p:Paired F l r) {j:Nat} {a:α} (e:l[j]?=some a):∃ b,r[j]?=some b∧F a b:=by
  induction p generalizing j with
  | nil=>simp at e
  | cons x _ ih =>
    cases j with
    | zero=>simp at e; subst e; exact ⟨_,rfl,x⟩
    | succ n=>simp at e; obtain ⟨b,h1,h2⟩:=ih e; exact ⟨b,by simpa using h1,h2⟩
def Z9i:Bv.X→List Bv.X→Sto→R Bv.X:=fun x ys S=>match Z01 S x,ys with
  | some (n,xs),[y]=>(match Z23 y with
    | some i=>if decide (-(2 ^ 63) ≤ i∧i < 2 ^ 63) then (match seqIndex? i xs.length with
      | some k=>(match xs[k]? with
        | some z => .ok z (S.set n (.lst (xs.eraseIdx k)))
        | none => .bad)
      | none => .bad) else .bad
    | none => .bad)
  | _,_ => .bad
theorem Paired.eraseP {α β:Type} {F:α→β→Prop}:∀ {l:List α} {r:List β} (j:Nat),Paired F l r→Paired F (l.eraseIdx j) (r.eraseIdx j)
  | _,_,_, .nil => .nil
  | _,_,0, .cons _ t=>t
  | _,_,j + 1, .cons x t => .cons x (Paired.eraseP j t)
theorem Y9f {K:PySem.W.Frag}:MtX K rPopAt Z9i:=fun Z ρ S H Wx σ x v ys ws Q st a as p=>by
  unfold Z9i at p
  split at p
  · rename_i n xs y hl
    cases as with
    | cons h t =>
      cases t
      cases hi:Z23 y with
      | none=>rw [hi] at p; exact p.elim
      | some i =>
        rw [hi] at p
        have p:W6 (AX K) K Z ρ H Wx σ Q (if decide (-(2 ^ 63) ≤ i∧i < 2 ^ 63) then (match seqIndex? i xs.length with
          | some k=>(match xs[k]? with
            | some z => .ok z (S.set n (.lst (xs.eraseIdx k)))
            | none => .bad)
          | none => .bad) else .bad):=p
        split at p
        · rename_i hz
          have hz:=of_decide_eq_true hz
          obtain ⟨q,vs,rfl,e,h3,h4⟩:=Z9l st a hl
          cases hk:seqIndex? i xs.length with
          | none=>rw [hk] at p; exact p.elim
          | some k =>
            rw [hk] at p
            have p:W6 (AX K) K Z ρ H Wx σ Q (match xs[k]? with
              | some z => .ok z (S.set n (.lst (xs.eraseIdx k)))
              | none => .bad):=p
            cases hx:xs[k]? with
            | none=>rw [hx] at p; exact p.elim
            | some z =>
              rw [hx] at p
              obtain ⟨w,h5,h6⟩:=Paired.get h4 hx
              obtain ⟨s5,g5⟩:=st.putL e h3 (Paired.eraseP k h4)
              exact ⟨q,vs,i,k,w,rfl,by rw [h.int hi],h3,hz.1,hz.2,by rw [← Paired.length h4]; exact hk,h5,p ρ _ w s5 g5 (h6.mv (g5.mv st) g5.pre)⟩
        · exact p.elim
  · exact p.elim
def strs?:List Bv.X→Option (List Str)
  | []=>some []
  | .d (.str z) :: r=>(strs? r).map (z :: ·)
  | _ :: _=>none
theorem Y1n {K:PySem.W.Frag} {W:Wd} {ρ:List Addr} {H:Hp}:∀ {xs:List Bv.X} {vs:List V} {l:List Str},AXs K W ρ H xs vs→strs? xs=some l→vs=l.map V.str∧∀ z ∈ l,PyData.strOk z=true
  | _,_,_, .nil,e=>by cases e; exact ⟨rfl,fun z h=>by simp at h⟩
  | x :: r,_,l, .cons h t,e=>by
    cases x with
    | r n=>simp [strs?] at e
    | d d =>
      cases d with
      | str b =>
        obtain ⟨l2,h1,h2⟩:=Option.map_eq_some_iff.mp (show (strs? r).map (b :: ·)=some l from e)
        subst h2
        cases h with
        | d h =>
          cases h with
          | str hz =>
            obtain ⟨h3,h4⟩:=Y1n t h1
            exact ⟨by rw [h3]; rfl,fun z m=>(List.mem_cons.mp m).elim (fun q=>by rw [q]; exact hz) (h4 z)⟩
      | _=>simp [strs?] at e
theorem Z8b {a:Str} (ha:PyData.strOk a=true):∀ {ys:List Str},(∀ z ∈ ys,PyData.strOk z=true)→PyData.strOk (Str.join a ys)=true
  | [],_=>Z83 fun c m=>by simp [Str.join,Str.empty] at m
  | [x],h=>h x (by simp)
  | x :: y :: r,h=>by
    show PyData.strOk (x++a++Str.join a (y :: r))=true
    exact Z6o (Z6o (h x (by simp)) ha) (Z8b ha fun z m=>h z (List.mem_cons_of_mem _ m))
def Z1d (a:Str) (y:Bv.X) (S:Sto):R Bv.X:=match (items S y).bind strs? with
  | some ys=>if decide ((ys.map (·.length)).sum + ys.length * a.length ≤ 16777216) then .ok (.d (.str (Str.join a ys))) S else .bad
  | none => .bad
def Z1e (g:Str→Bv.X→Sto→R Bv.X) (mo m:M):M:=fun e S=>(mo e S).bind fun x S1=>match x with
  | .d (.str a)=>(m e S1).bind fun y S2=>g a y S2
  | _ => .bad
theorem Z40 (ho:ME X Wx o mo) (he:ME X Wx e m) (hs:starEach [e] X.env=[(false,eval e X.env)]:=by rfl) (hbase:attributeBase o "join" X.env (eval o X.env)=eval o X.env:=by rfl) (hline:(apos.endLine == pos.line)=true:=by rfl) :
    ME X Wx (.Call (.Attribute o "join" apos) [e] [] pos) (Z1e Z1d mo m):=PE.of (pe_join ho he hs hbase hline) fun σ H Q ⟨Z,ρ,e,S,st,ev,p⟩=>W3 st ev p fun ρ1 H1 v x S1 s1 g1 ev1 a1 p1=>by
  cases a1 with
  | r _=>exact p1.elim
  | d a =>
    cases a with
    | str hz =>
      rename_i z
      refine ⟨⟨z,rfl⟩,W3 s1 ev1 (show W6 (AX X.K) X.K Z ρ1 H1 Wx σ Q ((m e S1).bind fun y S2=>Z1d z y S2) from p1) fun ρ2 H2 u y S2 s2 g2 ev2 a2 p2=>?_⟩
      unfold Z1d at p2
      cases q:(items S2 y).bind strs? with
      | none=>rw [q] at p2; exact p2.elim
      | some ys =>
        rw [q] at p2
        obtain ⟨zs,h1,h2⟩:=Option.bind_eq_some_iff.mp q
        obtain ⟨b,us,rfl,hq,hp⟩:=a2.items s2 h1
        obtain ⟨rfl,hk⟩:=Y1n hp h2
        have p2:W6 (AX X.K) X.K Z ρ2 H2 Wx σ Q (if decide ((ys.map (·.length)).sum + ys.length * z.length ≤ 16777216) then .ok (.d (.str (Str.join z ys))) S2 else .bad):=p2
        split at p2
        · rename_i hl
          refine ⟨z,b,ys,rfl,rfl,hq.symm,of_decide_eq_true hl,?_⟩
          rw [show Txt.join z ys=Str.join z ys from StrLaws.glued_eq_join ..]
          exact W6.ret0 p2 s2 (.d (.str (Z8b hz hk)))
        · exact p2.elim
    | _=>exact p1.elim
def Z0w (i j:Nat) (ms:MG (List Bv.X)):MS:=fun e S=>(ms e S).so e fun xs S1=>match xs with
  | [x,y] => .go (.nx ((e.set i (some x)).set j (some y))) S1
  | _ => .bad
theorem Y4a {i j:Nat} {x y:Str} {px py pt:Pos} {kt k2 pt2} (hc:X.calm=true) (hN:X.N.Nodup) (hi:X.N[i]?=some x) (hj:X.N[j]?=some y) (hij:i ≠ j) (hx:X.env.scope.names.lookup x=some .local) (hy:X.env.scope.names.lookup y=some .local) (ha:MA X Wx [a,b] ms)
    (hw:swappedStores [.Tuple [.Name x px, .Name y py] kt pt] (.Tuple [a,b] k2 pt2) X.env=pure (some [x,y]):=by rfl) (hs:swapsWithSole [.Tuple [.Name x px, .Name y py] kt pt] (.Tuple [a,b] k2 pt2) pos.line X.env=pure false:=by rfl) :
    MP X Wx (.Assign [.Tuple [.Name x px, .Name y py] kt pt] (.Tuple [a,b] k2 pt2) pos) (Z0w i j ms):=PS.of (ps_par hc hN hi hj hij hx hy ha hw hs) fun D σ H ⟨Z,ρ,e,S,st,ev,p⟩=>Z2n (rel:=AXs X.K) st ev p fun ρ1 H1 vs xs S1 s1 g1 ev1 a1 p1=>by
  match xs,vs,a1,p1 with
  | [x,y],_, .cons h1 (.cons h2 .nil),p1=>exact ⟨_,_,rfl,p1.next s1 ((ev1.set h1).set h2)⟩
  | [],_,_,p1=>exact p1.elim
  | [_],_,_,p1=>exact p1.elim
  | _ :: _ :: _ :: _,_,_,p1=>exact p1.elim
end
end Bv
namespace Bv
open PySem PySem.Spec L2
open PyProof.Rows hiding St
variable [HasW]
structure OwnIs (K:PySem.W.Frag) (C:Str):Prop where
  cl:Cls K (He.ga K C)
  ha:PySem.W.findIn K (.ref (He.ga K C)) "__class__" = some (some (.builtin "object.__class__"))
  hn:PySem.W.specialIn K (.builtin "object.__class__") "__get__" = some (some (.builtin "getset_descriptor.__get__"))
  htk:PySem.W.takesIn K (.builtin "object.__class__")=some true
  hm:PySem.W.mroIn K (He.ga K C) (.type "object")=some true
structure IsT (K:PySem.W.Frag) (u:Value) (tab:List (String × Bool)) (own:List (Str × Bool)):Prop where
  bt:∀ k b,tab.lookup k=some b→PySem.W.kitOne K (.type k) u=some b
  ow:∀ C b,own.lookup C=some b→OwnIs K C∧PySem.W.kitOne K (.ref (He.ga K C)) u=some b
def X29:D→Option String
  | .non=>some "NoneType"
  | .bl _=>some "bool"
  | .int _=>some "int"
  | .str _=>some "str"
  | .tup _=>some "tuple"
  | .lst _=>some "list"
  | .scr _=>some "list"
  | .dic _=>some "dict"
  | _=>none
def isX (tab:List (String × Bool)) (own:List (Str × Bool)) (S:Sto):X→Option Bool
  | .d (.obj C _)=>own.lookup C
  | .d d=>(X29 d).bind fun k=>tab.lookup k
  | .r n=>match S[n]? with
    | some (.lst _)=>tab.lookup "list"
    | some (.dic _)=>tab.lookup "dict"
    | some (.fdc _)=>tab.lookup "dict"
    | some (.ins C _)=>own.lookup C
    | _=>none
def Z7f (tab:List (String × Bool)) (own:List (Str × Bool)) (m:M):M:=fun e S=>(m e S).bind fun x S1=>Z2o ((isX tab own S1 x).map fun b => .d (.bl b)) S1
section
variable {X:Cx} {Wx:WX} {pos p p2 apos:Pos} {a b c o i e:Expr} {ma mb mc m mo mi:M} {ms:MG (List Bv.X)}
theorem Tp.tyX {K:PySem.W.Frag} {W:Wd} {H:Hp} {a:Addr} {xs:List V} (t:Tp K W H a xs):TyX K H (.ref a) (.type "tuple"):=by
  rcases t with ⟨_,h⟩ | ⟨o,its,n,h1,h2,_⟩
  · exact .base (.tup h)
  · exact .kTuple h1 h2
theorem X1i {K:PySem.W.Frag} {u:Value} {tab:List (String × Bool)} {own:List (Str × Bool)} (T:IsT K u tab own) {Z:Wd} {ρ:List Addr} {S:Sto} {H:Hp} {x:Bv.X} {v:V} {k:Bool} (st:Sta K Z ρ S H) (a:AX K (Wn Z ρ) ρ H x v) (h:isX tab own S x=some k) :
    ∃ t,TyX K H v t∧PySem.W.kitOne K t u=some k:=by
  cases a with
  | d a =>
    cases a with
    | obj w r hs =>
      obtain ⟨O,q⟩:=T.ow _ _ h
      exact ⟨_, .base (.ins r O.cl O.ha O.hn O.htk O.hm),q⟩
    | non=>exact ⟨_, .base .non,T.bt _ _ h⟩
    | bl k=>exact ⟨_, .base (.bl k),T.bt _ _ h⟩
    | int k=>exact ⟨_, .base (.int k),T.bt _ _ h⟩
    | str k=>exact ⟨_, .base (.str _),T.bt _ _ h⟩
    | tup t hs=>exact ⟨_,t.tyX,T.bt _ _ h⟩
    | lst w r hs=>exact ⟨_, .base (.lst r),T.bt _ _ h⟩
    | scr r =>
      rcases r with ⟨_,r | ⟨ob,r⟩⟩ | ⟨o,its,n,r1,r2,_⟩
      · exact ⟨_, .base (.lst r),T.bt _ _ h⟩
      · exact ⟨_, .base (.frz r),T.bt _ _ h⟩
      · exact ⟨_, .kList r1 r2,T.bt _ _ h⟩
    | dic w r hs=>exact ⟨_, .fDict r,T.bt _ _ h⟩
    | gl x=>cases h
  | r e =>
    rename_i n q
    have h:(match S[n]? with
      | some (.lst _)=>tab.lookup "list"
      | some (.dic _)=>tab.lookup "dict"
      | some (.fdc _)=>tab.lookup "dict"
      | some (.ins C _)=>own.lookup C
      | _=>none)=some k:=h
    cases z:S[n]? with
    | none=>rw [z] at h; cases h
    | some ob =>
      rw [z] at h
      have y:=st.ob n _ q z e
      cases ob with
      | lst xs=>obtain ⟨vs,h1,_⟩:=y; exact ⟨_, .base (.lst h1),T.bt _ _ h⟩
      | dic xs=>obtain ⟨vs,h1,_⟩:=y; exact ⟨_, .base (.dK h1),T.bt _ _ h⟩
      | fdc xs=>obtain ⟨o,vs,h1,_⟩:=y; exact ⟨_, .fDict h1,T.bt _ _ h⟩
      | tdc xs=>cases h
      | tfc xs=>cases h
      | ins C fs =>
        obtain ⟨dx,vs,h1,_⟩:=y
        obtain ⟨O,q⟩:=T.ow _ _ h
        exact ⟨_, .base (.ins h1 O.cl O.ha O.hn O.htk O.hm),q⟩
theorem Y17 {tab:List (String × Bool)} {own:List (Str × Bool)} {u:Value} {cv:V} (hg:Gl X "isinstance") (hm:X.mg "isinstance" = none) (he:ME X Wx a m) (hc:PE X c (tC cv)) (T:IsT X.K u tab own) (k:ClsV cv u)
    (hs:starEach [a,c] X.env=(false,eval a X.env) :: starEach [c] X.env:=by rfl) (hs2:starEach [c] X.env=(false,eval c X.env) :: starEach [] X.env:=by rfl) (hpl:(backTo pos (starEach [c] X.env)).any (·.1)=false:=by rfl) :
    ME X Wx (.Call (.Name "isinstance" p) [a,c] [] pos) (Z7f tab own m):=PE.of (pe_callB call_isi hg hm (by rfl) (pa_cons he (pa_cons hc pa_nil hs2) hs) (by decide) (by decide) hs hpl) fun σ H Q ⟨Z,ρ,e,S,st,ev,q⟩=>W3 st ev q fun ρ1 H1 v x S1 s1 g1 ev1 a1 p1=>by
  obtain ⟨w,hw,p2⟩:=p1.opt
  obtain ⟨b,h1,h2⟩:=Option.map_eq_some_iff.mp hw
  subst h2
  obtain ⟨t,ty,kt⟩:=X1i T s1 a1 h1
  exact ⟨v,cv,t,u,b,rfl,k,ty,kt,W6.ret0 p2 s1 (.d (.bl b))⟩
omit [HasW] in
theorem Y56 {β:Type} {k:String} {b:β}:∀ {l:List (String × β)},l.lookup k=some b→(k,b) ∈ l
  | [],h=>by cases h
  | (k',b') :: r,h=>by
    rw [List.lookup_cons] at h
    cases q:k == k' with
    | true =>
      rw [q] at h
      cases h
      rw [beq_iff_eq.mp q]
      exact List.mem_cons_self
    | false=>rw [q] at h; exact List.mem_cons_of_mem _ (Y56 h)
def Z8v (T:String):List (String × Bool):=["NoneType", "bool", "int", "str", "tuple", "list", "dict"].filterMap fun k=>(kitB k T).map fun b=>(k,b)
end
end Bv
namespace Bv
open PySem PySem.Spec L2
open PyProof.Rows hiding St
variable [HasW]
abbrev EN:XK:=fun _ _ _=>False
section
variable {X:Cx} {Wx:WX} {pos p p2 apos:Pos} {a b c o i e:Expr} {ma mb mc m mo mi:M} {ms:MG (List Bv.X)} {k n:Nat} {f:Addr} {fd:FuncData} {ps:List Str} {g:List D→PR} {C:Str}
theorem X2c {pins:List (Addr × Obj)} {σ:St} {H:Hp} {s:Shared} {Q:VK} {us:List Value} {vs:List V} {sp:Sp} {A:Around} {E:Value→Shared→Prop} (F:FnG X.prog X.w X.K X.mg X.base k f fd ps sp) (gu:A.guards=some []) (room:Room k A) (hb:Binds X.K fd ps []) (I:Inv X pins σ H s)
    (e0:Env0 X.prog X.w X.K X.mg X.base A X.stack s H) (r:Vals vs us) (h:sp vs H Q EN):wpAny (model X.prog X.w) A (call (.ref f) us) (EP X pins σ Q) E s:=by
  have many:us.length=ps.length:=r.length.symm.trans (F.len _ _ _ _ h)
  have bd:=hb s us I.kIn (by rw [List.append_nil]; exact many)
  rw [List.append_nil] at bd
  refine wpAny_call (codeAny_mono (F.run A X.stack s H ⟨us,[]⟩ us vs Q EN gu room e0 bd r h) fun y s' z=>?_)
  cases y with
  | error e =>
    obtain ⟨_,_,_,_,_,_,_,_,_,_,_,_,no⟩:=z
    exact no.elim
  | ok fl =>
    cases fl with
    | ret u=>exact I.after z
    | next=>exact z.elim
    | brk=>exact z.elim
    | cont=>exact z.elim
theorem X1h {pins:List (Addr × Obj)} {σ:St} {H:Hp} {s:Shared} {a Ca dx:Addr} {fs:List (Str × V)} (I:Inv X pins σ H s) (h:H a=some (.ins Ca dx fs)):∃ ox od,PySem.W.InstAt s.heap a ox Ca od:=by
  obtain ⟨mA,J,_⟩:=ins_get I.hok h
  obtain ⟨od,J2,_⟩:=J.look
  exact ⟨_,_,J2⟩
structure OwnStr (K:PySem.W.Frag) (C:Str) (f:Addr):Prop where
  at_:PySem.W.findIn K (.ref (He.ga K C)) "__str__" = some (some (.ref f))
  fn:PySem.W.isFn K (.ref f)=true
abbrev X18 (K:PySem.W.Frag) (C:Str) (g:List D→PR):List V→Hp→VK→Prop:=fun xs H Q=>∃ a dx fs,xs=[.ref a]∧H a=some (.ins (He.ga K C) dx fs)∧spP K 1 g [.ref a] H (fun v H'=>∃ z,v = .str z∧Q (.str z) H') EN
theorem X03 (gu:X.A.guards=some []) (F:FnG X.prog X.w X.K X.mg X.base k f fd ps (spP X.K 1 g)) (O:OwnStr X.K C f) (room:Room (k + 2) X.A) (hb:Binds X.K fd ps []):CallR X (.type "str") (X18 X.K C g):=fun pins s σ H xs us Q I r h=>by
  obtain ⟨a,dx,fs,rfl,ha,q⟩:=h
  cases r with
  | cons r t =>
    cases t
    cases r
    obtain ⟨ox,od,J⟩:=X1h I ha
    refine PySem.W.kso_call (by have:=room.un; show X.A.units + 1 + 1 < _; omega) I.kIn J O.at_ O.fn (wpAny_mono (X2c F (by exact gu) room.in1.in1 hb I I.env0.in1.in1 (.cons (show RelV (V.ref a) (Value.ref a) from rfl) .nil) q) (fun u s' z=>?_) fun _ _ z=>z)
    obtain ⟨v,H',I',rv,z,rfl,q'⟩:=z
    obtain ⟨t,rfl⟩:=rv
    exact ⟨.str z,H',I',⟨t,rfl⟩,q'⟩
def Z6z (C:Str) (g:List D→PR):List Bv.X→Sto→R Bv.X
  | [.d (.obj D fs)],S=>if decide (D=C) then (match g [.obj D fs] with
    | .ok (.str z) => .ok (.d (.str z)) S
    | _ => .bad) else .bad
  | _,_ => .bad
theorem X0x {K:PySem.W.Frag}:Y5i K (X18 K C g) (Z6z C g):=fun Z ρ S H Wx σ xs vs Q st a h=>by
  unfold Z6z at h
  split at h
  · rename_i D fs
    split at h
    · rename_i hc
      obtain rfl:=of_decide_eq_true hc
      obtain ⟨v,rfl,b⟩:=Y6i a
      cases b with
      | obj w r hs =>
        refine ⟨_,_,_,rfl,r,rfl,Wn Z ρ,[.obj D fs],fun a h=>st.thereW h, .cons (.obj w r hs) .nil,?_⟩
        cases q:g [.obj D fs] with
        | ok d =>
          rw [q] at h
          cases d with
          | str z =>
            intro H' v k a
            cases a with
            | str hz=>exact ⟨z,rfl,W6.ret h st k (.d (.str hz))⟩
          | _=>exact h.elim
        | err _ _=>rw [q] at h; exact h.elim
        | bad=>rw [q] at h; exact h.elim
    · exact h.elim
  · exact h.elim
structure OwnEq (K:PySem.W.Frag) (C:Str) (f:Addr):Prop where
  at_:PySem.W.findIn K (.ref (He.ga K C)) "__eq__" = some (some (.ref f))
  fn:PySem.W.isFn K (.ref f)=true
  ne:PySem.W.findIn K (.ref (He.ga K C)) "__ne__" = some (some (.builtin "object.__ne__"))
  mo:PySem.W.mroIn K (He.ga K C) (.type "object")=some true
def eqO (C:Str) (g:List D→PR) (neg:Bool) (a b:D):Option D:=match a,b with
  | .obj C1 f1, .obj C2 f2=>if decide (C1=C) && decide (C2=C) then (match g [.obj C1 f1, .obj C2 f2] with
    | .ok (.bl r)=>some (.bl (r ^^ neg))
    | _=>none) else none
  | _,_=>none
structure IsTs (K:PySem.W.Frag) (us:List Value) (tab:List (String × Bool)) (own:List (Str × Bool)):Prop where
  bt:∀ k b,tab.lookup k=some b→PySem.W.kitAny K (.type k) us=some b
  ow:∀ C b,own.lookup C=some b→OwnIs K C∧PySem.W.kitAny K (.ref (He.ga K C)) us=some b
theorem Y9q {K:PySem.W.Frag} {us:List Value} {tab:List (String × Bool)} {own:List (Str × Bool)} (T:IsTs K us tab own) {Z:Wd} {ρ:List Addr} {S:Sto} {H:Hp} {x:Bv.X} {v:V} {k:Bool} (st:Sta K Z ρ S H) (a:AX K (Wn Z ρ) ρ H x v) (h:isX tab own S x=some k) :
    ∃ t,TyX K H v t∧PySem.W.kitAny K t us=some k:=by
  cases a with
  | d a =>
    cases a with
    | obj w r hs =>
      obtain ⟨O,q⟩:=T.ow _ _ h
      exact ⟨_, .base (.ins r O.cl O.ha O.hn O.htk O.hm),q⟩
    | non=>exact ⟨_, .base .non,T.bt _ _ h⟩
    | bl k=>exact ⟨_, .base (.bl k),T.bt _ _ h⟩
    | int k=>exact ⟨_, .base (.int k),T.bt _ _ h⟩
    | str k=>exact ⟨_, .base (.str _),T.bt _ _ h⟩
    | tup t hs=>exact ⟨_,t.tyX,T.bt _ _ h⟩
    | lst w r hs=>exact ⟨_, .base (.lst r),T.bt _ _ h⟩
    | scr r =>
      rcases r with ⟨_,r | ⟨ob,r⟩⟩ | ⟨o,its,n,r1,r2,_⟩
      · exact ⟨_, .base (.lst r),T.bt _ _ h⟩
      · exact ⟨_, .base (.frz r),T.bt _ _ h⟩
      · exact ⟨_, .kList r1 r2,T.bt _ _ h⟩
    | dic w r hs=>exact ⟨_, .fDict r,T.bt _ _ h⟩
    | gl x=>cases h
  | r e =>
    rename_i n q
    have h:(match S[n]? with
      | some (.lst _)=>tab.lookup "list"
      | some (.dic _)=>tab.lookup "dict"
      | some (.fdc _)=>tab.lookup "dict"
      | some (.ins C _)=>own.lookup C
      | _=>none)=some k:=h
    cases z:S[n]? with
    | none=>rw [z] at h; cases h
    | some ob =>
      rw [z] at h
      have y:=st.ob n _ q z e
      cases ob with
      | lst xs=>obtain ⟨vs,h1,_⟩:=y; exact ⟨_, .base (.lst h1),T.bt _ _ h⟩
      | dic xs=>obtain ⟨vs,h1,_⟩:=y; exact ⟨_, .base (.dK h1),T.bt _ _ h⟩
      | fdc xs=>obtain ⟨o,vs,h1,_⟩:=y; exact ⟨_, .fDict h1,T.bt _ _ h⟩
      | tdc xs=>cases h
      | tfc xs=>cases h
      | ins C fs =>
        obtain ⟨dx,vs,h1,_⟩:=y
        obtain ⟨O,q⟩:=T.ow _ _ h
        exact ⟨_, .base (.ins h1 O.cl O.ha O.hn O.htk O.hm),q⟩
end
end Bv
namespace Bv
open PySem PySem.Spec L2
open PyProof.Rows hiding St
structure DefB where
  ad:PySem.W.Frag→Addr
  name:Str
  qual:Str
  params:Arguments
  body:List Stmt
  scope:Scope
  dfl:List He.Dv:=[]
def Y7i (C m:Str) (K:PySem.W.Frag):Addr:=match PySem.W.recIn K (He.ma K (He.ga K C) m) "classmethod" with
  | some (.ref g :: _)=>g
  | _=>0
def seen (K:PySem.W.Frag) (a:Addr):He.FnW:=match K.lookup a with
  | some ⟨_,_, .func fd,_⟩=>some (fd.name,fd.qualname,fd.params,fd.body,fd.scope,fd.globals,fd.closure,fd.builtins)
  | _=>none
def DefB.val (d:DefB):He.FnW:=some (d.name,d.qual,d.params, .stmts d.body,d.scope,mainGlobals,[],builtinsNs)
def DefB.dvs (K:PySem.W.Frag) (d:DefB):List V:=d.dfl.map (He.Dv.v K)
def DefB.ok (K:PySem.W.Frag) (d:DefB):Bool:=PySem.W.keepIn K (.ref (d.ad K)) && (match K.lookup (d.ad K) with
  | some ⟨_,_, .func fd,_⟩=>PySem.W.codeIn K fd.code d.qual && He.dflB K fd.defaults (d.dvs K)
  | _=>false)
theorem DefB.fun {K:PySem.W.Frag} {d:DefB} (e:seen K (d.ad K)=d.val) (c:d.ok K=true):∃ fd,FunD K d.name d.qual d.params d.body d.scope (d.dvs K) [] (d.ad K) fd:=by
  obtain ⟨kp,c2⟩:=He.ba c
  unfold seen at e
  cases q:K.lookup (d.ad K) with
  | none=>rw [q] at c2; cases c2
  | some o =>
    obtain ⟨oc,od,dt,osl⟩:=o
    rw [q] at c2 e
    cases dt with
    | func fd =>
      obtain ⟨m1,m2,m3,m4,m5,m6,m7,m8,m9,m10,m11,m12,m13,m14,m15⟩:=fd
      have e2:(some (m1,m2,m3,m4,m5,m6,m7,m15):He.FnW)=some (d.name,d.qual,d.params, .stmts d.body,d.scope,mainGlobals,[],builtinsNs):=e
      simp only [Option.some.injEq,Prod.mk.injEq] at e2
      obtain ⟨rfl,rfl,rfl,rfl,rfl,rfl,rfl,rfl⟩:=e2
      obtain ⟨k1,k2⟩:=He.ba (show (PySem.W.codeIn K m13 d.qual && He.dflB K m8 (d.dvs K))=true from c2)
      exact ⟨_,⟨oc,od,m8,m9,m10,m11,m12,m13,m14,osl,rfl,q,k1,He.dflB_ok k2, .inl rfl⟩,kp⟩
    | _=>cases c2
abbrev AlB:Type:=Bool × List He.FnW
def X30 (ts:List (PySem.W.Frag→Bool)) (ds:List DefB) (K:PySem.W.Frag):AlB:=((ts.all fun t=>t K) && ds.all fun d=>d.ok K,ds.map fun d=>seen K (d.ad K))
def X33 (ds:List DefB):AlB:=(true,ds.map DefB.val)
def Y0v (ts:List (PySem.W.Frag→Bool)) (ds:List DefB) (K:PySem.W.Frag):Prop:=X30 ts ds K=X33 ds
section
variable {ts:List (PySem.W.Frag→Bool)} {ds:List DefB} {K:PySem.W.Frag}
theorem Y0v.both (c:Y0v ts ds K):(ts.all fun t=>t K)=true∧(ds.all fun d=>d.ok K)=true:=He.ba (show ((ts.all fun t=>t K) && ds.all fun d=>d.ok K)=true from congrArg (fun z:AlB=>z.1) c)
theorem Y0v.test (c:Y0v ts ds K) (i:Nat) {t:PySem.W.Frag→Bool} (h:ts[i]?=some t:=by rfl):t K=true:=List.all_eq_true.mp c.both.1 t (List.mem_of_getElem? h)
theorem Y0v.fun (c:Y0v ts ds K) (i:Nat) {d:DefB} (h:ds[i]?=some d:=by rfl):∃ fd,FunD K d.name d.qual d.params d.body d.scope (d.dvs K) [] (d.ad K) fd:=by
  have e:ds.map (fun d=>seen K (d.ad K))=ds.map DefB.val:=congrArg (fun z:AlB=>z.2) c
  have e2:=congrArg (fun l=>l[i]?) e
  simp only [List.getElem?_map,h,Option.map_some,Option.some.injEq] at e2
  exact DefB.fun e2 (List.all_eq_true.mp c.both.2 d (List.mem_of_getElem? h))
end
def Z2q (x:Str) (K:PySem.W.Frag):Bool:=(He.Fa.glo x).ok K
def Z3q (x:Str) (K:PySem.W.Frag):Bool:=(He.Fa.free x).ok K
def X3j (C:Str) (K:PySem.W.Frag):Bool:=(He.Fa.cls C).ok K
def X2n (C f:Str) (K:PySem.W.Frag):Bool:=(He.Fa.noat C f).ok K
def X0g (C:Str) (K:PySem.W.Frag):Bool:=(He.Fa.mkr C).ok K
def X0h (C:Str) (K:PySem.W.Frag):Bool:=(He.Fa.cls C).ok K && (He.eqO (PySem.W.findIn K (.ref (He.ga K C)) "__class__") (some (some (.builtin "object.__class__"))) && (He.eqO (PySem.W.specialIn K (.builtin "object.__class__") "__get__") (some (some (.builtin "getset_descriptor.__get__"))) &&
  (decide (PySem.W.takesIn K (.builtin "object.__class__")=some true) && decide (PySem.W.mroIn K (He.ga K C) (.type "object")=some true))))
theorem Y8x {C:Str} {K:PySem.W.Frag} (h:X0h C K=true):OwnIs K C:=by
  obtain ⟨c1,h⟩:=He.ba h
  obtain ⟨c2,h⟩:=He.ba h
  obtain ⟨c3,h⟩:=He.ba h
  obtain ⟨c4,c5⟩:=He.ba h
  exact ⟨He.cls_ok c1,He.eqO_ok c2,He.eqO_ok c3,of_decide_eq_true c4,of_decide_eq_true c5⟩
def X0i (C:Str) (K:PySem.W.Frag):Bool:=He.eqO (PySem.W.findIn K (.ref (He.ga K C)) "__str__") (some (some (.ref (He.ma K (He.ga K C) "__str__")))) && PySem.W.isFn K (.ref (He.ma K (He.ga K C) "__str__"))
theorem str_ok {C:Str} {K:PySem.W.Frag} (h:X0i C K=true):OwnStr K C (He.ma K (He.ga K C) "__str__"):=⟨He.eqO_ok (He.ba h).1,(He.ba h).2⟩
def Z9w (x:Str) (vs:List Str) (K:PySem.W.Frag):Bool:=He.tupB K x (vs.map He.Dv.str)
theorem Y3y {K:PySem.W.Frag} {W:Wd} {H:Hp}:∀ {vs:List Str},(vs.all fun z=>PyData.strOk z)=true→AVs K W H (vs.map D.str) ((vs.map He.Dv.str).map (He.Dv.v K))
  | [],_ => .nil
  | z :: r,h=>by
    rw [List.all_cons,Bool.and_eq_true] at h
    exact .cons (.str h.1) (Y3y h.2)
theorem Y9s {K:PySem.W.Frag} {x:Str} {vs:List He.Dv} (h:He.tupB K x vs=true):X3v K (He.ga K x) (vs.map (He.Dv.v K)):=by
  unfold He.tupB at h
  cases q:K.lookup (He.ga K x) with
  | none=>rw [q] at h; cases h
  | some o =>
    obtain ⟨oc,od,dt,osl⟩:=o
    rw [q] at h
    cases oc with
    | type c =>
      cases dt with
      | seq its n =>
        obtain ⟨h1,h2⟩:=He.ba (show (decide (c = "tuple") && (decide (its.size ≤ sizeLine) && He.relAll (vs.map (He.Dv.v K)) its.toList))=true from h)
        obtain ⟨h3,h4⟩:=He.ba h2
        exact ⟨_,its,n,q,congrArg Value.type (of_decide_eq_true h1),rfl,of_decide_eq_true h3,He.relAll_ok h4⟩
      | _=>cases h
    | _=>cases dt <;> cases h
theorem Y8k {K:PySem.W.Frag} {x:Str} {vs:List Str} (h:Z9w x vs K=true) (hv:(vs.all fun z=>PyData.strOk z)=true:=by decide +kernel):∃ v,(∀ W H,AV K W H (.tup (vs.map D.str)) v)∧RelV v (.ref (He.ga K x)) :=
  ⟨.ref (He.ga K x),fun W H => .tup (.inr (Y9s h)) (Y3y hv),rfl⟩
def X2o (x z:Str) (K:PySem.W.Frag):Bool:=(He.Fa.str x z).ok K
def X2m (x:Str) (i:Int) (K:PySem.W.Frag):Bool:=(He.Fa.int x i).ok K
section
variable {K:PySem.W.Frag} {h:Heap} {mg:Str→Option Value}
def X2l (f:Str × Option Str) (i:Nat) (K:PySem.W.Frag):Bool:=match K.lookup (He.dflAt f i K) with
  | some ⟨.type c,_, .seq its _,_⟩=>decide (c = "tuple") && decide (its.size=0)
  | _=>false
end
structure Kept (P:Program) (w:World) (K:PySem.W.Frag) (mg:Str→Option Value) (base:Heap) (k:Nat) (f:Addr) (sp:Sp):Prop where
  ex:∃ fd ps,FnG P w K mg base k f fd ps sp∧Binds K fd ps []
  kp:PySem.W.keepIn K (.ref f)=true
structure KeptD (P:Program) (w:World) (K:PySem.W.Frag) (mg:Str→Option Value) (base:Heap) (k:Nat) (f:Addr) (sp:Sp) (dxs:List D):Prop where
  ex:∃ fd ps dvs ds,FnG P w K mg base k f fd ps sp∧Binds K fd ps ds∧Dft K dxs dvs ds
  kp:PySem.W.keepIn K (.ref f)=true
structure Here (X:Cx) (Wx:WX) (k:Nat):Prop where
  tk:Xq.Tk X Wx
  gu:X.A.guards=some []
  room:Room k X.A
section
variable [HasW] {X:Cx} {Wx:WX} {k j n:Nat} {f:Addr} {dxs:List D}
theorem Here.callE {g:List Bv.X→Sto→R Bv.X} (h:Here X Wx k) (c:Kept X.prog X.w X.K X.mg X.base j f (spE X.K n g)) (hj:j ≤ k:=by decide):Y69 X Wx (.ref f) n (X7 [] g):=by
  obtain ⟨fd,ps,F,b⟩:=c.ex
  exact X21 h.tk h.gu F (h.room.mono hj) b Y20
theorem Here.callP {g:List D→PR} (h:Here X Wx k) (c:Kept X.prog X.w X.K X.mg X.base j f (spP X.K n g)) (hj:j ≤ k:=by decide):Y69 X Wx (.ref f) n (X7 [] (Bv.callP g)):=by
  obtain ⟨fd,ps,F,b⟩:=c.ex
  exact X22 h.tk h.gu F (h.room.mono hj) b Y20
theorem Here.make {C:Str} {mk:Nat→R Bv.X→R Bv.X} {g:List Bv.X→Sto→R Bv.X} (hm:Mks mk) (h:Here X Wx k) (M:Mk X.K (He.ga X.K C) f) (c:Kept X.prog X.w X.K X.mg X.base j f (spE X.K (n + 1) g)) (hj:j + 1 ≤ k:=by decide):Y69 X Wx (.ref (He.ga X.K C)) n (X7 [] (made C mk g)):=by
  obtain ⟨fd,ps,F,b⟩:=c.ex
  exact Y7h hm h.tk h.gu M F (h.room.mono hj) b Y20
end
end Bv
namespace Bv
open PySem PySem.Spec L2
open PyProof.Rows hiding St
variable [HasW]
theorem Z0o {P:Program} {w:World} {K:PySem.W.Frag} {mg:Str→Option Value} {base:Heap} {N:List Str} {qual:Str} {sc:Scope} {f:Addr} {cdv:Value} {A:Around} {outer:List Env} {s:Shared} {H:Hp} {E:XK} {k:Nat}
    (gu:A.guards=some []) (room:Room k (A.deeper (envOfC qual sc s.heap.objs.size f cdv))):Here (cxB P w K mg base N qual sc f cdv A outer s H E) (wxE E) k :=
  ⟨Xq.tk_of (E:=E) rfl rfl rfl rfl,gu,room⟩
theorem Z7k {P:Program} {w:World} {K:PySem.W.Frag} {mg:Str→Option Value} {base:Heap} {N:List Str} {qual:Str} {sc:Scope} {f:Addr} {cdv:Value} {A:Around} {outer:List Env} {s:Shared} {H:Hp} {E:XK} :
    PassesOwn (model (cxB P w K mg base N qual sc f cdv A outer s H E).prog (cxB P w K mg base N qual sc f cdv A outer s H E).w) (cxB P w K mg base N qual sc f cdv A outer s H E).A (cxB P w K mg base N qual sc f cdv A outer s H E).env (cxB P w K mg base N qual sc f cdv A outer s H E).xe :=
  passes_of (X:=cxB P w K mg base N qual sc f cdv A outer s H E) rfl
theorem Y4e {P:Program} {w:World} {K:PySem.W.Frag} {mg:Str→Option Value} {base:Heap} {N:List Str} {qual:Str} {sc:Scope} {f:Addr} {cdv:Value} {A:Around} {outer:List Env} {s:Shared} {H:Hp} {E:XK} (hd:Option Value) :
    PassesOwnAt (model (cxB P w K mg base N qual sc f cdv A outer s H E).prog (cxB P w K mg base N qual sc f cdv A outer s H E).w) ((cxB P w K mg base N qual sc f cdv A outer s H E).A.mark hd) (cxB P w K mg base N qual sc f cdv A outer s H E).A (cxB P w K mg base N qual sc f cdv A outer s H E).env (cxB P w K mg base N qual sc f cdv A outer s H E).xe :=
  L2H.passesAt_of (X:=cxB P w K mg base N qual sc f cdv A outer s H E) rfl hd
section
variable {X:Cx} {Wx:WX} {k:Nat} {pos:Pos} {a b c:Expr} {ma mb mc m:M}
theorem Here.blk (h:Here X Wx k) (s:Shared) (H:Hp) (sc:Scope) (ce:Env) (fp:List Addr):Here (X.blk s H sc ce fp) WX0 k:=⟨Xq.tk0,h.gu,h.room⟩
theorem Here.u64 (h:Here X Wx k):X.A.units + 64 < cLine:=by have:=h.room.un; omega
theorem Here.u65 (h:Here X Wx k):X.A.units + 65 < cLine:=by have:=h.room.un; omega
structure Opr (X:Cx) (s:Value→Value→Sem Value) (f:D→D→Option D):Prop where
  ex:∃ r:R2,OpR X s r∧Op2 X.K r f
theorem Here.eq (h:Here X Wx k):Opr X (compareOp .Eq) eqD:=⟨_,op_eqD h.u64,X4n⟩
theorem Here.ne (h:Here X Wx k):Opr X (compareOp .NotEq) neD:=⟨_,op_neD h.u64,X4q⟩
theorem Here.in_ (h:Here X Wx k):Opr X (compareOp .In) inD:=⟨_,X13 h.u65,X4o⟩
theorem Here.nin (h:Here X Wx k):Opr X (compareOp .NotIn) Z8s:=⟨_,Y97 h.u65,X3d⟩
theorem Here.lt (h:Here X Wx k):Opr X (compareOp .Lt) ltD:=⟨_,op_lt,Y4c⟩
theorem Here.le (h:Here X Wx k):Opr X (compareOp .LtE) leD:=⟨_,op_le,Y4c⟩
theorem Here.gt (h:Here X Wx k):Opr X (compareOp .Gt) gtD:=⟨_,op_gt,Y4c⟩
theorem Here.ge (h:Here X Wx k):Opr X (compareOp .GtE) geD:=⟨_,op_ge,Y4c⟩
theorem Here.is_ (h:Here X Wx k):Opr X (compareOp .Is) isD:=⟨_,op_isN,X4p⟩
theorem Here.isn (h:Here X Wx k):Opr X (compareOp .IsNot) X1j:=⟨_,op_notN,X3c⟩
theorem Here.add (h:Here X Wx k):Opr X (binaryOp .Add) Z2f:=⟨_,Y6k,X1z⟩
theorem Here.sub (h:Here X Wx k):Opr X (binaryOp .Sub) Y84:=⟨_,op_sub,X10⟩
theorem Here.mul (h:Here X Wx k):Opr X (binaryOp .Mult) Y0o:=⟨_,op_mul,Y4d⟩
theorem Here.fdiv (h:Here X Wx k):Opr X (binaryOp .FloorDiv) Y5x:=⟨_,op_fdiv,Y4d⟩
theorem Here.mod (h:Here X Wx k):Opr X (binaryOp .Mod) Y29:=⟨_,op_mod,Y4d⟩
theorem Here.pow (h:Here X Wx k):Opr X (binaryOp .Pow) X3f:=⟨_,op_pow,Y4d⟩
theorem Z3m {op:Operator} {f:D→D→Option D} (o:Opr X (binaryOp op) f) (ha:ME X Wx a ma) (hb:ME X Wx b mb):ME X Wx (.BinOp a op b pos) (Y1 f ma mb):=by
  obtain ⟨r,h1,h2⟩:=o.ex
  exact X3b h1 h2 ha hb
theorem Z6w {op:CmpOp} {f:D→D→Option D} (o:Opr X (compareOp op) f) (ha:ME X Wx a ma) (hb:ME X Wx b mb) (hm:behindInMarks op b=false:=by first | exact nomark _ | (with_unfolding_all rfl)):ME X Wx (.Compare a [op] [b] pos) (Y1 f ma mb):=by
  obtain ⟨r,h1,h2⟩:=o.ex
  exact X1p h1 h2 ha hb hm
theorem Q9 {op:CmpOp} {f:D→D→Option D} (o:Opr X (compareOp op) f) (ha:ME X Wx a ma) (hb:ME X Wx b mb) (hm:behindInMarks op b=false:=by first | exact nomark _ | (with_unfolding_all rfl)):MT X Wx (.Compare a [op] [b] pos) (V6 (Y1 f ma mb)):=by
  obtain ⟨r,h1,h2⟩:=o.ex
  exact X1u h1 h2 ha hb hm
theorem Y61 {op op':CmpOp} {f g:D→D→Option D} (o:Opr X (compareOp op) f) (o':Opr X (compareOp op') g) (ha:ME X Wx a ma) (hb:ME X Wx b mb) (hc:ME X Wx c mc) (hm:lastMarks [op,op'] [b,c]=false:=by with_unfolding_all rfl) :
    MT X Wx (.Compare a [op,op'] [b,c] pos) (V6 (V0 f g ma mb mc)):=by
  obtain ⟨r,h1,h2⟩:=o.ex
  obtain ⟨r',h1',h2'⟩:=o'.ex
  exact Y7w h1 h1' h2 h2' ha hb hc hm
theorem X08 {x z:Str} (hg:Gl X x) (h:∃ t,X.mg x=some (.str z t)) (hz:PyData.strOk z=true:=by decide +kernel) (hd:(x == ("__debug__" : Str))=false:=by decide):ME X Wx (.Name x pos) (m_c (.str z)):=by
  obtain ⟨t,e⟩:=h
  exact Y07 hg e ⟨.str z,fun _ _ => .str hz,⟨t,rfl⟩⟩ hd
theorem X07 {x:Str} {i:Int} (hg:Gl X x) (h:∃ t,X.mg x=some (.int i t)) (hd:(x == ("__debug__" : Str))=false:=by decide):ME X Wx (.Name x pos) (m_c (.int i)):=by
  obtain ⟨t,e⟩:=h
  exact Y07 hg e ⟨.int i,fun _ _ => .int i,⟨t,rfl⟩⟩ hd
theorem Z9e {x:Str} {vs:List Str} (hg:Gl X x) (h:X.mg x=some (.ref (He.ga X.K x))) (hv:Z9w x vs X.K=true) (hz:(vs.all fun z=>PyData.strOk z)=true:=by decide +kernel) (hd:(x == ("__debug__" : Str))=false:=by decide):ME X Wx (.Name x pos) (m_c (.tup (vs.map D.str))) :=
  Y07 hg h (Y8k hv hz) hd
theorem Y8l {x:Str} (hg:Gl X x) (h:X.mg x=some (.ref (He.ga X.K x))) (hd:(x == ("__debug__" : Str))=false:=by decide):ME X Wx (.Name x pos) (m_c (.gl x)) :=
  Y07 hg h ⟨.ref (He.ga X.K x),fun _ _ => .gl x,rfl⟩ hd
theorem X0p {x:Str} {T:String} (hg:Gl X x) (hm:X.mg x=none) (hv:bootBuiltins x=some (.type T):=by rfl) (hn:x ≠ "__name__" := by decide) (hd:(x == ("__debug__" : Str))=false:=by decide):PE X (.Name x pos) (tC (.ty T)):=pe_bltn hg hm hv rfl hn hd
theorem X3e {x:Str} (hg:Gl X x) (h:X.mg x=some (.ref (He.ga X.K x))) (hd:(x == ("__debug__" : Str))=false:=by decide):PE X (.Name x pos) (tC (.ref (He.ga X.K x))):=pe_glob hg h rfl hd
end
end Bv
namespace Bv
open PySem PySem.Spec L2
open PyProof.Rows hiding St
variable [HasW]
def Z8c:List (String × Bool):=[("NoneType",false),("bool",false),("int",false),("str",false),("tuple",false),("list",false),("dict",false)]
section
variable {X:Cx} {Wx:WX} {k j n:Nat} {pos p:Pos} {e:Expr} {es:List Expr} {ms:MG (List Bv.X)} {C:Str} {g:List D→PR}
theorem Kept.strO (c:Kept X.prog X.w X.K X.mg X.base j (He.ma X.K (He.ga X.K C) "__str__") (spP X.K 1 g)) (O:OwnStr X.K C (He.ma X.K (He.ga X.K C) "__str__")) (h:Here X Wx k) (hj:j + 2 ≤ k) (hg:Gl X "str") (hm:X.mg "str" = none) (ha:MA X Wx (e :: es) ms)
    (he:starEach (e :: es) X.env=(false,eval e X.env) :: starEach es X.env:=by rfl) (hpl:(backTo pos (starEach es X.env)).any (·.1)=false:=by rfl):ME X Wx (.Call (.Name "str" p) (e :: es) [] pos) (Z8 (Z6z C g) ms):=by
  obtain ⟨fd,ps,F,b⟩:=c.ex
  exact Z4i (X03 h.gu F O (h.room.mono hj) b) X0x hg hm ha (by rfl) (by decide) (by decide) he hpl
end
end Bv
namespace Bv
open PySem PySem.Spec L2
open PyProof.Rows hiding St
def Y8e (u:PySem.W.Frag→Value) (tab:List (String × Bool)) (own:List (Str × Bool)) (K:PySem.W.Frag):Bool:=(tab.all fun p=>decide (PySem.W.kitOne K (.type p.1) (u K)=some p.2)) && own.all fun p=>X0h p.1 K && decide (PySem.W.kitOne K (.ref (He.ga K p.1)) (u K)=some p.2)
def Y86 (us:List Value) (tab:List (String × Bool)) (own:List (Str × Bool)) (K:PySem.W.Frag):Bool:=(tab.all fun p=>decide (PySem.W.kitAny K (.type p.1) us=some p.2)) && own.all fun p=>X0h p.1 K && decide (PySem.W.kitAny K (.ref (He.ga K p.1)) us=some p.2)
def Y4o (Ts:List String):List (String × Bool):=["NoneType", "bool", "int", "str", "tuple", "list", "dict"].map fun k=>(k,Ts.any fun T=>kitB k T == some true)
section
variable {K:PySem.W.Frag} {h:Heap} {mg:Str→Option Value}
theorem Y53 {u:PySem.W.Frag→Value} {tab:List (String × Bool)} {own:List (Str × Bool)} (c:Y8e u tab own K=true):IsT K (u K) tab own:=by
  obtain ⟨c1,c2⟩:=He.ba c
  refine ⟨fun k b q=>of_decide_eq_true (List.all_eq_true.mp c1 (k,b) (Y56 q)),fun C b q=>?_⟩
  obtain ⟨c3,c4⟩:=He.ba (List.all_eq_true.mp c2 (C,b) (PySem.mem_of_lookup q))
  exact ⟨Y8x c3,of_decide_eq_true c4⟩
theorem Y9p {us:List Value} {tab:List (String × Bool)} {own:List (Str × Bool)} (c:Y86 us tab own K=true):IsTs K us tab own:=by
  obtain ⟨c1,c2⟩:=He.ba c
  refine ⟨fun k b q=>of_decide_eq_true (List.all_eq_true.mp c1 (k,b) (Y56 q)),fun C b q=>?_⟩
  obtain ⟨c3,c4⟩:=He.ba (List.all_eq_true.mp c2 (C,b) (PySem.mem_of_lookup q))
  exact ⟨Y8x c3,of_decide_eq_true c4⟩
def Z60 (Cs:List Str) (f:Str) (K:PySem.W.Frag):Bool:=Cs.all fun C=>X3j C K && X2n C f K
theorem Z5j {Cs:List Str} {f:Str} (c:Z60 Cs f K=true):Z5x K Cs f:=fun C m=>by
  obtain ⟨c1,c2⟩:=He.ba (List.all_eq_true.mp c C m)
  exact ⟨He.cls_ok c1,He.noat_ok c2⟩
theorem Z0a (X:K.In h) (G:h.Ns mainGlobals mg) {x:Str} (c:Z2q x K=true):mg x=some (.ref (He.ga K x)):=He.glo_ok X G c
theorem Z1w (X:K.In h) (G:h.Ns mainGlobals mg) {x:Str} (c:Z3q x K=true):mg x=none:=He.free_ok X G c
theorem X0k (X:K.In h) (G:h.Ns mainGlobals mg) {x z:Str} (c:X2o x z K=true):∃ t,mg x=some (.str z t):=He.str_ok X G c
theorem Y9o (X:K.In h) (G:h.Ns mainGlobals mg) {x:Str} {i:Int} (c:X2m x i K=true):∃ t,mg x=some (.int i t):=He.int_ok X G c
theorem Y6b {C:Str} (c:X0g C K=true):Mk K (He.ga K C) (He.ma K (He.ga K C) "__init__"):=He.mkr_ok c
end
section
variable {P:Program} {w:World} {K:PySem.W.Frag} {mg:Str→Option Value} {base:Heap} {k:Nat} {f:Addr} {fd:FuncData} {ps:List Str} {sp:Sp} {x qual:Str} {pa:Arguments} {bd:List Stmt} {sc:Scope} {dl:List V}
theorem Z3x (F:FunD K x qual pa bd sc [] [] f fd) (ok:FnG P w K mg base k f fd ps sp)
    (h:∀ (kV doc pm:Value) (an:Option Addr) (cdv ct:Value) (us:List Value),us.length=ps.length→bindArgs (PySem.W.fnOf x qual pa bd sc .none kV doc pm an cdv ct) ⟨us,[]⟩=pure (ps.zip us)):Kept P w K mg base k f sp:=⟨⟨fd,ps,ok,F.bindsN h⟩,F.kp⟩
theorem X1k (F:FunD K x qual pa bd sc dl [] f fd) (ok:FnG P w K mg base k f fd ps sp) (hd:dl ≠ [])
    (h:∀ (T:Addr) (kV doc pm:Value) (an:Option Addr) (cdv ct:Value) (us its:List Value),us.length=ps.length→its.length=dl.length →
      ∃ k,bindArgs (PySem.W.fnOf x qual pa bd sc (.ref T) kV doc pm an cdv ct) ⟨us,[]⟩=seqItems? (.ref T) >>= k∧k (some its.toArray)=pure (ps.zip (us++its.drop dl.length))):Kept P w K mg base k f sp:=by
  obtain ⟨ds,r,b⟩:=F.binds1 ps.length dl.length hd (by omega) h
  rw [List.drop_length] at r
  cases r
  exact ⟨⟨fd,ps,ok,b⟩,F.kp⟩
end
theorem law_sp {K:PySem.W.Frag} {g:List D→PR} (hg:∀ ns:List Int,ns.length ≤ 63→g [.scr ns] = .ok (.bl true)) (H:Hp) (a:Addr) (ns:List Int) (hl:ns.length ≤ 63) (only:Only H) (hS:SqL K H a (ns.map V.int)):spP K 1 g [.ref a] H (fun v _=>v = .bl true) fun _ _ _=>False:=by
  refine ⟨rfl,fun _=>False,[.scr ns],fun _ z=>z.elim, .cons (.scr ?_) .nil,?_⟩
  · rcases hS with h | h
    · exact .inl ⟨fun z=>z,h⟩
    · exact .inr h
  · rw [hg ns hl]
    intro H' v k a
    cases a
    rfl
end Bv
namespace Bv
open PySem PySem.Spec L2
open PyProof.Rows hiding St
variable [HasW]
def Z2m (acc:List Str) (x:Str):List Str:=if acc.contains x then acc else acc++[x]
def Z4q (xs:List Str):List Str:=xs.foldl Z2m []
theorem Y2k {xs:List Str} {i:Nat} (h:i < xs.length):Z4q (xs.take (i + 1))=Z2m (Z4q (xs.take i)) (xs.getD i Str.empty):=by
  unfold Z4q
  rw [List.take_add_one,List.getElem?_eq_getElem h,Option.toList_some,List.foldl_append]
  simp [List.getD_eq_getElem?_getD,h]
theorem Y2i (acc:List Str) (x k:Str):(Z2m acc x).contains k=(acc.contains k || decide (k=x)):=by
  unfold Z2m
  by_cases h:acc.contains x=true
  · rw [if_pos h]
    by_cases e:k=x
    · rw [e,h]; rfl
    · simp [e]
  · rw [if_neg h]
    simp [List.contains_append,Bool.or_comm,eq_comm]
theorem Y0s (acc:List Str) (x:Str):(Z2m acc x).length=if acc.contains x then acc.length else acc.length + 1:=by
  unfold Z2m
  split <;> simp
theorem Z9u:∀ (xs acc:List Str),(xs.foldl Z2m acc).length ≤ acc.length + xs.length
  | [],acc=>by simp
  | x :: r,acc=>by
    have h:=Z9u r (Z2m acc x)
    have h2:=Y0s acc x
    simp only [List.foldl_cons,List.length_cons]
    split at h2 <;> omega
section
variable {prog:Program} {w:World} {A:Around} {R:Result→Shared→Prop} {it:Addr} {fp wr:List Addr} {G:Array GenState→Array GenState→Prop} {n:Nat} {P:Nat→Value→Prop} {St:Nat→Shared→Prop}
theorem fill (W:WalksS prog w A.in1 it fp wr G n P St) (S:Addr) (apart:S ∉ fp) (xs:List Str) (many:xs.length=n) (few:xs.length + 1 < scanBound) (says:∀ i v,P i v→∃ t,v = .str (xs.getD i Str.empty) t) :
    ∀ (k i:Nat) (s:Shared),n - i=k→i ≤ n→St i s→s.heap.SetOf (PySem.strKind prog w) S (fun k=>(Z4q (xs.take i)).contains k) (Z4q (xs.take i)).length →
      (∀ s',Moved (S :: wr) G s s'→s'.heap.SetOf (PySem.strKind prog w) S (fun k=>(Z4q (xs.take n)).contains k) (Z4q (xs.take n)).length→R (.ok (.ret .none)) s') →
      codeAny (model prog w) A (.builtin "set.update.loop" ⟨[.ref S, .ref it],[]⟩) R s:=by
  have out:S ∉ wr:=fun z=>apart (W.sub _ z)
  have more:∀ b ∈ wr,b ∈ S :: wr:=fun b z=>List.mem_cons_of_mem _ z
  have stay:∀ {i:Nat} {s s':Shared},Moved wr G s s'→s.heap.SetOf (PySem.strKind prog w) S (fun k=>(Z4q (xs.take i)).contains k) (Z4q (xs.take i)).length→s'.heap.SetOf (PySem.strKind prog w) S (fun k=>(Z4q (xs.take i)).contains k) (Z4q (xs.take i)).length :=
    fun mv ⟨o,es,ep,t,q,rest⟩=>⟨o,es,ep,t,mv.heap S _ out q,rest⟩
  intro k
  induction k with
  | zero =>
    intro i s e1 e2 st set fin
    obtain rfl:i=n:=by omega
    refine (codeAny_builtin PyProof.Rows.F.entry_set_update_loop ?_)
    rw [(Around.under_plainId PyProof.Rows.F.plain_set_update_loop _)]
    show wpAny _ A.in1 (pyNext (.ref it) >>= _) _ _ s
    refine wpAny_bind (W.done s _ _ st fun s' mv=>?_)
    exact wpAny_pure (fin s' (mv.mono more) (stay mv set))
  | succ k ih =>
    intro i s e1 e2 st set fin
    have lt:i < n:=by omega
    refine (codeAny_builtin PyProof.Rows.F.entry_set_update_loop ?_)
    rw [(Around.under_plainId PyProof.Rows.F.plain_set_update_loop _)]
    show wpAny _ A.in1 (pyNext (.ref it) >>= _) _ _ s
    refine wpAny_bind (W.item i s _ _ lt st fun v s' p st' mv=>?_)
    obtain ⟨t,rfl⟩:=says i v p
    have set':=stay mv set
    have room:(Z4q (xs.take i)).length + 1 < scanBound:=by
      have h:=Z9u (xs.take i) []
      have h2:=List.length_take_le i xs
      unfold Z4q at *
      simp only [List.length_nil,Nat.zero_add] at h
      omega
    show wpAny _ A.in1 (holding [Value.str (xs.getD i Str.empty) t] (setAdd S (.str (xs.getD i Str.empty) t)) >>= _) _ _ s'
    refine (wpAny_bind (wpAny_holding ?_))
    unfold setAdd
    refine (wpAny_holding (wpAny_bind ((PySem.strKind prog w).pyHash (k:=xs.getD i Str.empty) (strKind_is _ _ _ _) ?_)))
    refine wpAny_setAddHashed_of (knd:=PySem.strKind prog w) (s:={ s' with toks:=s'.toks + 1 }) (strKind_is _ _ _ _) rfl set' room fun h' but set2=>?_
    have set3:h'.SetOf (PySem.strKind prog w) S (fun k=>(Z4q (xs.take (i + 1))).contains k) (Z4q (xs.take (i + 1))).length:=SetOf_congr set2 (fun k=>by rw [Y2k (by omega),Y2i]) (by rw [Y2k (by omega),Y0s])
    refine wpAny_pure ⟨plainId_quiet PyProof.Rows.F.plain_set_update_loop _,ih (i + 1) _ (by omega) lt (W.frame _ s' _ _ st' (Nat.le_succ _) fun b z o q=>?_) set3 fun s2 mv2 q2=>?_⟩
    · rw [but.2 b fun y=>apart (by rw [← y]; exact z)]; exact q
    · refine fin s2 (Moved.trans W.gtrans ((mv.mono more).then_heap (Nat.le_succ _) fun b o z q=>?_) mv2) q2
      rw [but.2 b fun y=>z (by rw [y]; exact List.mem_cons_self)]; exact q
end
section
variable {prog:Program} {w:World} {A:Around} {E:Value→Shared→Prop} {s:Shared}
set_option maxHeartbeats 3200000 in
theorem set_list {l:Addr} {items:Array Value} {xs:List Str} {Q:Value→Shared→Prop} (calm:A.handled=none) (at_:s.heap.IsList l items) (are:StrsAre items.toList xs) (few:xs.length + 1 < scanBound)
    (fin:∀ (h':Heap) (tk:Nat),h'.SetOf (PySem.strKind prog w) s.heap.objs.size (fun k=>(Z4q xs).contains k) (Z4q xs).length→(∀ b o,b < s.heap.objs.size→s.heap.get? b=some o→h'.get? b=some o)→Q (.ref s.heap.objs.size) { s with heap:=h',toks:=tk }) :
    wpAny (model prog w) A (call (.type "set") [.ref l]) Q E s:=by
  obtain ⟨c,tl,known⟩:=PySem.F.called_set.mro
  have mk:=PySem.F.called_set.made
  have below:=PySem.F.called_set.sub
  have no1:=PySem.F.called_set.notType
  have may:=PySem.F.called_set.canCreate
  have chk:=PySem.F.typeCall_set_1 (.ref l)
  have slen:xs.length=items.size:=by rw [← StrsAre.len_eq are,Array.length_toList]
  refine wpAny_call (codeAny_of_tree ?_)
  show wpAny _ _ (callAny (.type "set") _) _ E s
  refine (wpAny_pure ⟨Code.quiet_builtin _ (by decide +kernel),(codeAny_builtin PySem.F.entry_type_call ?_)⟩)
  rw [(Around.under_plain (weight_type_call_type "set" [.ref l] []) rfl)]
  (repeat (any_goals (first | assumption | wp_step)))
  let new (led:Bool):Heap:=s.heap.push { cls := .type "set",dict:=none,data := .set #[] 0 (.fresh 0 0 led) }
  refine codeAny_mono (code_set_new_1 (.ref l) (E:=E) (Q₁:=fun obj s1=>∃ led:Bool,obj = .ref s.heap.objs.size∧s1={ s with heap:=new led }) fun led=>⟨led,rfl,rfl⟩) fun y s1 z=>?_
  match y,z with
  | .error e,z=>exact z
  | .ok (.ret obj),z =>
    obtain ⟨led,rfl,rfl⟩:=z
    have there:(new led).get? s.heap.objs.size=some { cls := .type "set",dict:=none,data := .set #[] 0 (.fresh 0 0 led) }:=Heap.get?_push_size _ rfl
    have isSet:Shared.TypeIs { s with heap:=new led } (.ref s.heap.objs.size) "set" := ⟨_,there,rfl⟩
    have look:=PySem.F.called_set.init.lookup
    have bound:=PySem.F.called_set.init.bind (.ref s.heap.objs.size)
    (repeat (any_goals (first | assumption | wp_step)))
    refine codeAny_mono (codeAny_call_builtin (R:=wants (fun r s2=>r = .none∧∃ h' tk,s2={ s with heap:=h',toks:=tk }∧h'.SetOf (PySem.strKind prog w) s.heap.objs.size (fun k=>(Z4q xs).contains k) (Z4q xs).length∧(∀ b o,b < s.heap.objs.size→s.heap.get? b=some o→h'.get? b=some o)) E)
      PySem.F.called_set.init.plain PySem.F.entry_set_init (check_set_init_1 isSet ?_)) fun y2 s2 z2=>?_
    · obtain ⟨ob,hob,cl,n,dt⟩:=at_
      obtain ⟨obc,obd,obt,obs⟩:=ob
      simp only at cl dt
      subst cl dt
      have ob2:(new led).get? l=some { cls := .type "list",dict:=obd,data := .seq items n,slots:=obs }:=Heap.get?_push_of_some _ hob
      have no2:=PySem.F.sub_list_set
      have no3:=PySem.F.sub_list_frozenset
      have no4:(Value.type "list" == Value.type "dict")=false:=by decide
      have isL:(new led).IsList l items:=⟨_,ob2,rfl,n,rfl⟩
      unfold Builtin.«set.__init__» noKeywords Builtin.Frozenset.updateFrom
      generalize hp:pyIter=it
      wp_walk
      subst hp
      refine wpAny_pyIter_list isL ?_
      refine (wpAny_bind (wpAny_runValue ?_))
      have lt:l < s.heap.objs.size:=Heap.lt_size hob
      have sz:(new led).objs.size=s.heap.objs.size + 1:=Heap.size_push ..
      have off1:l ≠ (new led).objs.size:=by rw [sz]; exact Nat.ne_of_lt (Nat.lt_succ_of_lt lt)
      have off2:s.heap.objs.size ∉ [(new led).objs.size,l]:=by
        simp only [List.mem_cons,List.not_mem_nil,or_false,not_or]
        exact ⟨by rw [sz]; exact Nat.ne_of_lt (Nat.lt_succ_self _),Nat.ne_of_gt lt⟩
      refine fill ((Walks.list (show A.in1.in1.in1.handled=none by simp [calm]) _ l off1 items).toS) s.heap.objs.size off2 xs slen few (fun i v q=>SS.strs_at are i v (by rw [Array.getElem?_toList]; exact q)) (items.size - 0) 0 _ (by omega) (Nat.zero_le _) ⟨⟨_,Heap.get?_push_size _ rfl,rfl,rfl⟩,isL.push _⟩ ?_ ?_
      · have there2:((new led).push { cls := .type "list_iterator",data := .fields #[.ref l, .int 0 0] }).get? s.heap.objs.size=some { cls := .type "set",dict:=none,data := .set #[] 0 (.fresh 0 0 led) }:=Heap.get?_push_of_some _ there
        exact SetOf_congr ((setObjOf_fresh (knd:=PySem.strKind prog w) led).setOf there2 (by unfold scanBound; omega)) (fun _=>rfl) rfl
      · intro s3 mv set3
        obtain ⟨h3,g3,d3,t3,o3⟩:=s3
        obtain rfl:g3=s.gens:=mv.gens
        obtain rfl:d3=s.drawn:=mv.drawn
        obtain rfl:o3=s.os:=mv.os
        show (wpAny _ _ _ _ _ _)
        refine (wpAny_pure ?_)
        show (wpAny _ _ (ret Value.none) _ _ _)
        refine wpAny_pure ⟨rfl,h3,t3,rfl,by rw [← slen,List.take_length] at set3; exact set3,fun b o hb q=>?_⟩
        exact mv.heap b o (by simp only [List.mem_cons,List.not_mem_nil,or_false,not_or]; exact ⟨Nat.ne_of_lt hb,by rw [sz]; exact Nat.ne_of_lt (Nat.lt_succ_of_lt hb)⟩) (Heap.get?_push_of_some _ (Heap.get?_push_of_some _ q))
    · match y2,z2 with
      | .error e,z2=>exact z2
      | .ok (.ret r),z2 =>
        obtain ⟨rfl,h3,t3,rfl,set3,keep3⟩:=z2
        (repeat (any_goals (first | assumption | wp_step)))
        exact fin _ _ set3 keep3
      | .ok .next,z2=>exact z2.elim
      | .ok .brk,z2=>exact z2.elim
      | .ok .cont,z2=>exact z2.elim
  | .ok .next,z=>exact z.elim
  | .ok .brk,z=>exact z.elim
  | .ok .cont,z=>exact z.elim
end
end Bv
namespace Bv
open PySem PySem.Spec L2
open PyProof.Rows hiding St
variable [HasW]
section
variable {prog:Program} {w:World} {A:Around} {E:Value→Shared→Prop} {s:Shared}
set_option maxHeartbeats 3200000 in
theorem Y6r {l:Addr} {items:Array Value} {xs:List Str} {Q:Value→Shared→Prop} (calm:A.handled=none) (at_:s.heap.IsTuple l items) (are:StrsAre items.toList xs) (few:xs.length + 1 < scanBound)
    (fin:∀ (h':Heap) (tk:Nat),h'.SetOf (PySem.strKind prog w) s.heap.objs.size (fun k=>(Z4q xs).contains k) (Z4q xs).length→(∀ b o,b < s.heap.objs.size→s.heap.get? b=some o→h'.get? b=some o)→Q (.ref s.heap.objs.size) { s with heap:=h',toks:=tk }) :
    wpAny (model prog w) A (call (.type "set") [.ref l]) Q E s:=by
  obtain ⟨c,tl,known⟩:=PySem.F.called_set.mro
  have mk:=PySem.F.called_set.made
  have below:=PySem.F.called_set.sub
  have no1:=PySem.F.called_set.notType
  have may:=PySem.F.called_set.canCreate
  have chk:=PySem.F.typeCall_set_1 (.ref l)
  have slen:xs.length=items.size:=by rw [← StrsAre.len_eq are,Array.length_toList]
  refine wpAny_call (codeAny_of_tree ?_)
  show wpAny _ _ (callAny (.type "set") _) _ E s
  refine (wpAny_pure ⟨Code.quiet_builtin _ (by decide +kernel),(codeAny_builtin PySem.F.entry_type_call ?_)⟩)
  rw [(Around.under_plain (weight_type_call_type "set" [.ref l] []) rfl)]
  (repeat (any_goals (first | assumption | wp_step)))
  let new (led:Bool):Heap:=s.heap.push { cls := .type "set",dict:=none,data := .set #[] 0 (.fresh 0 0 led) }
  refine codeAny_mono (code_set_new_1 (.ref l) (E:=E) (Q₁:=fun obj s1=>∃ led:Bool,obj = .ref s.heap.objs.size∧s1={ s with heap:=new led }) fun led=>⟨led,rfl,rfl⟩) fun y s1 z=>?_
  match y,z with
  | .error e,z=>exact z
  | .ok (.ret obj),z =>
    obtain ⟨led,rfl,rfl⟩:=z
    have there:(new led).get? s.heap.objs.size=some { cls := .type "set",dict:=none,data := .set #[] 0 (.fresh 0 0 led) }:=Heap.get?_push_size _ rfl
    have isSet:Shared.TypeIs { s with heap:=new led } (.ref s.heap.objs.size) "set" := ⟨_,there,rfl⟩
    have look:=PySem.F.called_set.init.lookup
    have bound:=PySem.F.called_set.init.bind (.ref s.heap.objs.size)
    (repeat (any_goals (first | assumption | wp_step)))
    refine codeAny_mono (codeAny_call_builtin (R:=wants (fun r s2=>r = .none∧∃ h' tk,s2={ s with heap:=h',toks:=tk }∧h'.SetOf (PySem.strKind prog w) s.heap.objs.size (fun k=>(Z4q xs).contains k) (Z4q xs).length∧(∀ b o,b < s.heap.objs.size→s.heap.get? b=some o→h'.get? b=some o)) E)
      PySem.F.called_set.init.plain PySem.F.entry_set_init (check_set_init_1 isSet ?_)) fun y2 s2 z2=>?_
    · obtain ⟨ob,hob,cl,n,dt⟩:=at_
      obtain ⟨obc,obd,obt,obs⟩:=ob
      simp only at cl dt
      subst cl dt
      have ob2:(new led).get? l=some { cls := .type "tuple",dict:=obd,data := .seq items n,slots:=obs }:=Heap.get?_push_of_some _ hob
      have no2:=PySem.F.sub_tuple_set
      have no3:=PySem.F.sub_tuple_frozenset
      have no4:(Value.type "tuple" == Value.type "dict")=false:=by decide
      have isL:(new led).IsTuple l items:=⟨_,ob2,rfl,n,rfl⟩
      unfold Builtin.«set.__init__» noKeywords Builtin.Frozenset.updateFrom
      generalize hp:pyIter=it
      wp_walk
      subst hp
      refine wpAny_pyIter_tuple isL ?_
      refine (wpAny_bind (wpAny_runValue ?_))
      have lt:l < s.heap.objs.size:=Heap.lt_size hob
      have sz:(new led).objs.size=s.heap.objs.size + 1:=Heap.size_push ..
      have off1:l ≠ (new led).objs.size:=by rw [sz]; exact Nat.ne_of_lt (Nat.lt_succ_of_lt lt)
      have off2:s.heap.objs.size ∉ [(new led).objs.size,l]:=by
        simp only [List.mem_cons,List.not_mem_nil,or_false,not_or]
        exact ⟨by rw [sz]; exact Nat.ne_of_lt (Nat.lt_succ_self _),Nat.ne_of_gt lt⟩
      refine fill ((Walks.tuple (show A.in1.in1.in1.handled=none by simp [calm]) _ l off1 items).toS) s.heap.objs.size off2 xs slen few (fun i v q=>SS.strs_at are i v (by rw [Array.getElem?_toList]; exact q)) (items.size - 0) 0 _ (by omega) (Nat.zero_le _) ⟨⟨_,Heap.get?_push_size _ rfl,rfl,rfl⟩,isL.push _⟩ ?_ ?_
      · have there2:((new led).push { cls := .type "tuple_iterator",data := .fields #[.ref l, .int 0 0] }).get? s.heap.objs.size=some { cls := .type "set",dict:=none,data := .set #[] 0 (.fresh 0 0 led) }:=Heap.get?_push_of_some _ there
        exact SetOf_congr ((setObjOf_fresh (knd:=PySem.strKind prog w) led).setOf there2 (by unfold scanBound; omega)) (fun _=>rfl) rfl
      · intro s3 mv set3
        obtain ⟨h3,g3,d3,t3,o3⟩:=s3
        obtain rfl:g3=s.gens:=mv.gens
        obtain rfl:d3=s.drawn:=mv.drawn
        obtain rfl:o3=s.os:=mv.os
        show (wpAny _ _ _ _ _ _)
        refine (wpAny_pure ?_)
        show (wpAny _ _ (ret Value.none) _ _ _)
        refine wpAny_pure ⟨rfl,h3,t3,rfl,by rw [← slen,List.take_length] at set3; exact set3,fun b o hb q=>?_⟩
        exact mv.heap b o (by simp only [List.mem_cons,List.not_mem_nil,or_false,not_or]; exact ⟨Nat.ne_of_lt hb,by rw [sz]; exact Nat.ne_of_lt (Nat.lt_succ_of_lt hb)⟩) (Heap.get?_push_of_some _ (Heap.get?_push_of_some _ q))
    · match y2,z2 with
      | .error e,z2=>exact z2
      | .ok (.ret r),z2 =>
        obtain ⟨rfl,h3,t3,rfl,set3,keep3⟩:=z2
        (repeat (any_goals (first | assumption | wp_step)))
        exact fin _ _ set3 keep3
      | .ok .next,z2=>exact z2.elim
      | .ok .brk,z2=>exact z2.elim
      | .ok .cont,z2=>exact z2.elim
  | .ok .next,z=>exact z.elim
  | .ok .brk,z=>exact z.elim
  | .ok .cont,z=>exact z.elim
end
def Z81:List Bv.X→Sto→R Bv.X
  | [x],S=>(match (items S x).bind strs? with
    | some xs=>if decide (xs.length + 1 < scanBound) then .ok (.d (.int (Z4q xs).length)) S else .bad
    | none => .bad)
  | _,_ => .bad
def Z2h (m:M):M:=fun e S=>(m e S).bind fun x S1=>Z81 [x] S1
section
variable {X:Cx} {Wx:WX} {p p2 q pos:Pos} {a:Expr} {m:M}
theorem Z7g (hc:X.calm=true) (hg:Gl X "len") (hm:X.mg "len" = none) (hg2:Gl X "set") (hm2:X.mg "set" = none) (ha:ME X Wx a m) (na:starEach [a] X.env=(false,eval a X.env) :: starEach [] X.env:=by rfl) :
    ME X Wx (.Call (.Name "len" p) [.Call (.Name "set" p2) [a] [] q] [] pos) (Z2h m):=⟨fun pins s σ H Q I ⟨Z,ρ,e,S,st,ev,w⟩=>by
  refine Call_ (ld_blt I hg hm boot_len (callWith_builtin1 (args_cons (Call_ (ld_blt I hg2 hm2 boot_set (callWith_type1 (args_cons (thn (ha.run pins s σ H _ I (W3 (R':=fun v H1=>∃ (b:Addr) (xs:List Str),v = .ref b∧(SqT X.K H1 b (xs.map V.str) ∨ SqL X.K H1 b (xs.map V.str))∧xs.length + 1 < scanBound∧Q (.int (Z4q xs).length) H1) st ev w
    fun ρ1 H1 v x S1 s1 g1 ev1 a1 p1=>?_)) fun v s1 ⟨x,H1,I1,r1,b,xs,ex,hq,few,q1⟩=>args_nil ?_) na) na rfl))) rfl) rfl rfl))
  · have p1:W6 (AX X.K) X.K Z ρ1 H1 Wx σ Q (match (items S1 x).bind strs? with
      | some xs=>if decide (xs.length + 1 < scanBound) then .ok (.d (.int (Z4q xs).length)) S1 else .bad
      | none => .bad):=p1
    cases y:(items S1 x).bind strs? with
    | none=>rw [y] at p1; exact p1.elim
    | some xs =>
      rw [y] at p1
      have p1:W6 (AX X.K) X.K Z ρ1 H1 Wx σ Q (if decide (xs.length + 1 < scanBound) then .ok (.d (.int (Z4q xs).length)) S1 else .bad):=p1
      split at p1
      · rename_i few
        obtain ⟨ys,h1,h2⟩:=Option.bind_eq_some_iff.mp y
        obtain ⟨b,us,rfl,hq,hp⟩:=a1.items s1 h1
        obtain ⟨rfl,_⟩:=Y1n hp h2
        exact ⟨b,xs,rfl,hq,of_decide_eq_true few,W6.ret0 p1 s1 (.d (.int _))⟩
      · exact p1.elim
  · subst ex
    cases r1
    have fin:∀ (h':Heap) (tk:Nat),h'.SetOf (PySem.strKind X.prog X.w) s1.heap.objs.size (fun k=>(Z4q xs).contains k) (Z4q xs).length→(∀ b o,b < s1.heap.objs.size→s1.heap.get? b=some o→h'.get? b=some o) →
        wpAny (model X.prog X.w) X.A (spliced (backTo pos (starEach [] X.env))) (fun vs s2=>wpAny (model X.prog X.w) X.A (call (.builtin "len") (Value.ref s1.heap.objs.size :: vs)) (EP X pins σ Q) X.xe s2) X.xe { s1 with heap:=h',toks:=tk }:=fun h' tk set keep=>by
      refine args_nil ?_
      obtain ⟨o,es,ep,t,ho,hex,hd,_,_,_,hf,hn⟩:=set
      have I2:Inv X pins σ H1 { s1 with heap:=h',toks:=tk }:=I1.kept fun b o e=>keep b o (Heap.lt_size e) e
      have le:=Z9u xs []
      refine call_len_set ho hex hd hf (by rw [hn]; unfold Z4q scanBound at *; simp only [List.length_nil,Nat.zero_add] at le; omega) ⟨.int (Z4q xs).length,H1,I2.tok _,⟨_,by rw [hn]⟩,q1⟩
    rcases hq with hq | hq
    · obtain ⟨its,r,pl,_⟩:=I1.tuple hq
      exact Y6r (I1.ok.hd hc) pl (by simpa using strsAre_of r) few fun h' tk set keep=>fin h' tk set keep
    · obtain ⟨its,r,pl,_⟩:=I1.list hq
      exact set_list (I1.ok.hd hc) pl.isList (by simpa using strsAre_of r) few fun h' tk set keep=>fin h' tk set keep⟩
end
end Bv
namespace Bv
open PySem PySem.Spec L2
open PyProof.Rows hiding St
structure ClsM (K:PySem.W.Frag) (C m:Str):Prop where
  rd:ClX.CRead K (He.ga K C) (.type "type")
  me:ClX.CMet K (He.ga K C) (.type "type") m (He.ma K (He.ga K C) m) (Y7i C m K)
def X3k (C m:Str) (K:PySem.W.Frag):Bool:=PySem.W.readsIn K (He.ga K C) (.type "type") && (He.eqO (PySem.W.specialIn K (.ref (He.ga K C)) "__getattribute__") (some (some (.builtin "type.__getattribute__"))) &&
  ((match PySem.W.findCls K (.ref (He.ga K C)) (.type "type") m with
    | some (.get (.builtin id) (.ref p) .none (.ref c))=>decide (id = "classmethod.__get__") && (decide (p=He.ma K (He.ga K C) m) && decide (c=He.ga K C))
    | _=>false) && ((match PySem.W.recIn K (He.ma K (He.ga K C) m) "classmethod" with
    | some (.ref _ :: _)=>true
    | _=>false) && PySem.W.fnIn K (Y7i C m K))))
theorem X05 {C m:Str} {K:PySem.W.Frag} (h:X3k C m K=true):ClsM K C m:=by
  obtain ⟨c1,h⟩:=He.ba h
  obtain ⟨c2,h⟩:=He.ba h
  obtain ⟨c3,h⟩:=He.ba h
  obtain ⟨c4,c5⟩:=He.ba h
  refine ⟨⟨c1,He.eqO_ok c2⟩,⟨?_,?_,c5⟩⟩
  · split at c3
    · rename_i id p c q
      obtain ⟨e1,e2⟩:=He.ba c3
      obtain ⟨e2,e3⟩:=He.ba e2
      obtain rfl:=of_decide_eq_true e1
      obtain rfl:=of_decide_eq_true e2
      obtain rfl:=of_decide_eq_true e3
      exact q
    · cases c3
  · split at c4
    · rename_i g rest q
      refine ⟨rest,?_⟩
      have e:Y7i C m K=g:=by unfold Y7i; rw [q]
      rw [e]; exact q
    · cases c4
def Z4z (C:Str) (g:List Bv.X→Sto→R Bv.X) (mo:M) (ms:MG (List Bv.X)):M:=fun e S=>(mo e S).bind fun x S1=>match x with
  | .d (.gl D)=>if decide (D=C) then (ms e S1).bind fun xs S2=>g (x :: xs) S2 else .bad
  | _ => .bad
section
variable [HasW] {X:Cx} {Wx:WX} {n:Nat} {x:Str} {p pos apos:Pos} {e o:Expr} {es:List Expr} {ms:MG (List Bv.X)} {mo m:M} {g:List Bv.X→Sto→R Bv.X} {C mth:Str} {pl:Sem Bool}
theorem X1o (cc:Y69 X Wx (.ref (Y7i C mth X.K)) n g) (k:ClsM X.K C mth) (ho:ME X Wx o mo) (ha:MA X Wx (e :: es) ms) (hst:starEach (e :: es) X.env=(false,eval e X.env) :: starEach es X.env:=by rfl) (hpl:(backTo pos (starEach es X.env)).any (·.1)=false:=by rfl)
    (ht:eval (.Call (.Attribute o mth apos) (e :: es) [] pos) X.env=(do
      let ov ← eval o X.env
      standAt apos.atName
      let (f,first) ← holding [ov] (getMethod ov mth pl)
      callWith pos f first (backTo pos (starEach (e :: es) X.env)) (backToKw pos (keywordEach [] X.env))):=by rfl):ME X Wx (.Call (.Attribute o mth apos) (e :: es) [] pos) (Z4z C (X6 n g) mo ms):=⟨fun pins s σ H Q I ⟨Z,ρ,e,S,st,ev,q⟩=>by
  refine PySem.W.methodCall_KW (pl:=pl) (thn (ho.run pins s σ H _ I (W3 (R':=fun v H1=>v = .ref (He.ga X.K C)∧∃ (ρ1:List Addr) (S1:Sto),Sta X.K Z ρ1 S1 H1∧EvOk X.K (Wn Z ρ1) ρ1 H1 e σ∧W6 (AX X.K) X.K Z ρ1 H1 Wx σ Q ((ms e S1).bind fun xs S2=>X6 n g (.d (.gl C) :: xs) S2)) st ev q
    fun ρ1 H1 v y S1 s1 g1 ev1 a1 p1=>by
      cases a1 with
      | r _=>exact p1.elim
      | d a =>
        cases a with
        | gl D =>
          have p2:W6 (AX X.K) X.K Z ρ1 H1 Wx σ Q (if decide (D=C) then (ms e S1).bind fun xs S2=>X6 n g (.d (.gl D) :: xs) S2 else .bad):=p1
          clear p1
          by_cases hd:D=C
          · rw [if_pos (decide_eq_true hd)] at p2
            subst hd
            exact ⟨rfl,ρ1,S1,s1,ev1,p2⟩
          · rw [if_neg (by simpa using hd)] at p2; exact p2.elim
        | _=>exact p1.elim)) fun u s1 ⟨x,H1,I1,rx,ex,ρ1,S1,st1,ev1,p1⟩=>?_) ht
  subst ex
  obtain rfl:u=Value.ref (He.ga X.K C):=rx
  refine ClX.getmethcm_ok I1 k.rd k.me fun s2 I2=>?_
  refine ClX.callwith_cm I2 (ClX.base_none I1 (Nat.le_refl _)) k.me.fi (thn (ha.run pos _ s2 σ H1 _ I2 (W3 (R':=fun vs H2=>∃ (ρ2:List Addr) (xs:List Bv.X) (S2:Sto),Sta X.K Z ρ2 S2 H2∧AXs X.K (Wn Z ρ2) ρ2 H2 xs vs∧W6 (AX X.K) X.K Z ρ2 H2 Wx σ Q (X6 n g (.d (.gl C) :: xs) S2)) st1 ev1 p1
    fun ρ2 H2 v xs S2 s2 g2 ev2 a2 p2=>⟨ρ2,xs,S2,s2,a2,p2⟩)) fun us s3 ⟨vs,H2,I3,rv,ρ2,xs,S2,st2,a2,p2⟩=>⟨⟨ClX.pin_at I3,I3.kIn⟩,?_⟩) hst hpl
  obtain ⟨hl,p3⟩:=ari (rel:=W6 (AX X.K) X.K Z ρ2 H2 Wx σ Q) (fun z=>z) p2
  have aa:AXs X.K (Wn Z ρ2) ρ2 H2 (.d (.gl C) :: xs) (V.ref (He.ga X.K C) :: vs) := .cons (.d (.gl C)) a2
  have z:=wpAny_call (PySem.W.method_call (ClX.pin_at I3) (cc _ s3 σ H2 Q (.ref (He.ga X.K C) :: us) (.ref (He.ga X.K C) :: vs) Z ρ2 _ S2 I3 (.cons rfl rv) st2 aa (by rw [← Paired.length aa]; exact hl) p3))
  exact thn z fun _ _ y=>ClX.unpinE y⟩
def Z7z (i:Nat) (C:Str) (g:List Bv.X→Sto→R Bv.X) (ms:MG (List Bv.X)):M:=fun e S=>(Z1 i e S).bind fun x S1=>match x with
  | .d (.gl D)=>if decide (D=C) then (ms e S1).bind g else .bad
  | _ => .bad
theorem Y38 (i:Nat) (c:Y69 X Wx (.ref (He.ga X.K C)) n g) (hk:PySem.W.keepIn X.K (.ref (He.ga X.K C))=true) (ha:MA X Wx (e :: es) ms) (hN:X.N[i]?=some x:=by rfl) (hv:Vis X.env.scope x:=by first | exact Or.inl rfl | exact Or.inr (Or.inl rfl) | exact Or.inr (Or.inr rfl))
    (hdb:(x == ("__debug__" : Str))=false:=by decide) (hcd:(x == ("__classdict__" : Str))=false:=by decide) (he:starEach (e :: es) X.env=(false,eval e X.env) :: starEach es X.env:=by rfl) (hpl:(backTo pos (starEach es X.env)).any (·.1)=false:=by rfl) :
    ME X Wx (.Call (.Name x p) (e :: es) [] pos) (Z7z i C (X6 n g) ms):=⟨fun pins s σ H Q I ⟨Z,ρ,e,S,st,ev,q⟩=>by
  refine wpAny_Call_Name_kw (thn ((Z4 (Wx:=Wx) (pos:=p) i hN hv hdb hcd).run pins s σ H _ I (W3 (R':=fun v H1=>v = .ref (He.ga X.K C)∧∃ (ρ1:List Addr) (S1:Sto),Sta X.K Z ρ1 S1 H1∧EvOk X.K (Wn Z ρ1) ρ1 H1 e σ∧W6 (AX X.K) X.K Z ρ1 H1 Wx σ Q ((ms e S1).bind (X6 n g))) st ev q
    fun ρ1 H1 v y S1 s1 g1 ev1 a1 p1=>by
      cases a1 with
      | r _=>exact p1.elim
      | d a =>
        cases a with
        | gl D =>
          have p2:W6 (AX X.K) X.K Z ρ1 H1 Wx σ Q (if decide (D=C) then (ms e S1).bind (X6 n g) else .bad):=p1
          clear p1
          by_cases hd:D=C
          · rw [if_pos (decide_eq_true hd)] at p2
            subst hd
            exact ⟨rfl,ρ1,S1,s1,ev1,p2⟩
          · rw [if_neg (by simpa using hd)] at p2; exact p2.elim
        | _=>exact p1.elim)) fun u s1 ⟨x,H1,I1,rx,ex,ρ1,S1,st1,ev1,p1⟩=>?_)
  subst ex
  obtain rfl:u=Value.ref (He.ga X.K C):=rx
  refine PySem.W.callWith_K (h₀:=X.base) I1.ok.mod.kin hk (thn (ha.run pos pins s1 σ H1 _ I1 (W3 (R':=fun vs H2=>∃ (ρ2:List Addr) (xs:List Bv.X) (S2:Sto),Sta X.K Z ρ2 S2 H2∧AXs X.K (Wn Z ρ2) ρ2 H2 xs vs∧W6 (AX X.K) X.K Z ρ2 H2 Wx σ Q (X6 n g xs S2)) st1 ev1 p1
    fun ρ2 H2 v xs S2 s2 g2 ev2 a2 p2=>⟨ρ2,xs,S2,s2,a2,p2⟩)) fun us s2 ⟨vs,H2,I2,r,ρ2,xs,S2,st2,a2,p2⟩=>⟨I2.kIn,?_⟩) he hpl
  obtain ⟨hl,p3⟩:=ari (rel:=W6 (AX X.K) X.K Z ρ2 H2 Wx σ Q) (fun z=>z) p2
  exact wpAny_call (c pins s2 σ H2 Q us vs Z ρ2 xs S2 I2 r st2 a2 (by rw [← Paired.length a2]; exact hl) p3)⟩
end
end Bv
namespace Bv
open PySem PySem.Spec L2
open PyProof.Rows hiding St
variable [HasW]
theorem Y9v {X:Cx} {Wx:WX} {pos p tpos:Pos} {kt:Nat} {a b c:Expr} {m:M} {tab:List (String × Bool)} {own:List (Str × Bool)} {u1 u2:Value} {c1 c2:V} (hg:Gl X "isinstance") (hm:X.mg "isinstance" = none) (he:ME X Wx a m) (hc1:PE X b (tC c1)) (hc2:PE X c (tC c2)) (T:IsTs X.K [u1,u2] tab own) (k1:ClsV c1 u1) (k2:ClsV c2 u2)
    (ht1:starEach [b,c] X.env=(false,eval b X.env) :: starEach [c] X.env:=by rfl) (ht2:starEach [c] X.env=(false,eval c X.env) :: starEach [] X.env:=by rfl)
    (hs:starEach [a, .Tuple [b,c] kt tpos] X.env=(false,eval a X.env) :: starEach [.Tuple [b,c] kt tpos] X.env:=by rfl) (hs2:starEach [.Tuple [b,c] kt tpos] X.env=(false,eval (.Tuple [b,c] kt tpos) X.env) :: starEach [] X.env:=by rfl)
    (hpl:(backTo pos (starEach [.Tuple [b,c] kt tpos] X.env)).any (·.1)=false:=by rfl):ME X Wx (.Call (.Name "isinstance" p) [a, .Tuple [b,c] kt tpos] [] pos) (Z7f tab own m):=PE.of (pe_callB call_isiT hg hm (by rfl) (pa_cons he (pa_cons (pe_tup (pa_cons hc1 (pa_cons hc2 pa_nil ht2) ht1)) pa_nil hs2) hs) (by decide) (by decide) hs hpl) fun σ H Q ⟨Z,ρ,e,S,st,ev,q⟩=>W3 st ev q fun ρ1 H1 v x S1 s1 g1 ev1 a1 p1=>by
  obtain ⟨w,hw,p2⟩:=p1.opt
  obtain ⟨b,h1,h2⟩:=Option.map_eq_some_iff.mp hw
  subst h2
  refine ⟨Nat.le_trans (show [c1,c2].length ≤ 2 from Nat.le_refl _) (by decide),fun r hr=>?_⟩
  have k:=Z0f (o:=HO.tup [c1,c2]) hr
  have s2:=s1.grow k
  obtain ⟨t,ty,kt⟩:=Y9q T s2 (a1.mv ((Go.grow k).mv s1) (List.prefix_refl _)) h1
  exact ⟨v,r,[c1,c2],t,[u1,u2],b,rfl,upd_same, .cons k1 (.cons k2 .nil),ty,kt,W6.ret p2 s1 k (.d (.bl b))⟩
end Bv
namespace Bv
open PySem PySem.Spec L2
open PyProof.Rows hiding St
variable [HasW]
def Z5a (l:List Str):Bool:=l.all fun z=>PyData.strOk z
def Z1q (a:Str) (y:Bv.X) (S:Sto):R Bv.X:=match y with
  | .d (.str b)=>if !(b.length == 0) && decide (a.length + 2 ≤ sizeLine) && Z5a (Txt.split a b) then .ok (.d (.lst ((Txt.split a b).map .str))) S else .bad
  | _ => .bad
theorem Y1t {K:PySem.W.Frag} {W:Wd} {H:Hp}:∀ {l:List Str},Z5a l=true→AVs K W H (l.map D.str) (l.map V.str)
  | [],_ => .nil
  | z :: r,h=>by
    have h2:(PyData.strOk z && Z5a r)=true:=h
    rw [Bool.and_eq_true] at h2
    exact .cons (.str h2.1) (Y1t h2.2)
section
variable {X:Cx} {Wx:WX} {pos apos:Pos} {o e:Expr} {mo m:M}
theorem Y7y {Z:Wd} {ρ:List Addr} {S:Sto} {H:Hp} {σ:L2.St} {Q:VK} {l:List Str} (st:Sta X.K Z ρ S H) (h:Z5a l=true) (p:W6 (AX X.K) X.K Z ρ H Wx σ Q (.ok (.d (.lst (l.map .str))) S)):∀ q,H q=none→Q (.ref q) (upd H q (.lst (l.map V.str))) :=
  fun q hq=>W6.ret p st (Z0f hq) (.d (Z75 (fun z hz=>st.thereW hz) hq (Y1t h)))
theorem Z4t (ho:ME X Wx o mo) (he:ME X Wx e m) (hs:starEach [e] X.env=[(false,eval e X.env)]:=by rfl) (hbase:attributeBase o "split" X.env (eval o X.env)=eval o X.env:=by rfl) (hline:(apos.endLine == pos.line)=true:=by rfl) :
    ME X Wx (.Call (.Attribute o "split" apos) [e] [] pos) (Z1e Z1q mo m):=PE.of (pe_split ho he hs hbase hline) fun σ H Q ⟨Z,ρ,e,S,st,ev,p⟩=>W3 st ev p fun ρ1 H1 v x S1 s1 g1 ev1 a1 p1=>by
  cases a1 with
  | r _=>exact p1.elim
  | d a =>
    cases a with
    | str hz =>
      rename_i z
      refine ⟨⟨z,rfl⟩,W3 s1 ev1 (show W6 (AX X.K) X.K Z ρ1 H1 Wx σ Q ((m e S1).bind fun y S2=>Z1q z y S2) from p1) fun ρ2 H2 u y S2 s2 g2 ev2 a2 p2=>?_⟩
      unfold Z1q at p2
      split at p2
      · rename_i b
        split at p2
        · rename_i hc
          rw [Bool.and_eq_true,Bool.and_eq_true] at hc
          obtain ⟨⟨c1,c2⟩,c3⟩:=hc
          cases a2 with
          | d a2 =>
            cases a2 with
            | str hb=>exact ⟨z,b,rfl,rfl,by simpa using c1,of_decide_eq_true c2,Y7y s2 c3 p2⟩
        · exact p2.elim
      · exact p2.elim
    | _=>exact p1.elim
end
end Bv
namespace Bv
open PySem PySem.Spec L2
open PyProof.Rows hiding St
variable [HasW]
def ItE (K:PySem.W.Frag) (a:Addr):It :=
  ⟨fun i H=>∃ xs x,SqT K H a xs∧xs[i]?=some x,fun i H v H'=>∃ T x,v = .ref T∧H T=none∧H'=upd H T (.tup [.int (i:Nat),x])∧∀ xs,SqT K H a xs→xs[i]?=some x,fun i H=>∃ xs:List V,SqT K H a xs∧xs.length ≤ i⟩
theorem Y5r {prog:Program} {w:World} {A:Around} {it a:Addr} {i:Nat} {items:Array Value} (hh:A.handled=none) (no:items[i]?=none):Draws prog w A it [it,a] i (fun _ _=>True) (fun j h=>j=i∧h.IsTupleIter it a i∧h.IsTuple a items) where
  live:=fun _ _ st=>let ⟨o,ho,_⟩:=st.2.1; ⟨o,ho⟩
  frame:=fun _ _ _ st hk=>⟨st.1,st.2.1.at fun o e=>hk it (by simp) o e,st.2.2.at fun o e=>hk a (by simp) o e⟩
  item:=fun j s Q E hj st _=>absurd st.1 (Nat.ne_of_lt hj)
  done:=fun s Q E st hE=>wpAny_nextOf_tuple_end hh st.2.1 st.2.2 no hE
theorem Y5b {P:Program} {w:World} {K:PySem.W.Frag} {elts:List Expr} {kk:Nat} {tpos:Pos} (a e it:Addr) :
    Turn P w K (.Tuple elts kk tpos) (ItE K a) [e,it] e (fun i h=>(∃ old,IsEnum h e it ((i:Nat):Int) old)∧h.IsTupleIter it a i∧e ≠ it∧a ≠ it∧e ≠ a) where
  mem:=by simp
  obj:=fun i h st b hb=>by
    obtain ⟨⟨old,he⟩,⟨o,ho,hc,hd⟩,_⟩:=st
    rcases (show b=e ∨ b=it by simpa using hb) with z | z
    · rw [z]; exact ⟨_,he,fun v q=>nomatch q⟩
    · rw [z]; exact ⟨o,ho,fun v q=>by rw [hd] at q; cases q⟩
  keep:=fun i h h' st k=>let ⟨⟨old,he⟩,hi,hne⟩:=st; ⟨⟨old,k e (by simp) _ he⟩,hi.at fun o q=>k it (by simp) o q,hne⟩
  item:=by
    intro X hP hw hK hc i pins s σ H E I hf st hg
    subst hP hw hK
    obtain ⟨⟨old,he⟩,hit,hne,hai,hea⟩:=st
    obtain ⟨xs,x,hq,hx⟩:=hg
    obtain ⟨its,rv,p,hz⟩:=I.tuple hq
    obtain ⟨u,hu,ru⟩:=rv.get hx
    have el:e < s.heap.objs.size:=Heap.lt_size he
    have il:it < s.heap.objs.size:=by obtain ⟨_,q,_⟩:=hit; exact Heap.lt_size q
    have lt:i < its.toArray.size:=by
      have:=(List.getElem?_eq_some_iff.mp hu).1
      simpa using this
    refine wpAny_pyNext_enum_itemD (Draws.tuple (A:=X.A.in1) (show X.A.in1.handled=none from I.ok.hd hc) it a hai its.toArray) he ⟨hit,p⟩ lt hne (by simp; exact ⟨hne,hea⟩) fun y h' tk hy ho hit' hT hsz hk=>?_
    have ey:y=u:=by
      have hy:its.toArray[i]?=some y:=hy
      have hu':its.toArray[i]?=some u:=by simpa using hu
      rw [hy] at hu'
      exact Option.some.inj hu'
    subst ey
    refine ⟨_,rfl,wpAny_letOwnedTupleGo_enum (s:={ s with heap:=h',toks:=tk + 1 }) ho fun h'' he' sb=>?_⟩
    have hT2:h''.get? s.heap.objs.size=some { cls := .type "tuple",data := .seq #[.int i tk,y] }:=(sb.2 _ (Nat.ne_of_gt el)).trans hT
    have new:ObjOk X.prog X.w (upd H s.heap.objs.size (.tup [.int (i:Nat),x])) h'' s.heap.objs.size (.tup [.int (i:Nat),x]):=⟨(by decide:2 ≤ sizeLine),[.int i tk,y], .cons ⟨_,rfl⟩ (.cons ru .nil),⟨_,hT2,rfl,_,rfl⟩⟩
    have I1:Inv X pins σ (upd H s.heap.objs.size (.tup [.int (i:Nat),x])) { s with heap:=h'',toks:=tk + 1 } :=
      I.turnedNew (ch:=[e,it]) (fun b ob hb q=>(sb.2 b (fun z=>hb (by simp [z]))).trans (hk b ob (fun z=>hb (by simp [z])) (fun z=>hb (by simp [z])) q)) hf (Nat.le_refl _) new
    refine ⟨.ref s.heap.objs.size,_,I1,rfl,⟨_,x,rfl,I.hok.fresh (Nat.le_refl _),rfl,fun ys hy=>by rw [I.tuple_inj hy hq]; exact hx⟩,⟨⟨y,?_⟩,hit'.1.at fun o q=>(sb.2 it (Ne.symm hne)).trans q,hne,hai,hea⟩,fun b hb=>?_⟩
    · rw [show ((i + 1:Nat):Int)=(i:Int) + 1 by omega]; exact he'
    · have hb':b < s.heap.objs.size:=by
        rcases (show b=e ∨ b=it by simpa using hb) with z | z
        · rw [z]; exact el
        · rw [z]; exact il
      rw [upd_ne (Nat.ne_of_lt hb')]
      exact (hf b hb).1
  done:=by
    intro X hP hw hK hc i pins s σ H E I hf st hg
    subst hP hw hK
    obtain ⟨⟨old,he⟩,hit,hne,hai,hea⟩:=st
    obtain ⟨xs,hq,hx⟩:=hg
    obtain ⟨its,rv,p,hz⟩:=I.tuple hq
    obtain ⟨f0,f1,f2,f3,f4,f5⟩:=hf it (by simp)
    have no:its.toArray[i]?=none:=by
      have:=rv.length
      simp; omega
    exact wpAny_pyNext_enum_endD (Y5r (A:=X.A.in1) (show X.A.in1.handled=none from I.ok.hd hc) no) he ⟨rfl,hit,p⟩ fun h' eb=>⟨rfl,I.turned (t':=s.toks) (fun b o hb q=>eb b o hb q) f0 f1 f3 f4 f5⟩
  self:=fun A i s Q E st h=>let ⟨⟨_,he⟩,_⟩:=st; wpAny_pyIter_enum he h
end Bv
namespace PySem
open Sem (wp)
open AutoSeq1 (wpAny_loadPart')
theorem enumT_new (t:Addr) (items:Array Value) (n:Nat) (dct:Option Addr) (sl:Array (Option Value)) :
    Meets (Builtin.«enumerate.__new__» ⟨[.type "enumerate", .ref t],[]⟩) (fun _ R s=>s.heap.get? t=some { cls := .type "tuple",dict:=dct,data := .seq items n,slots:=sl } ∧
      R (.ok (.ret (.ref (s.heap.push { cls := .type "tuple_iterator",data := .fields #[.ref t, .int 0 0] }).objs.size))) { s with heap:=(s.heap.push { cls := .type "tuple_iterator",data := .fields #[.ref t, .int 0 0] }).push { cls := .type "enumerate",data := .fields #[.none, .bool false, .ref s.heap.objs.size,rawInt 0, .none, .none] } }) :=
  .of_wp fun prog w A R s q=>by
    obtain ⟨hp,g,d,tk,os⟩:=s
    obtain ⟨ht,fin⟩:=q
    have below:=sub_enumerate
    have isT:Heap.IsTuple (Shared.heap ⟨hp,g,d,tk,os⟩) t items:=⟨_,ht,rfl,n,rfl⟩
    wp_walk using wpAny_loadPart' ht
    refine (wpAny_stack_any fun st=>wpAny_pure ?_)
    split
    · rename_i c _ _ _ _ _
      cases (c == Value.type "enumerate") <;> (wp_walk using wpAny_loadPart' ht,wpAny_pyIter_tuple isT; exact ⟨_,rfl,fin⟩)
    · wp_walk using wpAny_loadPart' ht,wpAny_pyIter_tuple isT
      exact ⟨_,rfl,fin⟩
theorem call_enumT {prog:Program} {w:World} {A:Around} {E:Value→Shared→Prop} {s:Shared} {t:Addr} {items:Array Value} {Q:Value→Shared→Prop} (hT:s.heap.IsTuple t items)
    (fin:∀ h',IsEnum h' (s.heap.objs.size + 1) s.heap.objs.size 0 .none→h'.IsTupleIter s.heap.objs.size t 0→h'.objs.size=s.heap.objs.size + 2→(∀ b o,s.heap.get? b=some o→h'.get? b=some o)→Q (.ref (s.heap.objs.size + 1)) { s with heap:=h' }) :
    wpAny (model prog w) A (call (.type "enumerate") [.ref t]) Q E s:=by
  obtain ⟨⟨c,dct,dt,sl⟩,ht,hc,n,hd⟩:=hT
  obtain rfl:c = .type "tuple" := hc
  obtain rfl:dt = .seq items n:=hd
  refine callType_new F.called_enumerate (by decide) (F.typeCall_enumerate_1 _) (F.newCall_enumerate_1 _) (fun obj=>F.args_object_init_2 obj _) F.entry_enumerate_new (enumT_new t items n dct sl) ⟨ht,?_⟩
  have z:(s.heap.push { cls := .type "tuple_iterator",data := .fields #[.ref t, .int 0 0] }).objs.size=s.heap.objs.size + 1:=Heap.size_push ..
  show _∧_
  rw [z]
  have en:IsEnum ((s.heap.push { cls := .type "tuple_iterator",data := .fields #[.ref t, .int 0 0] }).push { cls := .type "enumerate",data := .fields #[.none, .bool false, .ref s.heap.objs.size,rawInt 0, .none, .none] }) (s.heap.objs.size + 1) s.heap.objs.size 0 .none:=by
    have y:=Heap.get?_push_size (s.heap.push { cls := .type "tuple_iterator",data := .fields #[.ref t, .int 0 0] }) (o:={ cls := .type "enumerate",data := .fields #[.none, .bool false, .ref s.heap.objs.size,rawInt 0, .none, .none] }) rfl
    rw [z] at y
    exact y
  exact ⟨⟨_,en,rfl⟩,fin _ en ⟨_,Heap.get?_push_of_some _ (Heap.get?_push_size _ rfl),rfl,rfl⟩ (by rw [Heap.size_push,z]) fun b o x=>Heap.get?_push_of_some _ (Heap.get?_push_of_some _ x)⟩
end PySem
namespace Bv
open PySem PySem.Spec L2
open PyProof.Rows hiding St
variable [HasW]
def X1f (K:PySem.W.Frag) (ta:TA):TI:=fun σ H R=>ta σ H fun vs H1=>∃ a xs,vs=[.ref a]∧((SqL K H1 a xs∧R (Ite K a) H1) ∨ (SqT K H1 a xs∧R (ItE K a) H1))
theorem Y73 {X:Cx} {e:Expr} {ta:TA} {p pos tpos:Pos} {elts:List Expr} {kk:Nat} (hg:Gl X "enumerate") (hm:X.mg "enumerate" = none) (ha:PA X [e] ta) (hs:starEach [e] X.env=[(false,eval e X.env)]:=by rfl) :
    PI X (.Tuple elts kk tpos) (.Call (.Name "enumerate" p) [e] [] pos) (X1f X.K ta):=⟨fun pins s σ H R I h=>by
  refine Call_ (ld_blt I hg hm boot_enumerate (callWith_type1 (thn (ha.run pos pins s σ H _ I h) fun us s1 ⟨vs,H1,I1,r1,a,xs,ex,q1⟩=>?_) hs rfl))
  subst ex
  cases r1 with
  | cons r rr =>
    cases rr
    cases r
    have two:∀ b ∈ [s1.heap.objs.size + 1,s1.heap.objs.size],FpOk X pins H1 b:=fun b hb=>by
      have le:s1.heap.objs.size ≤ b:=by
        rcases (show b=s1.heap.objs.size + 1 ∨ b=s1.heap.objs.size by simpa using hb) with z | z
        · rw [z]; exact Nat.le_add_right _ _
        · rw [z]; exact Nat.le_refl _
      exact I1.fpOk le (I1.hok.fresh le)
    rcases q1 with ⟨hq,q⟩ | ⟨hq,q⟩
    · obtain ⟨its,rv,pl,_⟩:=I1.list hq
      exact call_enumerate_list pl.isList fun h' he hit hsz hk=>wpAny_pyIter_enum he ⟨s1.heap.objs.size + 1,[s1.heap.objs.size + 1,s1.heap.objs.size],_,_,H1,rfl,I1.kept (t':=s1.toks) hk,turn_enum a (s1.heap.objs.size + 1) s1.heap.objs.size,⟨⟨.none,he⟩,hit,Nat.succ_ne_self _⟩,two,q⟩
    · obtain ⟨its,rv,pl,_⟩:=I1.tuple hq
      have lt:a < s1.heap.objs.size:=by obtain ⟨o,ho,_⟩:=id pl; exact Heap.lt_size ho
      exact call_enumT (show s1.heap.IsTuple a its.toArray from pl) fun h' he hit hsz hk=>wpAny_pyIter_enum he ⟨s1.heap.objs.size + 1,[s1.heap.objs.size + 1,s1.heap.objs.size],_,_,H1,rfl,I1.kept (t':=s1.toks) hk,Y5b a (s1.heap.objs.size + 1) s1.heap.objs.size,⟨⟨.none,he⟩,hit,Nat.succ_ne_self _,Nat.ne_of_lt lt,Nat.ne_of_gt (Nat.lt_succ_of_lt lt)⟩,two,q⟩⟩
theorem Y5e {K:PySem.W.Frag} {a:Addr} {xs:List V}:Walk (ItE K a) xs.length (fun H=>SqT K H a xs) (YPair (fun i=>some (.int (i:Nat))) (fun i=>xs[i]?)) :=
  ⟨fun i _ hi q=>⟨xs,xs[i],q,by simp [hi]⟩,fun _ q=>⟨xs,q,Nat.le_refl _⟩,fun i H v H' _ q ⟨T,x,h1,h2,h3,h4⟩=>⟨T, .int (i:Nat),x,h1,h2,h3,rfl,h4 xs q⟩⟩
def numbered (ds:List D):List Bv.X:=(List.range ds.length).zipWith (fun (i:Nat) d=>Bv.X.d (.tup [.int (i:Nat),d])) ds
def X09:List Bv.X→Option (List Bv.X × Lk)
  | [.d (.lst ds)]=>some (numbered ds, .free)
  | [.d (.tup ds)]=>some (numbered ds, .free)
  | _=>none
def Y8m (S:Sto):List Bv.X→Option (List Bv.X × Lk)
  | [.r n]=>(match S[n]? with
    | some (.lst xs)=>(match ds? xs with
      | some ds=>some (numbered ds, .lst n xs)
      | none=>none)
    | _=>none)
  | xs=>X09 xs
def Z8m (ms:MG (List Bv.X)):MIt:=fun e S=>(ms e S).bind fun xs S1=>Z2o (Y8m S1 xs) S1
theorem Z67 {ds:List D} {i:Nat} {d:D} (h:ds[i]?=some d):(numbered ds)[i]?=some (.d (.tup [.int (i:Nat),d])):=by
  have lt:=(List.getElem?_eq_some_iff.mp h).1
  unfold numbered
  rw [List.getElem?_zipWith,h]
  simp [lt]
theorem Z6m (ds:List D):(numbered ds).length=ds.length:=by simp [numbered]
theorem Y2r {K:PySem.W.Frag} {W:Wd} {ρ:List Addr} {H:Hp} {J:It} {G:Hp→Prop} {xs:List V} {ds:List D} (hs:AVs K W H ds xs) (w:Walk J xs.length G (YPair (fun i=>some (.int (i:Nat))) (fun i=>xs[i]?)))
    (hg:∀ (Z2:Wd) (ρ2:List Addr) (H2:Hp),Mv W H (Wn Z2 ρ2) H2→G H2):Srv K W ρ H (numbered ds, .free) J :=
  ⟨G,_,by rw [show (numbered ds,Lk.free).1.length=xs.length by rw [show (numbered ds,Lk.free).1=numbered ds from rfl,Z6m,hs.length]]; exact w,fun Z2 ρ2 S2 H2 st m p fz k=>⟨hg Z2 ρ2 H2 m,fun i x H3 y=>by
    obtain ⟨T,u,v,rfl,hT,rfl,h1,h2⟩:=y
    cases h1
    obtain ⟨d,h3,h4⟩:=(hs.mv m).at_ h2
    have kp:=Z0f (o:=HO.tup [.int (i:Nat),v]) hT
    exact ⟨kp,_,Z67 h3, .d (.tup (.inl ⟨st.fresh hT,upd_same⟩) (.cons (.int _) (.cons (h4.mv (Z3e kp)) .nil)))⟩⟩⟩
theorem Y5d {K:PySem.W.Frag} {a:Addr} (n:Nat):Walk (Ite K a) n (fun H=>∃ xs,xs.length=n∧SqL K H a xs) (fun i H v H'=>∃ T x,v = .ref T∧H T=none∧H'=upd H T (.tup [.int (i:Nat),x])∧∀ xs,SqL K H a xs→xs[i]?=some x) :=
  ⟨fun i _ hi ⟨xs,e,q⟩=>⟨xs,xs[i]'(by omega),q,by simp [show i < xs.length by omega]⟩,fun _ ⟨xs,e,q⟩=>⟨xs,q,by omega⟩,fun _ _ _ _ _ _ y=>y⟩
theorem Y49 {K:PySem.W.Frag} {W:Wd} {ρ:List Addr} {H:Hp} {a:Addr} {n:Nat} {ds:List D} (h:ρ[n]?=some a):Srv K W ρ H (numbered ds, .lst n (ds.map Bv.X.d)) (Ite K a) :=
  ⟨_,_,by rw [show (numbered ds,Lk.lst n (ds.map Bv.X.d)).1.length=ds.length from Z6m ds]; exact Y5d ds.length,fun Z2 ρ2 S2 H2 st m p fz k=>by
    have k:(match S2[n]? with
      | some (.lst zs)=>decide (zs=ds.map Bv.X.d)
      | _=>false)=true:=k
    cases q2:S2[n]? with
    | none=>rw [q2] at k; cases k
    | some o2 =>
      rw [q2] at k
      cases o2 with
      | lst zs =>
        have k:zs=ds.map Bv.X.d:=of_decide_eq_true k
        subst k
        have h':ρ2[n]?=some a:=by
          obtain ⟨t,rfl⟩:=p
          rw [List.getElem?_append_left (List.getElem?_eq_some_iff.mp h).1]; exact h
        obtain ⟨us,h3,h4⟩:=st.ob n _ _ q2 h'
        have hl:us.length=ds.length:=by
          have:=Paired.length h4
          rw [List.length_map] at this
          exact this.symm
        refine ⟨⟨us,hl, .inl (.inl h3)⟩,fun i x H3 y=>?_⟩
        obtain ⟨T,u,rfl,hT,rfl,y⟩:=y
        obtain ⟨b,h5,h6⟩:=Y3k h4 (y us (.inl (.inl h3)))
        rw [List.getElem?_map] at h5
        cases hd:ds[i]? with
        | none=>rw [hd] at h5; cases h5
        | some d =>
          rw [hd] at h5
          cases h5
          cases h6 with
          | d h6 =>
            have kp:=Z0f (o:=HO.tup [.int (i:Nat),u]) hT
            exact ⟨kp,_,Z67 hd, .d (.tup (.inl ⟨st.fresh hT,upd_same⟩) (.cons (.int _) (.cons (h6.mv (Z3e kp)) .nil)))⟩
      | _=>cases k⟩
theorem X23 {xs:List Bv.X}:∀ {ds:List D},ds? xs=some ds→xs=ds.map Bv.X.d:=by
  induction xs with
  | nil=>intro ds h; cases h; rfl
  | cons x r ih =>
    intro ds h
    cases x with
    | r n=>cases h
    | d v =>
      have h:(match Bv.X.d v,ds? r with
        | .d v,some l=>some (v :: l)
        | _,_=>none)=some ds:=h
      cases q:ds? r with
      | none=>rw [q] at h; cases h
      | some l=>rw [q] at h; cases h; rw [ih q]; rfl
theorem Y28 {X:Cx} {Wx:WX} {e:Expr} {ms:MG (List Bv.X)} {p pos tpos:Pos} {elts:List Expr} {kk:Nat} (hg:Gl X "enumerate") (hm:X.mg "enumerate" = none) (ha:MA X Wx [e] ms) (hs:starEach [e] X.env=[(false,eval e X.env)]:=by rfl) :
    MI X Wx (.Tuple elts kk tpos) (.Call (.Name "enumerate" p) [e] [] pos) (Z8m ms):=PI.of (Y73 hg hm ha hs) fun σ H R ⟨Z,ρ,e,S,st,ev,p⟩=>W3 st ev p fun ρ1 H1 v xs S1 st1 g1 ev1 a1 p1=>by
  obtain ⟨w,hw,p2⟩:=p1.opt
  unfold Y8m at hw
  split at hw
  · rename_i n
    cases a1 with
    | cons ha t =>
      cases t
      cases ha with
      | r h =>
        rename_i a
        cases q:S1[n]? with
        | none=>rw [q] at hw; cases hw
        | some o =>
          rw [q] at hw
          cases o with
          | lst xs =>
            have hw:(match ds? xs with
              | some ds=>some (numbered ds,Lk.lst n xs)
              | none=>none)=some w:=hw
            cases q3:ds? xs with
            | none=>rw [q3] at hw; cases hw
            | some ds =>
              rw [q3] at hw
              cases hw
              have exs:=X23 q3
              subst exs
              obtain ⟨vs,h1,h2⟩:=st1.ob n _ _ q h
              exact ⟨_,_,rfl, .inl ⟨.inl (.inl h1),W6.ret0 p2 st1 (Y49 h)⟩⟩
          | _=>cases hw
  · unfold X09 at hw
    split at hw
    · cases hw
      obtain ⟨v,rfl,a⟩:=Y6i a1
      cases a with
      | lst w r hs=>exact ⟨_,_,rfl, .inl ⟨.inl (.inl r),W6.ret0 p2 st1 (Y2r hs walk_enum fun Z2 ρ2 H2 m => .inl (.inl (m _ _ w r).2))⟩⟩
    · cases hw
      obtain ⟨v,rfl,a⟩:=Y6i a1
      cases a with
      | tup t hs=>exact ⟨_,_,rfl, .inr ⟨t.sq,W6.ret0 p2 st1 (Y2r hs Y5e fun Z2 ρ2 H2 m=>(m.tp t).sq)⟩⟩
    · cases hw
end Bv
namespace Bv
open PySem PySem.Spec L2
open PyProof.Rows hiding St
variable [HasW]
def ItM (K:PySem.W.Frag) (a b:Addr):It :=
  ⟨fun i H=>∃ (xs ys:List V) (x y:V),SqT K H a xs∧SqL K H b ys∧xs[i]?=some x∧ys[i]?=some y,
    fun i H v H'=>∃ T x y,v = .ref T∧H T=none∧H'=upd H T (.tup [x,y])∧(∀ xs,SqT K H a xs→xs[i]?=some x)∧∀ ys,SqL K H b ys→ys[i]?=some y,
    fun i H=>∃ xs ys:List V,SqT K H a xs∧SqL K H b ys∧((i ≤ xs.length∧i ≤ ys.length)∧(i=xs.length ∨ i=ys.length))⟩
theorem X36 {z TI TO i1 i2 a b:Addr} (D:ZipApart z TI TO i1 i2 a b):ZipSep2 z TI TO i1 i2 [i1,a] [i2,b] where
  TIz:=D.TIz
  TOz:=D.TOz
  TITO:=D.TITO
  TIi1:=D.TIi1
  mem1:=by simp
  zf1:=by simp; exact ⟨Ne.symm D.i1z,Ne.symm D.l1z⟩
  Tf1:=by simp; exact ⟨D.TOi1,Ne.symm D.l1TO⟩
  TIi2:=D.TIi2
  mem2:=by simp
  zf2:=by simp; exact ⟨Ne.symm D.i2z,Ne.symm D.l2z⟩
  Tf2:=by simp; exact ⟨D.TOi2,Ne.symm D.l2TO⟩
  sep1_2:=by simp; exact ⟨D.i12,Ne.symm D.l2i1⟩
  sep2_1:=by simp; exact ⟨Ne.symm D.i12,Ne.symm D.l1i2⟩
theorem Y65 {P:Program} {w:World} {K:PySem.W.Frag} {elts:List Expr} {kk:Nat} {tpos:Pos} {a b z TI TO i1 i2:Addr} (D:ZipApart z TI TO i1 i2 a b) :
    Turn P w K (.Tuple elts kk tpos) (ItM K a b) [z,TI,TO,i1,i2] z (fun i h=>IsZip h z TI TO .none∧IsTupOf2 h TI (.ref i1) (.ref i2)∧(∃ x y,IsTupOf2 h TO x y)∧h.IsTupleIter i1 a i∧h.IsListIter i2 b i) where
  mem:=by simp
  obj:=fun i h st c hc=>by
    obtain ⟨hz,hTI,⟨x,y,hTO⟩,⟨o1,e1,_,d1⟩,⟨o2,e2,_,d2⟩⟩:=st
    rcases (show c=z ∨ c=TI ∨ c=TO ∨ c=i1 ∨ c=i2 by simpa using hc) with q | q | q | q | q <;> rw [q]
    · exact ⟨_,hz,fun v q=>nomatch q⟩
    · exact ⟨_,hTI,fun v q=>nomatch q⟩
    · exact ⟨_,hTO,fun v q=>nomatch q⟩
    · exact ⟨o1,e1,fun v q=>by rw [d1] at q; cases q⟩
    · exact ⟨o2,e2,fun v q=>by rw [d2] at q; cases q⟩
  keep:=fun i h h' st k=>by
    obtain ⟨hz,hTI,⟨x,y,hTO⟩,h1,h2⟩:=st
    exact ⟨k z (by simp) _ hz,k TI (by simp) _ hTI,⟨x,y,k TO (by simp) _ hTO⟩,h1.at fun o q=>k i1 (by simp) o q,h2.at fun o q=>k i2 (by simp) o q⟩
  item:=by
    intro X hP hw hK hc i pins s σ H E I hf st hg
    subst hP hw hK
    obtain ⟨hz,hTI,⟨x0,y0,hTO⟩,h1,h2⟩:=st
    obtain ⟨xs,ys,x,y,hqx,hqy,hx,hy⟩:=hg
    obtain ⟨its,rv,p,_⟩:=I.tuple hqx
    obtain ⟨its2,rv2,p2,_⟩:=I.list hqy
    obtain ⟨u,hu,ru⟩:=rv.get hx
    obtain ⟨u2,hu2,ru2⟩:=rv2.get hy
    have zl:z < s.heap.objs.size:=Heap.lt_size hz
    have hh:X.A.in1.handled=none:=I.ok.hd hc
    refine wpAny_pyNext_zipD2_item (X36 D) (Draws.tuple hh i1 a D.l1i1 its.toArray) (Draws.list hh i2 b D.l2i2 its2.toArray) hz hTI hTO ⟨h1,p⟩ ⟨h2,p2.isList⟩ (by have:=(List.getElem?_eq_some_iff.mp hu).1; simpa using this) (by have:=(List.getElem?_eq_some_iff.mp hu2).1; simpa using this)
      fun y1 y2 h' tk e1 e2 z' TO' s1 s2 hT hsz hk=>?_
    obtain rfl:y1=u:=by
      have e1:its.toArray[i]?=some y1:=e1
      rw [List.getElem?_toArray,hu] at e1; exact (Option.some.inj e1).symm
    obtain rfl:y2=u2:=by
      have e2:its2.toArray[i]?=some y2:=e2
      rw [List.getElem?_toArray,hu2] at e2; exact (Option.some.inj e2).symm
    refine ⟨_,rfl,wpAny_letOwnedTupleGo_zip (s:={ s with heap:=h',toks:=tk }) z' fun h'' z'' sb=>?_⟩
    have hT2:h''.get? s.heap.objs.size=some { cls := .type "tuple",data := .seq #[y1,y2] }:=(sb.2 _ (Nat.ne_of_gt zl)).trans hT
    have new:ObjOk X.prog X.w (upd H s.heap.objs.size (.tup [x,y])) h'' s.heap.objs.size (.tup [x,y]):=⟨(by decide:2 ≤ sizeLine),[y1,y2], .cons ru (.cons ru2 .nil),⟨_,hT2,rfl,_,rfl⟩⟩
    have I1:Inv X pins σ (upd H s.heap.objs.size (.tup [x,y])) { s with heap:=h'',toks:=tk } :=
      I.turnedNew (ch:=[z,TI,TO,i1,i2]) (fun c o hb q=>(sb.2 c (fun q'=>hb (by simp [q']))).trans (hk c o (fun q'=>hb (by simp [q'])) (fun q'=>hb (by simp [q'])) (fun q'=>hb (by simp [q'])) (fun q'=>hb (by simp [q'])) q)) hf (Nat.le_refl _) new
    refine ⟨.ref s.heap.objs.size,_,I1,rfl,⟨_,x,y,rfl,I.hok.fresh (Nat.le_refl _),rfl,fun l hl=>by rw [I.tuple_inj hl hqx]; exact hx,fun l hl=>by rw [I.list_inj hl hqy]; exact hy⟩,⟨z'',(sb.2 _ D.TIz).trans (hk _ _ D.TIz D.TITO D.TIi1 D.TIi2 hTI),⟨y1,y2,(sb.2 _ D.TOz).trans TO'⟩,s1.1.at fun o q=>(sb.2 _ D.i1z).trans q,s2.1.at fun o q=>(sb.2 _ D.i2z).trans q⟩,fun c hcm=>?_⟩
    have lt:c < s.heap.objs.size:=by
      rcases (show c=z ∨ c=TI ∨ c=TO ∨ c=i1 ∨ c=i2 by simpa using hcm) with q | q | q | q | q <;> rw [q]
      · exact zl
      · exact Heap.lt_size hTI
      · exact Heap.lt_size hTO
      · obtain ⟨_,e1,_⟩:=h1; exact Heap.lt_size e1
      · obtain ⟨_,e2,_⟩:=h2; exact Heap.lt_size e2
    rw [upd_ne (Nat.ne_of_lt lt)]
    exact (hf c hcm).1
  done:=by
    intro X hP hw hK hc i pins s σ H E I hf st hg
    subst hP hw hK
    obtain ⟨hz,hTI,⟨x0,y0,hTO⟩,h1,h2⟩:=st
    obtain ⟨xs,ys,hqx,hqy,⟨le1,le2⟩,hend⟩:=hg
    obtain ⟨its,rv,p,_⟩:=I.tuple hqx
    obtain ⟨its2,rv2,p2,_⟩:=I.list hqy
    have l1:=rv.length
    have l2:=rv2.length
    have hh:X.A.in1.handled=none:=I.ok.hd hc
    exact wpAny_pyNext_zipD2_end (X36 D) (Draws.tuple hh i1 a D.l1i1 its.toArray) (Draws.list hh i2 b D.l2i2 its2.toArray) hz hTI hTO ⟨h1,p⟩ ⟨h2,p2.isList⟩ (by simp; omega) (by simp; omega) (by simp; omega)
      fun h' tk hk=>⟨rfl,I.turnedL (t':=tk) (ch:=[z,TI,TO,i1,i2]) (fun c o hb q=>hk c o (fun q'=>hb (by simp [q'])) (fun q'=>hb (by simp [q'])) (fun q'=>hb (by simp [q'])) (fun q'=>hb (by simp [q'])) q) hf⟩
  self:=fun A i s Q E st h=>wpAny_pyIter_zip st.1 h
end Bv
namespace Bv
open PySem PySem.Spec L2
open PyProof.Rows hiding St
variable [HasW]
def X28 (K:PySem.W.Frag) (ta:TA):TI:=fun σ H R=>ta σ H fun vs H1=>∃ a b xs ys,vs=[.ref a, .ref b]∧SqT K H1 a xs∧SqL K H1 b ys∧R (ItM K a b) H1
theorem Y98 {X:Cx} {e e2:Expr} {ta:TA} {p pos tpos:Pos} {elts:List Expr} {kk:Nat} (hg:Gl X "zip") (hm:X.mg "zip" = none) (ha:PA X [e,e2] ta) (hs:starEach [e,e2] X.env=(false,eval e X.env) :: starEach [e2] X.env:=by rfl) (hpl:(backTo pos (starEach [e2] X.env)).any (·.1)=false:=by rfl) :
    PI X (.Tuple elts kk tpos) (.Call (.Name "zip" p) [e,e2] [] pos) (X28 X.K ta):=⟨fun pins s σ H R I h=>by
  refine Call_ (ld_blt I hg hm boot_zip (callWith_type1 (thn (ha.run pos pins s σ H _ I h) fun us s1 ⟨vs,H1,I1,r1,a,b,xs,ys,ex,hqx,hqy,q⟩=>?_) hs hpl))
  subst ex
  cases r1 with
  | cons r rr =>
    cases rr with
    | cons r' rr =>
      cases rr
      cases r
      cases r'
      obtain ⟨its,rv,p1,_⟩:=I1.tuple hqx
      obtain ⟨its2,rv2,p2,_⟩:=I1.list hqy
      have lt1:a < s1.heap.objs.size:=by obtain ⟨o,ho,_⟩:=id p1; exact Heap.lt_size ho
      have five:∀ c ∈ [s1.heap.objs.size + 4,s1.heap.objs.size + 2,s1.heap.objs.size + 3,s1.heap.objs.size,s1.heap.objs.size + 1],FpOk X pins H1 c:=fun c hc=>by
        have le:s1.heap.objs.size ≤ c:=by
          simp only [List.mem_cons,List.not_mem_nil,or_false] at hc
          rcases hc with z | z | z | z | z <;> rw [z] <;> first | exact Nat.le_refl _ | exact Nat.le_add_right _ _
        exact I1.fpOk le (I1.hok.fresh le)
      exact zip_begins2 (begins_tuple a its.toArray) (begins_list b its2.toArray) (show s1.heap.IsTuple a its.toArray from p1) p2.isList fun h' hz hTI hTO g1 g2 hsz hk=>wpAny_pyIter_zip hz
        ⟨s1.heap.objs.size + 4,[s1.heap.objs.size + 4,s1.heap.objs.size + 2,s1.heap.objs.size + 3,s1.heap.objs.size,s1.heap.objs.size + 1],_,_,H1,rfl,I1.kept (t':=s1.toks) hk,Y65 (PySem.W.ktu_apart s1.heap.objs.size a b lt1 p2.lt),⟨hz,hTI,⟨_,_,hTO⟩,⟨_,g1,rfl,rfl⟩,⟨_,g2,rfl,rfl⟩⟩,five,q⟩⟩
theorem Y66 {K:PySem.W.Frag} {a b:Addr} {xs ys:List V}:Walk (ItM K a b) (min xs.length ys.length) (fun H=>SqT K H a xs∧SqL K H b ys) (YPair (fun i=>xs[i]?) (fun i=>ys[i]?)) :=
  ⟨fun i _ hi q=>⟨xs,ys,xs[i]'(by omega),ys[i]'(by omega),q.1,q.2,by simp [show i < xs.length by omega],by simp [show i < ys.length by omega]⟩,fun _ q=>⟨xs,ys,q.1,q.2,by omega⟩,
    fun i H v H' _ q ⟨T,x,y,h1,h2,h3,h4,h5⟩=>⟨T,x,y,h1,h2,h3,h4 xs q.1,h5 ys q.2⟩⟩
def Y4r (ds es:List D):List Bv.X:=List.zipWith (fun d e=>Bv.X.d (.tup [d,e])) ds es
def X35:List Bv.X→Option (List Bv.X × Lk)
  | [.d (.tup ds), .d (.lst es)]=>some (Y4r ds es, .free)
  | _=>none
def Y50 (ms:MG (List Bv.X)):MIt:=fun e S=>(ms e S).bind fun xs S1=>Z2o (X35 xs) S1
theorem X1r {X:Cx} {Wx:WX} {e e2:Expr} {ms:MG (List Bv.X)} {p pos tpos:Pos} {elts:List Expr} {kk:Nat} (hg:Gl X "zip") (hm:X.mg "zip" = none) (ha:MA X Wx [e,e2] ms) (hs:starEach [e,e2] X.env=(false,eval e X.env) :: starEach [e2] X.env:=by rfl) (hpl:(backTo pos (starEach [e2] X.env)).any (·.1)=false:=by rfl) :
    MI X Wx (.Tuple elts kk tpos) (.Call (.Name "zip" p) [e,e2] [] pos) (Y50 ms):=PI.of (Y98 hg hm ha hs hpl) fun σ H R ⟨Z,ρ,e,S,st,ev,p⟩=>W3 st ev p fun ρ1 H1 v xs S1 st1 g1 ev1 a1 p1=>by
  obtain ⟨w,hw,p2⟩:=p1.opt
  unfold X35 at hw
  split at hw
  · rename_i ds es
    cases hw
    cases a1 with
    | cons h1 t =>
      cases t with
      | cons h2 t =>
        cases t
        cases h1 with
        | d h1 =>
          cases h2 with
          | d h2 =>
            cases h1 with
            | tup t1 hs1 =>
              cases h2 with
              | lst w2 r2 hs2 =>
                rename_i a us b ws
                refine ⟨a,b,us,ws,rfl,t1.sq, .inl (.inl r2),W6.ret0 p2 st1 ⟨fun H=>SqT X.K H a us∧SqL X.K H b ws,YPair (fun i=>us[i]?) (fun i=>ws[i]?),?_,fun Z2 ρ2 S2 H2 st m p fz k=>⟨⟨(m.tp t1).sq, .inl (.inl (m _ _ w2 r2).2)⟩,fun i x H3 y=>?_⟩⟩⟩
                · rw [show (Y4r ds es,Lk.free).1.length=min us.length ws.length by simp [Y4r,hs1.length,hs2.length]]; exact Y66
                · obtain ⟨T,u,v,rfl,hT,rfl,q1,q2⟩:=y
                  obtain ⟨d1,q3,q4⟩:=(hs1.mv m).at_ q1
                  obtain ⟨d2,q5,q6⟩:=(hs2.mv m).at_ q2
                  have kp:=Z0f (o:=HO.tup [u,v]) hT
                  exact ⟨kp, .d (.tup [d1,d2]),by simp [Y4r,List.getElem?_zipWith,q3,q5], .d (.tup (.inl ⟨st.fresh hT,upd_same⟩) (.cons (q4.mv (Z3e kp)) (.cons (q6.mv (Z3e kp)) .nil)))⟩
  · cases hw
end Bv
namespace PySem
open Sem (wp)
open AutoSeq1 (wpAny_loadPart')
open MeetsSeq MeetsSeq2 MeetsSeq3 SeqRoads2
namespace BvIn
section
variable {prog:Program} {w:World} {A:Around} {E:Value→Shared→Prop} {s:Shared}
end
end BvIn
end PySem
namespace Bv
open PySem PySem.Spec L2
open PyProof.Rows hiding St
structure OwnSub (K:PySem.W.Frag) (C:Str):Prop where
  st:PySem.W.subIn K (.ref (He.ga K C)) (.type "str")=some false
  no:PySem.W.subIn K (.ref (He.ga K C)) (.type "NoneType")=some false
  tu:PySem.W.subIn K (.ref (He.ga K C)) (.type "tuple")=some false
variable [HasW]
section
variable {X:Cx} {k:Nat} {f:Addr} {fd:FuncData} {ps:List Str} {g:List D→PR} {C:Str}
end
section
variable {X:Cx} {Wx:WX} {k j:Nat} {C:Str} {g:List D→PR}
end
end Bv
namespace PySem
open Sem (wp)
open AutoSeq1 (wpAny_loadPart')
open MeetsSeq MeetsSeq2 MeetsSeq3 SeqRoads2
namespace BvTu
section
variable {prog:Program} {w:World} {A:Around} {R:Result→Shared→Prop}
variable {E:Value→Shared→Prop} {s:Shared}
end
end BvTu
end PySem
namespace Bv
open PySem PySem.Spec L2
open PyProof.Rows hiding St
variable [HasW]
section
variable {X:Cx} {k:Nat} {f:Addr} {fd:FuncData} {ps:List Str} {g:List D→PR} {C:Str}
end
def Y26 (m:M):M:=fun e S=>(m e S).bind fun x S1=>Z2o ((Z23 x).map fun i => .d (.int (-i))) S1
section
variable {X:Cx} {Wx:WX} {k j:Nat} {C:Str} {g:List D→PR} {pos:Pos} {a:Expr} {m:M}
theorem Y8v (h:ME X Wx a m):ME X Wx (.UnaryOp .USub a pos) (Y26 m):=PE.of (pe_un un_neg h) fun σ H Q ⟨Z,ρ,e,S,st,ev,p⟩=>W3 st ev p fun ρ1 H1 v x S1 s1 g1 ev1 a1 p1=>by
  obtain ⟨w,hw,p2⟩:=p1.opt
  obtain ⟨i,h1,h2⟩:=Option.map_eq_some_iff.mp hw
  subst h2
  exact ⟨i,a1.int h1,W6.ret0 p2 s1 (.d (.int _))⟩
end
end Bv
namespace Bv
open PySem PySem.Spec L2
open PyProof.Rows hiding St
variable [HasW]
def Z5n (a:Str) (y:Bv.X) (S:Sto):R Bv.X:=match y with
  | .d (.str b)=>if !(b.length == 0) && decide (a.length + 2 ≤ sizeLine) && Z5a (Txt.split a b) then .ok (.r S.length) (S++[.lst ((Txt.split a b).map fun z => .d (.str z))]) else .bad
  | _ => .bad
theorem Y1u {K:PySem.W.Frag} {W:Wd} {ρ:List Addr} {H:Hp}:∀ {l:List Str},Z5a l=true→AXs K W ρ H (l.map fun z => .d (.str z)) (l.map V.str)
  | [],_ => .nil
  | z :: r,h=>by
    have h2:(PyData.strOk z && Z5a r)=true:=h
    rw [Bool.and_eq_true] at h2
    exact .cons (.d (.str h2.1)) (Y1u h2.2)
section
variable {X:Cx} {Wx:WX} {pos apos:Pos} {o e:Expr} {mo m:M}
theorem Y6a (ho:ME X Wx o mo) (he:ME X Wx e m) (hs:starEach [e] X.env=[(false,eval e X.env)]:=by rfl) (hbase:attributeBase o "split" X.env (eval o X.env)=eval o X.env:=by rfl) (hline:(apos.endLine == pos.line)=true:=by rfl) :
    ME X Wx (.Call (.Attribute o "split" apos) [e] [] pos) (Z1e Z5n mo m):=PE.of (pe_split ho he hs hbase hline) fun σ H Q ⟨Z,ρ,e,S,st,ev,p⟩=>W3 st ev p fun ρ1 H1 v x S1 s1 g1 ev1 a1 p1=>by
  cases a1 with
  | r _=>exact p1.elim
  | d a =>
    cases a with
    | str hz =>
      rename_i z
      refine ⟨⟨z,rfl⟩,W3 s1 ev1 (show W6 (AX X.K) X.K Z ρ1 H1 Wx σ Q ((m e S1).bind fun y S2=>Z5n z y S2) from p1) fun ρ2 H2 u y S2 s2 g2 ev2 a2 p2=>?_⟩
      unfold Z5n at p2
      split at p2
      · rename_i b
        split at p2
        · rename_i hc
          rw [Bool.and_eq_true,Bool.and_eq_true] at hc
          obtain ⟨⟨c1,c2⟩,c3⟩:=hc
          cases a2 with
          | d a2 =>
            cases a2 with
            | str hb =>
              refine ⟨z,b,rfl,rfl,by simpa using c1,of_decide_eq_true c2,fun q hq=>?_⟩
              obtain ⟨h1,h2⟩:=s2.pushL hq (Y1u (K:=X.K) (W:=Wn Z ρ2) (ρ:=ρ2) (H:=H2) c3)
              exact p2 _ _ _ h1 h2 (.r (by rw [s2.len]; simp))
        · exact p2.elim
      · exact p2.elim
    | _=>exact p1.elim
end
end Bv
namespace Bv
open PySem PySem.Spec L2
open PyProof.Rows hiding St
variable [HasW]
def X2v (S:Sto):X→Option (List X)
  | .d (.lst ds)=>some (ds.map .d)
  | .d _=>none
  | .r n=>match S[n]? with
    | some (.lst xs)=>some xs
    | _=>none
theorem Y36 {K:PySem.W.Frag} {Z:Wd} {ρ:List Addr} {S:Sto} {H:Hp} {x:Bv.X} {v:V} {xs:List Bv.X} (st:Sta K Z ρ S H) (a:AX K (Wn Z ρ) ρ H x v) (h:X2v S x=some xs):∃ q vs,v = .ref q∧H q=some (.lst vs)∧AXs K (Wn Z ρ) ρ H xs vs:=by
  cases x with
  | d d =>
    cases a with
    | d a =>
      cases a with
      | lst h1 h2 h3 =>
        cases h
        exact ⟨_,_,rfl,h2,h3.axs⟩
      | _=>cases h
  | r n =>
    have h2:Z01 S (.r n)=some (n,xs):=by
      unfold X2v at h
      unfold Z01
      cases z:S[n]? with
      | none=>simp only [z] at h; cases h
      | some o =>
        cases o with
        | lst ys =>
          simp only [z] at h ⊢
          cases h
          rfl
        | _=>simp only [z] at h; cases h
    obtain ⟨q,vs,e,_,h3,h4⟩:=Z9l st a h2
    exact ⟨q,vs,e,h3,h4⟩
end Bv
namespace Xe
open PySem PySem.W PySem.Calls PyProof.Rows PySem.HandSPX
structure TailF (newId:String) (bm:List Value):Prop where
  new:∃ (Bn inN:String) (bmN:List Value),ExcBaseFacts Bn newId inN bmN∧bm.contains (.type Bn)=true
  noA:bm.contains (.type "AttributeError")=false
  noN:bm.contains (.type "NameError")=false
structure InitF (B initId:String):Prop where
  init:Slot B "__init__" initId
  entry:entryFor table initId=some Builtin.«BaseException.__init__»
  kind:builtinKind initId=some .slot
  row:Manifest.signature? initId=some ⟨.positional, "*",B, .self,[⟨"args", .varPos,false⟩]⟩
  star:(B != "*")=true
theorem TailF.of {B newId initId:String} {bm:List Value} (F:ExcBaseFacts B newId initId bm):TailF newId bm:=⟨⟨B,initId,bm,F,F.hasB⟩,F.noAttr,F.noName⟩
theorem InitF.of {B newId initId:String} {bm:List Value} (F:ExcBaseFacts B newId initId bm):InitF B initId:=⟨F.init,F.initEntry,F.initKind,F.initRow,F.noStar⟩
theorem TailF.same {newId:String} {bm bmB:List Value} (T:TailF newId bmB) (h:∀ X:String,bm.contains (.type X)=bmB.contains (.type X)):TailF newId bm:=by
  obtain ⟨⟨Bn,inN,bmN,F,hb⟩,a,n⟩:=T
  exact ⟨⟨Bn,inN,bmN,F,(h _).trans hb⟩,(h _).trans a,(h _).trans n⟩
section
variable {prog:Program} {w:World} {M:Model} {A:Around} {E:Value→Shared→Prop} {R:Result→Shared→Prop} {h:Heap} {g:Array GenState} {d:Drawn} {t:Nat} {os:OsState}
variable {nm q:Str} {C N:Addr} {bs bm:List Value} {hdct:Bool} {sn:List Str} {sub:List Value} {ab:Bool} {col:Option Bool} {dd:Option Addr} {k0 k1 k2 k3 k5:Option Value} {B newId initId:String}
theorem new_check {Bn inN:String} {bmN:List Value} (F:ExcBaseFacts Bn newId inN bmN) (hB:bm.contains (.type Bn)=true) {rest:List Value} {Q:Unit→Shared→Prop}
    (hC:h.get? C=some (excClassObj nm q C N bs bm hdct sn sub ab col dd k0 k1 k2 k3 k5 newId)) (hq:Q () ⟨h,g,d,t,os⟩):wpAny M A (checkBuiltinCall newId ⟨.ref C :: rest,[]⟩) Q E ⟨h,g,d,t,os⟩:=by
  have within:(Value.ref C :: bm).contains (.type Bn)=true:=by rw [List.contains_cons,hB,Bool.or_true]
  have star:=F.noStar
  simp only [checkBuiltinCall,F.newKind,F.newSplit,F.newRow]
  repeat (first | refine wpAny_loadPart_at hC ?_ | (refine wpAny_isSubtype_exc hC ?_; rw [within]) | refine wpAny_staticBase_exc hC ?_ | refine wpAny_madeBy_exc hC ?_ | simp only [bne_self_eq_false,Bool.false_eq_true,if_false] | wp_step)
  exact hq
theorem new_made {Bn inN:String} {bmN:List Value} (F:ExcBaseFacts Bn newId inN bmN) (hB:bm.contains (.type Bn)=true) (hA:bm.contains (.type "AttributeError")=false) (hN:bm.contains (.type "NameError")=false) {rest:List Value}
    (hC:h.get? C=some (excClassObj nm q C N bs bm hdct sn sub ab col dd k0 k1 k2 k3 k5 newId))
    (hq:R (.ok (.ret (.ref (h.objs.size + 1)))) ⟨(h.push (kdv_tup rest)).push (excO C h.objs.size),g,d,t,os⟩) (hrest:rest.length ≤ sizeLine) :
    codeAny (model prog w) A (.builtin newId ⟨.ref C :: rest,[]⟩) R ⟨h,g,d,t,os⟩:=by
  have ends:=F.ends
  have c1:(Value.ref C :: bm).contains (.type Bn)=true:=by rw [List.contains_cons,hB,Bool.or_true]
  have c2:(Value.ref C :: bm).contains (.type "AttributeError")=false:=by rw [List.contains_cons,hA]; rfl
  have c3:(Value.ref C :: bm).contains (.type "NameError")=false:=by rw [List.contains_cons,hN]; rfl
  refine codeAny_builtinAt F.entry ?_
  unfold Builtin.«BaseException.__new__»
  refine PySem.wpAt_bind ?_
  show PySem.wpAt _ _ _ (stack >>= _) _ _ _
  refine PySem.wpAt_bind (PySem.wpAt_stack fun p below=>PySem.wpAt_of_wpAny ?_)
  wp_walk
  refine PySem.wpAt_of_wpAny ?_
  rw [F.owner]
  repeat (first | with_reducible refine wpAny_madeHere_exc F.canon hC ?_ | with_reducible refine wpAny_loadPart_at hC ?_ | (with_reducible refine wpAny_isSubtype_exc hC ?_; first | rw [c1] | rw [c2] | rw [c3]) | wp_step)
  show R _ _
  rw [Heap.size_push]
  exact hq
theorem class_call (T:TailF newId bm) {rest:List Value} {fI:Addr} {Q:Fin→Shared→Prop}
    (hC:h.get? C=some (excClassObj nm q C N bs bm hdct sn sub ab col dd k0 k1 k2 k3 k5 newId))
    (hi:W.Looks (model prog w) h (typeLookup (.ref C) "__init__") (some (.ref fI))) (hb:∀ self,W.Looks (model prog w) h (bindSpecial (.ref fI) self) (.ref fI,[self])) (hrest:rest.length ≤ sizeLine)
    (hq:codeAny (model prog w) A (.call (.ref fI) ⟨.ref (h.objs.size + 1) :: rest,[]⟩)
      (fun r s'=>match r with | .ok (.ret v)=>v = .none∧Q (.done (.ret (.ref (h.objs.size + 1)))) s' | .ok _=>False | .error e=>E e s')
      ⟨(h.push (W.kdv_tup rest)).push (excO C h.objs.size),g,d,t,os⟩) :
    wpAny (model prog w) A (Builtin.«type.__call__» ⟨.ref C :: rest,[]⟩) Q E ⟨h,g,d,t,os⟩:=by
  obtain ⟨⟨Bn,inN,bmN,F,hB⟩,hA,hN⟩:=T
  repeat (first | with_reducible refine wpAny_loadPart_at hC ?_ | with_reducible refine wpAny_madeBy_exc hC ?_ | wp_step)
  refine codeAny_call_builtin_code (Code.quiet_builtin _ F.quiet) (new_check F hB hC ?_)
  refine new_made F hB hA hN hC ?_ hrest
  show wpAny _ _ _ _ _ _
  have k:∀ b o,h.get? b=some o→((h.push (W.kdv_tup rest)).push (excO C h.objs.size)).get? b=some o:=fun b o e=>Heap.get?_push_of_some _ (Heap.get?_push_of_some _ e)
  have cls1:=k _ _ hC
  have obj1:((h.push (W.kdv_tup rest)).push (excO C h.objs.size)).get? (h.objs.size + 1)=some (excO C h.objs.size):=by heap_get
  have self1:(Value.ref C :: bm).contains (.ref C)=true:=by simp
  have i1:=hi.keeps k
  have b1:=(hb (.ref (h.objs.size + 1))).keeps k
  unfold isInstance
  repeat (first | with_reducible refine wpAny_loadPart_at obj1 ?_ | (with_reducible refine wpAny_isSubtype_exc cls1 ?_; rw [self1]) | wp_step)
  show wpAny _ _ (typeLookup (.ref C) _) _ _ _
  refine i1.at ?_
  refine wpAny_holding (wpAny_bind (b1.at ?_))
  refine wpAny_bind (wpAny_call (codeAny_mono hq fun r s' z=>?_))
  rcases r with e | (v | _ | _ | _) <;> first | exact z | exact z.elim | skip
  obtain ⟨rfl,z⟩:=z
  first
    | exact wpAny_pure (wpAny_pure z)
    | (wp_walk; exact z)
theorem call_class (T:TailF newId bm) {rest:List Value} {fI:Addr}
    (hC:h.get? C=some (excClassObj nm q C N bs bm hdct sn sub ab col dd k0 k1 k2 k3 k5 newId))
    (hi:W.Looks (model prog w) h (typeLookup (.ref C) "__init__") (some (.ref fI))) (hb:∀ self,W.Looks (model prog w) h (bindSpecial (.ref fI) self) (.ref fI,[self])) (hrest:rest.length ≤ sizeLine)
    (hq:codeAny (model prog w) (A.under (.builtin "type.__call__" ⟨.ref C :: rest,[]⟩)) (.call (.ref fI) ⟨.ref (h.objs.size + 1) :: rest,[]⟩) (W.InitBack (h.objs.size + 1) R)
      ⟨(h.push (W.kdv_tup rest)).push (excO C h.objs.size),g,d,t,os⟩) :
    codeAny (model prog w) A (.call (.ref C) ⟨rest,[]⟩) R ⟨h,g,d,t,os⟩:=by
  have f1:=tc_lookup
  have f2:=tc_bind (.ref C)
  have ty:(⟨h,g,d,t,os⟩:Shared).TypeIs (.ref C) "type" := ⟨_,hC,rfl⟩
  refine codeAny_of_tree ?_
  show wpAny _ _ (callAny (.ref C) _) _ _ _
  repeat (any_goals (first | assumption | with_reducible refine wpAny_loadPart_at hC ?_ | wp_step))
  refine ⟨rfl,?_⟩
  refine codeAny_call_builtin_at (Code.quiet_builtin _ (by decide +kernel)) entry_typeCall (wpAny_check_type_call_sub hC (class_call T hC hi hb hrest ?_))
  refine codeAny_mono hq fun r s' z=>?_
  rcases r with e | (v | _ | _ | _) <;> exact z
theorem bound_check (F:InitF B initId) {e:Addr} {oe:Obj} {rest:List Value} {Q:Unit→Shared→Prop}
    (hC:h.get? C=some (excClassObj nm q C N bs bm hdct sn sub ab col dd k0 k1 k2 k3 k5 newId)) (he:h.get? e=some oe) (hcls:oe.cls = .ref C) (hq:Q () ⟨h,g,d,t,os⟩):wpAny M A (checkBoundCall initId ⟨.ref e :: rest,[]⟩) Q E ⟨h,g,d,t,os⟩:=by
  have star:=F.star
  simp only [checkBoundCall,F.kind,F.row]
  repeat (first | (with_reducible refine wpAny_loadPart_at he ?_; rw [hcls]) | with_reducible refine wpAny_loadPart_at hC ?_ | wp_step)
  refine wpAny_onRaise ?_
  rw [show ∀ (a b:String) (n:Nat),Bind.check ⟨.positional, "*",B, .self,[⟨"args", .varPos,false⟩]⟩ a b n (List.map (fun x=>x.fst) ({ pos:=Value.ref e :: rest }:Args).kw)=pure () from
    fun a b n=>check_star_args _ _ _ _ _ _]
  exact wpAny_pure hq
end
theorem store_KE:StoreFacts "KeyError" [.type "KeyError", .type "LookupError", .type "Exception", .type "BaseException", .type "object"] "object.__setattr__" "object" where
  mro:=by kernel_rfl
  slot := .of (owner := "object") (n := "__setattr__") (by rw [typeLookup_type,builtinLookup_eq_fast]; kernel_rfl) (by decide +kernel) (by decide +kernel) (by decide +kernel)
    (by first | exact .inl (by decide +kernel) | exact .inr (by decide +kernel)) (by rw [isSubtype_type]; kernel_rfl)
  entry:=F.entry_object_sa
  kind:=by decide +kernel
  split:=by decide +kernel
  hasOwner:=by decide +kernel
  args:=fun a b c=>by unfold argsOk; kernel_rfl
  passes:=fun self=>by kernel_rfl
theorem init_KE:InitF "KeyError" "KeyError.__init__" where
  init := .of (owner := "KeyError") (n := "__init__") (by rw [typeLookup_type,builtinLookup_eq_fast]; kernel_rfl) (by decide +kernel) (by decide +kernel) (by decide +kernel)
    (by first | exact .inl (by decide +kernel) | exact .inr (by decide +kernel)) (by rw [isSubtype_type]; kernel_rfl)
  entry:=entryFor_alias (id' := "BaseException.__init__") (by rw [fastTable_eq_tree]; kernel_rfl) (by first | rfl | decide +kernel) (by decide +kernel) (by rw [fastTable_eq_tree]; kernel_rfl)
  kind:=by kernel_rfl
  row:=by kernel_rfl
  star:=by decide +kernel
theorem tail_KE:TailF "LookupError.__new__" [.type "KeyError", .type "LookupError", .type "Exception", .type "BaseException", .type "object"]:=⟨⟨_,_,_,F.excBase_LookupError,by decide +kernel⟩,by decide +kernel,by decide +kernel⟩
theorem kxs_KE:KxsFacts "KeyError" "KeyError.__init__" := ⟨by show builtinType _=_; rw [builtinType_eq_fast]; kernel_rfl,by first | kernel_rfl | rfl⟩
end Xe
namespace Xe
open PySem PySem.W PySem.Calls PyProof.Rows PySem.HandSPX
def eArgs (p:Str) (a1 a2:Pos):Arguments:={ posonlyargs:=[],args:=[{ arg := "self",annotation:=none,pos:=a1 },{ arg:=p,annotation:=none,pos:=a2 }],vararg:=none,kwonlyargs:=[],kw_defaults:=[],kwarg:=none,defaults:=[] }
def eBody (p:Str) (p0 p1 p2 p3 p4 p5 q1 q2 q3 q4:Pos):List Stmt :=
  [.Expr (.Call (.Attribute (.Call (.Name "super" p0) [] [] p1) "__init__" p2) [.Name p p3] [] p4) p5, .Assign [.Attribute (.Name "self" q1) p q2] (.Name p q3) q4]
def eSc (p:Str):Scope:={ kind := .function,names:=[("self", .local),(p, .local),("__class__", .free),("super", .globalImplicit)],isGenerator:=false,isCoroutine:=false,more:=[] }
theorem eSc_cells {p:Str}:∀ x ∈ (eSc p).names,x.2 ≠ .cell:=fun x hx=>by
  simp only [eSc,List.mem_cons,List.not_mem_nil,or_false] at hx
  rcases hx with rfl | rfl | rfl | rfl <;> simp
def EHe (p:Str) (p0 p1 p2 p3 p4:Pos):Prop:=∀ env:Env,∃ pl:Sem Bool,eval (.Call (.Attribute (.Call (.Name "super" p0) [] [] p1) "__init__" p2) [.Name p p3] [] p4) env=(do
  let ov ← attributeBase (.Call (.Name "super" p0) [] [] p1) "__init__" env (eval (.Call (.Name "super" p0) [] [] p1) env)
  standAt p2.atName
  let (f,first) ← holding [ov] (getMethod ov "__init__" pl)
  callWith p4 f first (backTo p4 (starEach [.Name p p3] env)) [])
def ParN (p:Str):Prop:=p = "word" ∨ p = "at" ∨ p = "name"
structure EBase (B newId initId:String) (bmB:List Value):Prop where
  T:TailF newId bmB
  I:InitF B initId
  K:KxsFacts B initId
  S:StoreFacts B bmB "object.__setattr__" "object"
theorem base_VE:EBase "ValueError" "ValueError.__new__" "ValueError.__init__" [.type "ValueError", .type "Exception", .type "BaseException", .type "object"]:=⟨.of F.excBase_ValueError, .of F.excBase_ValueError,kxs_ValueError,F.store_ValueError⟩
theorem base_IE:EBase "IndexError" "IndexError.__new__" "IndexError.__init__" [.type "IndexError", .type "LookupError", .type "Exception", .type "BaseException", .type "object"]:=⟨.of F.excBase_IndexError, .of F.excBase_IndexError,kxs_IndexError,F.store_IndexError⟩
theorem base_KE:EBase "KeyError" "LookupError.__new__" "KeyError.__init__" [.type "KeyError", .type "LookupError", .type "Exception", .type "BaseException", .type "object"]:=⟨tail_KE,init_KE,kxs_KE,store_KE⟩
structure ErrT (prog:Program) (K:Frag) (C fI:Addr) (p:Str) (B newId initId:String) (bmB:List Value):Prop where
  ini:excInitIn K C bmB newId=true
  over:excOver K C bmB=true
  hdC:hasDictIn K C=true
  sa:findIn K (.ref C) "__setattr__" = some (some (.builtin "object.__setattr__"))
  noP:findIn K (.ref C) p=some none
  iC:findIn K (.ref C) "__init__" = some (some (.ref fI))
  tC:typeIn K (.ref fI)=some (.type "function")
  kC:keepIn K (.ref C)=true
  exC:subIn K (.ref C) (.type "BaseException")=some true
  exB:subIn K (.ref C) (.type B)=some true
  tyC:typeIn K (.ref C)=some (.type "type")
  opq:nsIn K cStatics "thirdparty.any" = some none
  sup:ks_superIn K C C "__init__" = some (some (.builtin initId))
  mro:mroIn K C (.ref C)=some true
  sg:nsIn K mainGlobals "super" = some none
  fn:∃ (oc:Value) (od:Option Addr) (doc pm:Value) (an:Option Addr) (cda cc:Addr) (ct:Value) (osl:Array (Option Value)) (qual:Str) (a1 a2 p0 p1 p2 p3 p4 p5 q1 q2 q3 q4:Pos),
    K.lookup fI=some ⟨oc,od, .func (ksFn "__init__" qual (eArgs p a1 a2) (eBody p p0 p1 p2 p3 p4 p5 q1 q2 q3 q4) (eSc p) .none .none doc pm an (.ref cda) ct cc),osl⟩∧codeIn K (.ref cda) qual=true∧EHe p p0 p1 p2 p3 p4 ∧
    (∃ ccl cdd vs ccs file tf,K.lookup cda=some ⟨ccl,cdd, .fields vs,ccs⟩∧vs[2]?=some (.str file tf)∧((prog.main.file:Str) == file)=true) ∧
    (∃ cl cld csl,K.lookup cc=some ⟨cl,cld, .cell (some (.ref C)),csl⟩)
structure EMod (K:Frag) (base:Heap) (prog:Program):Prop where
  kin:K.In base
  ns:∃ mg,base.Ns mainGlobals mg
  blt:∃ mb,base.Ns builtinsNs mb∧∀ x:Str,x ≠ "__name__" → mb x=bootBuiltins x
  top:(prog.main.scope.names.lookup ("super" : Str)).isSome=false
theorem one_size' (v:Value):[v].length ≤ sizeLine:=by
  rw [sizeLine_eq]
  exact (by decide:1 ≤ 16777216)
structure EEnd (h h':Heap) (x C dx t1:Addr) (p:Str) (v:Value):Prop where
  keep:∀ b o,b ≠ x→h.get? b=some o→h'.get? b=some o
  obj:h'.get? x=some { cls := .ref C,dict:=some dx,data := .fields #[.ref t1, .none, .none, .none, .bool false, .none] }
  dbig:h.objs.size ≤ dx
  dne:dx ≠ x
  ns:h'.Ns1 dx (fun y=>if y=p then some v else none)
structure EMade (h h':Heap) (e C d:Addr) (p:Str) (v:Value):Prop where
  keep:∀ b o,h.get? b=some o→h'.get? b=some o
  new:h.objs.size ≤ e
  obj:∃ t1:Addr,h'.get? e=some ({ cls := .ref C,dict:=some d,data := .fields #[.ref t1, .none, .none, .none, .bool false, .none] }:Obj)
  dbig:h.objs.size ≤ d
  dne:d ≠ e
  ns:h'.Ns1 d (fun y=>if y=p then some v else none)
section
variable {prog:Program} {w:World} {A:Around} {E:Value→Shared→Prop} {R:Result→Shared→Prop} {K:Frag} {C fI:Addr} {p:Str} {B newId initId:String} {bmB:List Value} {base:Heap}
theorem store_new {x:Addr} {fv:Array Value} {v:Value} {tk:Tok} {h:Heap} {g:Array GenState} {d:Drawn} {t:Nat} {os:OsState} (SF:StoreFacts B bmB "object.__setattr__" "object") (X:K.In h) (hx:h.get? x=some { cls := .ref C,data := .fields fv }) (ov:excOver K C bmB=true) (hdc:hasDictIn K C=true) (np:findIn K (.ref C) p=some none)
    (hq:∀ h' tk' dx,(∀ b o,b ≠ x→h.get? b=some o→h'.get? b=some o)→h.objs.size ≤ dx→dx ≠ x→h'.get? x=some { cls := .ref C,dict:=some dx,data := .fields fv }→h'.Ns1 dx (fun y=>if y=p then some v else none)→R (.ok (.ret .none)) ⟨h',g,d,tk',os⟩) :
    codeAny (model prog w) A (.call (.builtin "object.__setattr__") ⟨[.ref x, .str p tk,v],[]⟩) R ⟨h,g,d,t,os⟩:=by
  have I:InstAt h x { cls := .ref C,data := .fields fv } C none:=⟨hx,rfl,rfl,trivial⟩
  have nx:x ≠ h.objs.size:=Nat.ne_of_lt (Heap.lt_size hx)
  obtain ⟨cd,hcd,hdt⟩:∃ cd,clsIn K C=some cd∧cd.hasDict=true:=by
    unfold hasDictIn at hdc
    cases z:clsIn K C with
    | none=>rw [z] at hdc; cases hdc
    | some cd=>rw [z] at hdc; exact ⟨cd,rfl,hdc⟩
  have LC:Looks (model prog w) h (classData C) cd:=looks_clsIn X hcd
  refine osa_openX SF (s:=⟨h,g,d,t,os⟩) X I ov (show takerIn K C p=some none by unfold takerIn; rw [np]; rfl) fun bb=>?_
  show wpAny _ _ (Builtin.ObjectAttr.storeInOwnDict (.ref x) (.ref C) (.str p tk) p v bb) _ _ _
  obtain ⟨c1,c2,c3,c4,c5,c6,c7,c8,c9,c10,c11⟩:=cd
  dsimp only at hdt
  subst hdt
  unfold Builtin.ObjectAttr.storeInOwnDict Builtin.ObjectAttr.ownDictForStores
  repeat (first
    | with_reducible refine HandSPX.store_in_new ?_ ?_
    | with_reducible refine wpAny_loadPart_at hx ?_
    | with_reducible refine LC.at ?_
    | wp_step)
  · have at_:=(Heap.get?_update_ne (h.push { cls := .type "dict",data := .dict #[] }) h.objs.size x (fun o=>{ o with dict:=some h.objs.size }) nx.symm).trans (Heap.get?_push_at rfl rfl)
    exact ⟨_,#[],_,at_,rfl,fun e he=>absurd he (by simp),fun _=>rfl⟩
  · intro h1 tk1 N1 S1
    have hx1:=Heap.get?_push_of_some { cls:=Value.type "dict",data:=Data.dict #[] } hx
    refine hq h1 tk1 h.objs.size (fun b o hb ho=>?_) (Nat.le_refl _) nx.symm ?_ N1
    · have up:=(Heap.get?_update_ne _ _ _ (fun o:Obj=>{ o with dict:=some h.objs.size }) hb).trans (Heap.get?_push_of_some { cls:=Value.type "dict",data:=Data.dict #[] } ho)
      exact (S1.2 b (Nat.ne_of_lt (Heap.lt_size ho))).trans up
    · exact (S1.2 x nx).trans (Heap.get?_update_self _ hx1 rfl)
theorem ne_key {K:Frag} {h:Heap} (X:K.In h) {a:Addr} (ha:h.objs.size ≤ a):K.lookup a=none:=by
  cases e:K.lookup a with
  | none=>rfl
  | some o=>exact absurd (Heap.lt_size (X _ _ e)) (Nat.not_lt.mpr ha)
theorem callWith_one {M:Model} {pos:Pos} {i:String} {x u:Addr} {env:Env} {e:PySem.Expr} {s:Shared} {Q:Value→Shared→Prop} (h:wpAny M A (eval e env) (fun v s1=>KxsAt i u x s1.heap∧wpAny M A (call (.ref u) [v]) Q E s1) E s)
    (he:starEach [e] env=[(false,eval e env)]):wpAny M A (callWith pos (.ref u) [] (backTo pos (starEach [e] env)) []) Q E s:=by
  have key:wpAny M A (spliced (backTo pos (starEach [e] env))) (fun vs s1=>KxsAt i u x s1.heap∧wpAny M A (call (.ref u) vs) Q E s1) E s :=
    PyProof.Rows.spliced_more (wpAny_mono h (fun v s1 h1=>PyProof.Rows.spliced_none h1) fun _ _ z=>z) he
  rw [he] at key ⊢
  exact kxs_callWith (i:=i) (x:=x) rfl (evalArgs_plain key)
theorem call_mw (Bs:EBase B newId initId bmB) {nm qn:Str} {N:Addr} {bs bm:List Value} {hdct:Bool} {sn:List Str} {sub:List Value} {ab:Bool} {col:Option Bool} {dd:Option Addr} {j0 j1 j2 j3 j5:Option Value} {h:Heap} {g:Array GenState} {d:Drawn} {t:Nat} {os:OsState} {u x t0:Addr} {v:Value} {Q:Value→Shared→Prop}
    (hC:h.get? C=some (excClassObj nm qn C N bs bm hdct sn sub ab col dd j0 j1 j2 j3 j5 newId)) (hx:h.get? x=some (excO C t0)) (hu:h.get? u=some (kxs_mw initId x))
    (hq:∀ h',(∀ b o,b ≠ x→h.get? b=some o→h'.get? b=some o)→h'.get? x=some (excO C h.objs.size)→Q .none ⟨h',g,d,t,os⟩):wpAny (model prog w) A (call (.ref u) [v]) Q E ⟨h,g,d,t,os⟩:=by
  refine wpAny_call (codeAny_of_tree ?_)
  show wpAny _ A.in1 (callAny (.ref u) ⟨[v],[]⟩) _ _ _
  simp only [callAny]
  refine wpAny_bind (wpAny_load hu ?_)
  have mw:(Value.type "method-wrapper" == Value.type "method" || Value.type "method-wrapper" == Value.type "builtin_function_or_method" || Value.type "method-wrapper" == Value.type "method-wrapper")=true:=by decide
  simp only [kxs_mw,mw,if_true]
  refine KFB.if_so (by decide) (wpAny_bind (bound_check Bs.I hC hx rfl (wpAny_bind (wpAny_pure (wpAny_pure ?_)))))
  refine ⟨plainId_quiet Bs.I.init.plain _,codeAny_builtin Bs.I.entry ?_⟩
  rw [Around.under_plainId Bs.I.init.plain _]
  exact exc_init_tree (cls := .ref C) (t0:=t0) (dv:=none) (c2 := .none) (c3 := .none) (b4 := .bool false) hx (one_size' v) fun h' k e _=>hq h' k e
theorem sup_init (hp:ParN p) (T:ErrT prog K C fI p B newId initId bmB) (Bs:EBase B newId initId bmB) (G:EMod K base prog) {s:Shared} (kb:∀ b o,base.get? b=some o→s.heap.get? b=some o) {x t0:Addr} {v:Value} (lim:s.heap.NoLimit) (hx:s.heap.get? x=some (excO C t0)) (hnx:K.lookup x=none) (room:A.depth < recursionLimit)
    (hq:∀ h' tk dx t1,EEnd s.heap h' x C dx t1 p v→R (.ok (.ret .none)) { s with heap:=h',toks:=tk }):codeAny (model prog w) A (.call (.ref fI) ⟨[.ref x,v],[]⟩) R s:=by
  obtain ⟨oc,od,doc,pm,an,cda,cc,ct,osl,qual,a1,a2,p0,p1,p2,p3,p4,p5,q1,q2,q3,q4,ho,hcode,hHe,⟨ccl,cdd,vs,ccs,file,tf,hcda,hv2,hfile⟩,⟨cl,cld,csl,hcc⟩⟩:=T.fn
  have X:K.In s.heap:=G.kin.keeps kb
  rcases hp with e | e | e <;> subst e
  all_goals
    refine ks_codeAny_call_defAt (fd:=ksFn "__init__" qual (eArgs _ a1 a2) (eBody _ p0 p1 p2 p3 p4 p5 q1 q2 q3 q4) (eSc _) .none .none doc pm an (.ref cda) ct cc) (body:=eBody _ p0 p1 p2 p3 p4 p5 q1 q2 q3 q4) (binds:=[("self", .ref x),(_,v)])
      room (X _ _ ho) rfl lim (codeRec_of X hcode) rfl (BindsTo.of_eq (by first | rfl | with_unfolding_all rfl)) eSc_cells (by simp only [List.mem_cons,List.not_mem_nil,or_false,forall_eq_or_imp,forall_eq]; exact ⟨by decide +kernel,by decide +kernel⟩) (fun h1 ns1 k1=>?_) rfl rfl rfl
    have X1:K.In h1:=X.keeps k1
    have hx1:=k1 _ _ hx
    have kb1:∀ b o,base.get? b=some o→h1.get? b=some o:=fun b o e=>k1 b o (kb b o e)
    obtain ⟨mg,hmg⟩:=G.ns
    have mgs:mg "super" = none:=mg_none_of G.kin hmg T.sg
    obtain ⟨mb,hmb,hbb⟩:=G.blt
    obtain ⟨nm,N,qn,bs,bm,hdct,sn,sub,ab,col,dd,j0,j1,j2,j3,j5,hC,hT⟩:=excInit_of X1 T.ini
    have nxC:x ≠ C:=fun z=>by
      have:K.lookup C=none:=z ▸ hnx
      have c:=T.ini
      unfold excInitIn at c
      rw [this] at c
      cases c
    obtain ⟨pl,he⟩:=hHe (callEnv (ksFn "__init__" qual (eArgs _ a1 a2) (eBody _ p0 p1 p2 p3 p4 p5 q1 q2 q3 q4) (eSc _) .none .none doc pm an (.ref cda) ct cc) s.heap.objs.size fI)
    refine ks_wpAt_execs_cons (ks_wpAt_Expr_any (ks_wpAt_MethodCall (pl:=pl) (he:=he) (ks_wpAt_super_base (ar:={ arg := "self",annotation:=none,pos:=a1 }) rfl rfl (by decide +kernel) rfl (X1 _ _ ho) rfl rfl rfl (X1 _ _ hcda) rfl hv2 hfile G.top ?_)))
    refine ks_loadName_global rfl rfl (loadGlobal_builtin (hmg.keeps kb1) mgs (hmb.keeps kb1) ((hbb "super" (by decide)).trans (by decide +kernel)) ⟨rfl,?_⟩)
    refine wpAny_loadName_free rfl rfl rfl ⟨_,X1 _ _ hcc,rfl⟩ ?_
    refine wpAny_loadName_local (v := .ref x) rfl rfl ns1 (by first | rfl | with_unfolding_all rfl | kernel_rfl) ?_
    refine ks_wpAny_isType_cls hC rfl ⟨rfl,?_⟩
    refine ks_wpAny_call_super hC rfl hx1 rfl (fun c e=>by cases e) (looks_mroIn X1 T.mro) (fun h2 e2 k2=>?_)
    have X2:K.In h2:=X1.keeps k2
    have hx2:=k2 _ _ hx1
    have hC2:=k2 _ _ hC
    have I2:InstAt h2 x (excO C t0) C none:=⟨hx2,rfl,rfl,trivial⟩
    have hI:Looks (model prog w) h2 (isInstance (.ref x) (.type B)) true:=I2.type.andThen (looks_subIn X2 T.exB)
    obtain ⟨cd,hcd⟩:∃ cd,clsIn K C=some cd:=by
      have c:=T.sup
      unfold ks_superIn at c
      cases z:clsIn K C with
      | none=>rw [z] at c; cases c
      | some cd=>exact ⟨cd,rfl⟩
    have hm:alongIn K "__init__" ((cd.mro.dropWhile (· != .ref C)).drop 1)=some (some (.builtin initId)):=by
      have c:=T.sup
      unfold ks_superIn at c
      rw [hcd] at c
      exact c
    refine kxs_getMethod Bs.K e2 (looks_opaque X2 T.opq) (l₀:=cd.mro) (fun A Q E s k q=>wpAny_bind ((looks_clsIn X2 hcd) A _ E s k (wpAny_pure q))) rfl X2 hm hI nxC (by decide +kernel) ?_
    refine callWith_one (i:=initId) (x:=x) (wpAny_Name (wpAny_loadName_local (v:=v) rfl rfl (ns1.at fun o e=>Heap.get?_push_of_some _ (k2 _ _ e)) (by first | rfl | with_unfolding_all rfl | kernel_rfl) ?_)) (by rfl)
    have hu:(h2.push (kxs_mw initId x)).get? h2.objs.size=some (kxs_mw initId x):=Heap.get?_push_at rfl rfl
    refine ⟨hu,call_mw Bs (Heap.get?_push_of_some _ hC2) (Heap.get?_push_of_some _ hx2) hu fun h3 k3 hx3=>?_⟩
    have nL:s.heap.objs.size ≠ x:=Nat.ne_of_gt (Heap.lt_size hx)
    have k23:∀ b o,b ≠ x→h1.get? b=some o→h3.get? b=some o:=fun b o hb e=>k3 b o hb (Heap.get?_push_of_some _ (k2 _ _ e))
    have ns3:h3.Ns s.heap.objs.size _:=ns1.at fun o e=>k23 _ o nL e
    have X3:K.In h3:=fun a o e=>k23 a o (fun z=>by rw [z,hnx] at e; cases e) (X1 a o e)
    refine wpAt_of_wpAny (wpAny_execs_cons (plainObj_wpAny_Assign_Attribute ?_))
    refine wpAny_Name (wpAny_loadName_local (v:=v) rfl rfl ns3 (by first | rfl | with_unfolding_all rfl | kernel_rfl) ?_)
    refine wpAny_Name (wpAny_loadName_local (v := .ref x) rfl rfl ns3 (by first | rfl | with_unfolding_all rfl | kernel_rfl) ?_)
    refine set_plain X3 (ox:=excO C _) (od:=none) ⟨hx3,rfl,rfl,trivial⟩ T.sa ?_
    refine store_new Bs.S X3 hx3 T.over T.hdC T.noP fun h4 tk4 dx k4 dn dne hx4 hn4=>?_
    have bg:s.heap.objs.size < h3.objs.size:=ns3.lt
    exact wpAny_execs_nil (hq h4 _ dx _ ⟨fun b o hb e=>k4 b o hb (k23 b o hb (k1 b o e)),hx4,Nat.le_trans (Nat.le_of_lt bg) dn,dne,hn4⟩)
theorem made_ok (hp:ParN p) (T:ErrT prog K C fI p B newId initId bmB) (Bs:EBase B newId initId bmB) (G:EMod K base prog) {h:Heap} {g:Array GenState} {d:Drawn} {t:Nat} {os:OsState} (kb:∀ b o,base.get? b=some o→h.get? b=some o) {v:Value} (lim:h.NoLimit) (room:A.depth + 1 < recursionLimit)
    (hq:∀ h' tk e d',EMade h h' e C d' p v→R (.ok (.ret (.ref e))) ⟨h',g,d,tk,os⟩):codeAny (model prog w) A (.call (.ref C) ⟨[v],[]⟩) R ⟨h,g,d,t,os⟩:=by
  have X:K.In h:=G.kin.keeps kb
  obtain ⟨nm,N,qn,bs,bm,hdct,sn,sub,ab,col,dd,j0,j1,j2,j3,j5,hC,hT⟩:=excInit_of X T.ini
  have k:∀ b o,h.get? b=some o→((h.push (kdv_tup [v])).push (excO C h.objs.size)).get? b=some o:=fun b o e=>Heap.get?_push_of_some _ (Heap.get?_push_of_some _ e)
  have at_:((h.push (kdv_tup [v])).push (excO C h.objs.size)).get? (h.objs.size + 1)=some (excO C h.objs.size):=by heap_get
  refine call_class (Bs.T.same hT) hC (looks_findIn X T.iC) (fun self=>bind_fn X self T.tC) (one_size' v) ?_
  refine sup_init (s:=⟨(h.push (kdv_tup [v])).push (excO C h.objs.size),g,d,t,os⟩) hp T Bs G (fun b o e=>k b o (kb b o e)) (lim.keeps k) at_ (ne_key X (Nat.le_succ _)) room fun h' tk' dx t1 ⟨k',hx,dn,dne,hns⟩=>?_
  have old:∀ b o,h.get? b=some o→h'.get? b=some o:=fun b o e=>k' b o (Nat.ne_of_lt (Nat.lt_succ_of_lt (Heap.lt_size e))) (k b o e)
  have z:h.objs.size ≤ dx:=by
    have q:((h.push (kdv_tup [v])).push (excO C h.objs.size)).objs.size ≤ dx:=dn
    rw [Heap.size_push,Heap.size_push] at q
    omega
  exact ⟨rfl,hq h' tk' (h.objs.size + 1) dx ⟨old,Nat.le_succ _,⟨_,hx⟩,z,dne,hns⟩⟩
end
end Xe
namespace Xe
open PySem PySem.Spec PyProof.Rows L2
structure ErrOk (P:Program) (K:PySem.W.Frag) (C fI:Addr) (p:Str):Prop where
  ex:∃ B newId initId bmB,ErrT P K C fI p B newId initId bmB∧EBase B newId initId bmB
  par:ParN p
  top:(P.main.scope.names.lookup ("super" : Str)).isSome=false
def tMkS (C:Addr) (p:Str) (ta:TA):L2.St→Hp→XK→Prop:=fun σ H Q=>ta σ H fun vs H1=>∃ v,vs=[v]∧∀ d,H1 d=none→Q (.ref C) (some d) (upd H1 d (.xd [(p,v)]))
section
variable {X:Cx} {C fI:Addr} {p:Str}
theorem pmk_sup {x:Str} {a:Expr} {ta:TA} {np pos:Pos} (T:ErrOk X.prog X.K C fI p) (gC:X.mg x=some (.ref C)) (hr:X.A.depth + 1 < recursionLimit) (ha:PA X [a] ta) (hg:Gl X x) (hdb:(x == ("__debug__" : Str))=false:=by decide)
    (he:starEach (a :: []) X.env=(false,eval a X.env) :: starEach [] X.env:=by rfl) (hpl:(backTo pos (starEach [] X.env)).any (·.1)=false:=by rfl) :
    L2H.PMk5 X (.Call (.Name x np) [a] [] pos) (tMkS C p ta):=by
  intro pins s σ H Q I h
  obtain ⟨⟨B,newId,initId,bmB,T0,Bs⟩,par,top⟩:=T
  refine wpAny_Call_Name_kw (ld_glob I hg gC ?_ hdb)
  refine PySem.W.callWith_K (h₀:=X.base) I.ok.mod.kin T0.kC (thn (ha.run pos pins s σ H _ I h) fun us s1 ⟨vs,H1,I1,r1,v,ev,q1⟩=>⟨I1.kIn,?_⟩) he hpl
  subst ev
  cases r1 with
  | @cons _ v' _ us' rv rn =>
    cases rn
    show wpAny _ _ (call (.ref C) [v']) _ _ _
    have lim:=I1.nolimit
    have bk:=I1.bk
    have md:=I1.ok.mod
    obtain ⟨hp,g,dr,tk,os⟩:=s1
    refine wpAny_call (made_ok par T0 Bs ⟨md.kin,⟨_,md.glob⟩,md.blt,top⟩ bk lim (hr) fun h' tk' e d M=>?_)
    obtain ⟨t1,hoe⟩:=M.obj
    have hns:=M.ns
    obtain ⟨G,g1,g2⟩:=restrict h' fun b=>decide (b ≠ e)
    have gk:∀ b,b ≠ e→G.get? b=h'.get? b:=fun b hb=>g1 b (decide_eq_true hb)
    have ge:G.get? e=none:=g2 e (by simp)
    have old:∀ b o,hp.get? b=some o→G.get? b=some o:=fun b o q=>(gk b (Nat.ne_of_lt (Nat.lt_of_lt_of_le (Heap.lt_size q) M.new))).trans (M.keep b o q)
    have rel:∀ f,RelO (List.lookup f [(p,v)]) (if f=p then some v' else none):=relO_put (fs:=[]) rv fun _=>True.intro
    have ob:ObjOk X.prog X.w (upd H1 d (.xd [(p,v)])) G d (.xd [(p,v)]):=⟨_,hns.at (fun o q=>(gk d M.dne).trans q),rel⟩
    have J:Inv X pins σ (upd H1 d (.xd [(p,v)])) ⟨G,g,dr,tk',os⟩:=I1.laid (t':=tk') old M.dbig ob
    have ctx:L2N.Zn (.ref C) (some d) ({ cls := .ref C,dict:=some d,data := .fields #[.ref t1, .none, .none, .none, .bool false, .none] }:Obj):=⟨rfl,rfl,fun vs e=>by cases e; rfl⟩
    refine ⟨⟨e,_,_,⟨G,g,dr,tk',os⟩,_, .ref C,some d,rfl,J,fun b o q=>?_,ge,hoe,ctx,rfl,rfl,?_,rfl,I1.bare,raises_own T0.exC T0.tyC,q1 d (I1.hok.fresh M.dbig)⟩,fun a oe ws ea hg hd=>?_⟩
    · by_cases hb:b=e
      · have q':G.get? b=some o:=q
        rw [hb,ge] at q'; cases q'
      · exact (gk b hb).symm.trans q
    · rw [upd_ne (Ne.symm M.dne)]
      exact I1.hok.fresh M.new
    · cases ea
      have hg':h'.get? e=some oe:=hg
      rw [hoe] at hg'
      cases hg'
      cases hd
      simp
end
end Xe
namespace Xe
open PySem PySem.Spec PyProof.Rows L2
end Xe
namespace Bv
open PySem PySem.Spec L2
open PyProof.Rows hiding St
variable [HasW]
def Z0g (C p:Str) (ms:MG (List Bv.X)):MS:=fun e S=>(ms e S).so e fun xs S1=>match xs with
  | [.d v] => .err C [(p,v)] e S1
  | _ => .bad
section
variable {X:Cx} {Wx:WX} {k:Nat} {pos pos2 np:Pos} {a:Expr} {ms:MG (List Bv.X)} {C p x:Str} {fI:Addr}
theorem Z19 (hc:X.calm=true) (h:Here X Wx k) (T:Xe.ErrOk X.prog X.K (He.ga X.K C) fI p) (gC:X.mg x=some (.ref (He.ga X.K C))) (hg:Gl X x) (ha:MA X Wx [a] ms) (hk:1 ≤ k:=by decide) (hdb:(x == ("__debug__" : Str))=false:=by decide)
    (he:starEach (a :: []) X.env=(false,eval a X.env) :: starEach [] X.env:=by rfl) (hpl:(backTo pos (starEach [] X.env)).any (·.1)=false:=by rfl):MP X Wx (.Raise (some (.Call (.Name x np) [a] [] pos)) none pos2) (Z0g C p ms) :=
  PS.of (Xq.ps_raiseQ hc h.tk (Xe.pmk_sup T gC (by have:=h.room.dp; omega) ha hg hdb he hpl).pmk) fun D σ H ⟨Z,ρ,e,S,st,ev,q⟩ =>
    Z2n (rel:=AXs X.K) st ev q fun ρ1 H1 vs xs S1 s1 g1 ev1 a1 p1=>by
      match xs,vs,a1,p1 with
      | [.d v],[u], .cons (.d a) .nil,p1 =>
        refine ⟨u,rfl,fun d hd=>?_⟩
        have kp:=Z0f (o := .xd [(p,u)]) hd
        have mv:=(Go.grow (ρ:=ρ1) kp).mv s1
        exact p1 ρ1 _ σ (some d) (s1.grow kp) (Go.grow kp) (ev1.mv mv (List.prefix_refl _)) (.inr ⟨d,_,rfl,hd,s1.fresh hd,upd_same, .cons (a.mv mv) .nil⟩)
      | [],_,_,p1=>exact p1.elim
      | [.r _],_,_,p1=>exact p1.elim
      | .d _ :: _ :: _,_,_,p1=>exact p1.elim
      | .r _ :: _ :: _,_,_,p1=>exact p1.elim
end
structure Err0 (K:PySem.W.Frag) (C:Addr):Prop where
  ini:PySem.W.excIn K C [.type "ValueError", .type "Exception", .type "BaseException", .type "object"] "ValueError.__new__" = true
  kC:PySem.W.keepIn K (.ref C)=true
  exC:PySem.W.subIn K (.ref C) (.type "BaseException")=some true
  tyC:PySem.W.typeIn K (.ref C)=some (.type "type")
section
variable {X:Cx} {Wx:WX} {k:Nat} {pos pos2 np:Pos} {C x:Str}
end
end Bv
namespace Bv
open PySem PySem.Spec L2
open PyProof.Rows hiding St
variable [HasW]
theorem Y6s {H H1 H2:Hp} (a:Same H H1) (b:Same H1 H2):Same H H2:=fun c o q=>b c o (a c o q)
abbrev SX:=Str→List (Str × D)→Option D
abbrev SXs:=Str→List (Str × D)→Option (List D)
abbrev SXb:=Str→List (Str × D)→Option Bool
def Y4s (K:PySem.W.Frag) (W:Wd) (H:Hp) (fs:List (Str × D)) (d:Option Addr):Prop:=(d=none∧fs=[]) ∨ ∃ (dd:Addr) (vs:List (Str × V)),d=some dd∧H dd=some (.xd vs)∧AVf K W H fs vs
theorem Y4s.same {K:PySem.W.Frag} {W:Wd} {H H':Hp} {fs:List (Str × D)} {d:Option Addr} (h:Y4s K W H fs d) (k:Same H H'):Y4s K W H' fs d:=by
  rcases h with h | ⟨dd,vs,h1,h2,h3⟩
  · exact .inl h
  · exact .inr ⟨dd,vs,h1,k _ _ h2,h3.mv (Z3e k)⟩
structure SAt (lv:Ev) (K:PySem.W.Frag) (W:Wd) (i:Nat) (a:Addr) (fs:List (Str × D)) (d:Option Addr) (σ:L2.St) (H:Hp):Prop where
  there:∀ b,W b→∃ o,H b=some o
  slot:σ[i]?=some (some (.ref a))
  err:Y4s K W H fs d
  loc:∀ (j:Nat) (v:D),lv[j]?=some (some (.d v))→∃ u,σ[j]?=some (some u)∧AV K W H v u
theorem SAt.same {lv:Ev} {K:PySem.W.Frag} {W:Wd} {i:Nat} {a:Addr} {fs:List (Str × D)} {d:Option Addr} {σ:L2.St} {H H':Hp} (h:SAt lv K W i a fs d σ H) (k:Same H H'):SAt lv K W i a fs d σ H':=⟨fun b z=>let ⟨o,e⟩:=h.there b z; ⟨o,k _ _ e⟩,h.slot,h.err.same k,fun j v e=>let ⟨u,e1,av⟩:=h.loc j v e; ⟨u,e1,av.mv (Z3e k)⟩⟩
def tSE (lv:Ev) (K:PySem.W.Frag) (i:Nat) (a:Addr) (C:Str) (d:Option Addr) (m:SX):TE:=fun σ H Q=>∃ (W:Wd) (fs:List (Str × D)) (f:D),SAt lv K W i a fs d σ H∧m C fs=some f∧∀ H' v,Same H H'→AV K W H' f v→Q v H'
def tSA (lv:Ev) (K:PySem.W.Frag) (i:Nat) (a:Addr) (C:Str) (d:Option Addr) (m:SXs):TA:=fun σ H Q=>∃ (W:Wd) (fs:List (Str × D)) (f:List D),SAt lv K W i a fs d σ H∧m C fs=some f∧∀ H' v,Same H H'→AVs K W H' f v→Q v H'
abbrev InS (X:Cx) (C:Str) (oe:Obj) (d:Option Addr):Prop:=Zc (.ref (He.ga X.K C)) d oe∧∃ vs,oe.data = .fields vs
def SE (lv:Ev) (X:Cx) (i:Nat) (e:Expr) (m:SX):Prop:=∀ (a:Addr) (oe:Obj) (C:Str) (d:Option Addr) (pn:List (Addr × Obj)),InS X C oe d→PE (X.suite a ((a,oe) :: pn)) e (tSE lv X.K i a C d m)
def SA (lv:Ev) (X:Cx) (i:Nat) (e:List Expr) (m:SXs):Prop:=∀ (a:Addr) (oe:Obj) (C:Str) (d:Option Addr) (pn:List (Addr × Obj)),InS X C oe d→PA (X.suite a ((a,oe) :: pn)) e (tSA lv X.K i a C d m)
def x_c (v:D):SX:=fun _ _=>some v
def Y68 (cs:List Str) (f:Str):SX:=fun C fs=>if cs.contains C then fs.lookup f else none
def X0m:SXs:=fun _ _=>some []
def Y0u (m:SX) (ms:SXs):SXs:=fun C fs=>match m C fs,ms C fs with
  | some d,some l=>some (d :: l)
  | _,_=>none
def Y8h (ms:SXs):SX:=fun C fs=>(ms C fs).bind fun l=>if l.length ≤ sizeLine then some (.tup l) else none
def X3u (g:D→D→Option D) (m1 m2:SX):SX:=fun C fs=>match m1 C fs,m2 C fs with
  | some a,some b=>g a b
  | _,_=>none
section
variable {lv:Ev} {X:Cx} {i:Nat} {n x:Str} {np p pos tpos:Pos} {e e1 e2 c t:Expr} {es rest:List Expr} {m m1 m2:SX} {ms:SXs} {mb mc:SXb}
theorem PE.nev {X:Cx} {e:Expr} {t:TE} (h:∀ σ H Q,¬ t σ H Q):PE X e t:=⟨fun _ _ σ H Q _ q=>(h σ H Q q).elim⟩
theorem X3h {v:D} {u:V} (h:∀ a oe pn,PE (X.suite a ((a,oe) :: pn)) e (tC u)) (av:∀ W H,AV X.K W H v u):SE lv X i e (x_c v):=fun a oe C d pn _=>PE.of (h a oe pn) fun σ H Q ⟨W,fs,f,at_,hm,q⟩=>by
  cases hm
  exact q H _ Same.rfl' (av _ _)
theorem Y81 {z:Str} {j} (h:PyData.strOk z=true:=by decide +kernel):SE lv X i (.Constant (.str z) j pos) (x_c (.str z)):=X3h (fun _ _ _=>pe_str) fun _ _ => .str h
theorem X2e {z:Int} {j}:SE lv X i (.Constant (.int z) j pos) (x_c (.int z)):=X3h (fun _ _ _=>pe_int) fun _ _ => .int z
theorem Y80 {cs:List Str} {f:Str} (T:∀ C ∈ cs,XfC X.K (He.ga X.K C)∧PySem.W.findIn X.K (.ref (He.ga X.K C)) f=some none) (hN:X.N[i]?=some n:=by rfl) (hv:Vis X.env.scope n:=by first | exact Or.inl rfl | exact Or.inr (Or.inl rfl) | exact Or.inr (Or.inr rfl))
    (hd:(n == ("__debug__" : Str))=false:=by decide) (hcd:(n == ("__classdict__" : Str))=false:=by decide) (hb:attributeBase (.Name n np) f X.env (eval (.Name n np) X.env)=eval (.Name n np) X.env:=by rfl):SE lv X i (.Attribute (.Name n np) f pos) (Y68 cs f):=fun a oe C d pn hz=>by
  by_cases hC:cs.contains C=true
  · obtain ⟨T1,T2⟩:=T C (by simpa using hC)
    refine PE.of (pe_xf T1 T2 hz.1 hz.2 (pe_var (X:=X.suite a ((a,oe) :: pn)) hN hv hd hcd) hb) fun σ H Q ⟨W,fs,g,at_,hm,q⟩=>?_
    unfold Y68 at hm
    rw [if_pos hC] at hm
    rcases at_.err with ⟨_,rfl⟩ | ⟨dd,vs,rfl,e,af⟩
    · cases hm
    · obtain ⟨v,l,av⟩:=af.look hm
      exact ⟨.ref a,at_.slot,rfl,rfl,dd,vs,v,rfl,e,l,q H v Same.rfl' av⟩
  · refine PE.nev fun σ H Q ⟨W,fs,g,at_,hm,q⟩=>?_
    unfold Y68 at hm
    rw [if_neg hC] at hm
    cases hm
theorem Y8z:SA lv X i [] X0m:=fun a oe C d pn _=>⟨fun pos pins s σ H Q I ⟨W,fs,f,at_,hm,q⟩=>pa_nil.run pos pins s σ H Q I (by
  cases hm
  exact q H [] Same.rfl' .nil)⟩
theorem Y1h (h:SE lv X i e m) (h2:SA lv X i es ms) (hs:starEach (e :: es) X.env=(false,eval e X.env) :: starEach es X.env:=by rfl):SA lv X i (e :: es) (Y0u m ms):=fun a oe C d pn hz=>PA.of (pa_cons (h a oe C d pn hz) (h2 a oe C d pn hz) hs) fun σ H Q ⟨W,fs,f,at_,hm,q⟩=>by
  unfold Y0u at hm
  cases z1:m C fs with
  | none=>rw [z1] at hm; cases hm
  | some g =>
    cases z2:ms C fs with
    | none=>rw [z1,z2] at hm; cases hm
    | some l =>
      rw [z1,z2] at hm
      cases hm
      exact ⟨W,fs,g,at_,z1,fun H1 v k a1=>⟨W,fs,l,at_.same k,z2,fun H2 vs k2 a2=>q H2 _ (Y6s k k2) (.cons (a1.mv (Z3e k2)) a2)⟩⟩
theorem Y82 {x1} (h:SA lv X i es ms):SE lv X i (.Tuple es x1 pos) (Y8h ms):=fun a oe C d pn hz=>PE.of (pe_tup (h a oe C d pn hz)) fun σ H Q ⟨W,fs,f,at_,hm,q⟩=>by
  unfold Y8h at hm
  cases z:ms C fs with
  | none=>rw [z] at hm; cases hm
  | some l =>
    rw [z] at hm
    have hm:(if l.length ≤ sizeLine then some (D.tup l) else none)=some f:=hm
    by_cases hl:l.length ≤ sizeLine
    · rw [if_pos hl] at hm
      cases hm
      refine ⟨W,fs,l,at_,z,fun H1 vs k av=>⟨by rw [← av.length]; exact hl,fun r hr=>?_⟩⟩
      exact q _ _ (Y6s k fun b o z=>Z0f hr b o z) (Z76 (fun b hb=>(at_.same k).there b hb) hr av)
    · rw [if_neg hl] at hm; cases hm
theorem X3i {op:Operator} {r:R2} {g:D→D→Option D} (ho:∀ a oe pn,OpR (X.suite a ((a,oe) :: pn)) (binaryOp op) r) (hf:Op2 X.K r g) (h1:SE lv X i e1 m1) (h2:SE lv X i e2 m2):SE lv X i (.BinOp e1 op e2 pos) (X3u g m1 m2):=fun a oe C d pn hz =>
  PE.of (pe_op (ho a oe pn) (h1 a oe C d pn hz) (h2 a oe C d pn hz)) fun σ H Q ⟨W,fs,f,at_,hm,q⟩=>by
    unfold X3u at hm
    cases z1:m1 C fs with
    | none=>rw [z1] at hm; cases hm
    | some d1 =>
      cases z2:m2 C fs with
      | none=>rw [z1,z2] at hm; cases hm
      | some d2 =>
        rw [z1,z2] at hm
        have hm:g d1 d2=some f:=hm
        exact ⟨W,fs,d1,at_,z1,fun H1 v k a1=>⟨W,fs,d2,at_.same k,z2,fun H2 u k2 a2=>hf W H2 d1 d2 v u f _ (fun b hb=>(at_.same (Y6s k k2)).there b hb) (.av (a1.mv (Z3e k2))) (.av a2) hm fun H3 y k3 a3=>q H3 y (Y6s (Y6s k k2) k3) a3⟩⟩
end
end Bv
namespace Bv
open PySem PySem.Spec L2
open PyProof.Rows hiding St
variable [HasW]
theorem EvOk.unset {K:PySem.W.Frag} {W:Wd} {ρ:List Addr} {H:Hp} {e:Ev} {σ:L2.St} {i:Nat} (h:EvOk K W ρ H e σ):EvOk K W ρ H (e.set i none) (σ.set i none):=by
  refine ⟨by rw [List.length_set,List.length_set]; exact h.len,fun j x q=>?_⟩
  by_cases hj:i=j
  · subst hj
    have hl:i < e.length:=by
      have:=(List.getElem?_eq_some_iff.mp q).1
      rwa [List.length_set] at this
    rw [List.getElem?_set_self hl] at q
    cases q
  · rw [List.getElem?_set_ne hj] at q
    obtain ⟨u,h1,h2⟩:=h.at_ j x q
    exact ⟨u,by rw [List.getElem?_set_ne hj]; exact h1,h2⟩
theorem EvOk.away {K:PySem.W.Frag} {W:Wd} {ρ:List Addr} {H:Hp} {e:Ev} {σ:L2.St} {i j:Nat} {v u:V} {x:X} (hij:i ≠ j) (h:EvOk K W ρ H e σ) (a:AX K W ρ H x v):EvOk K W ρ H ((e.set j (some x)).set i none) (((σ.set i (some u)).set j (some v)).set i none):=by
  rw [List.set_comm _ _ hij,List.set_set]
  exact (h.set a).unset
def Y2w (K:PySem.W.Frag) (c:Value) (tab:List (Str × Bool)):Prop:=∀ C b,tab.lookup C=some b→PySem.W.exmOne K (.ref (He.ga K C)) c=some b
section
variable {X:Cx} {Wx:WX} {k i j:Nat} {n y x:Str} {c:Value} {body:List Stmt} {np yp apos pos pos':Pos} {ex:Expr} {mb:MS} {m:SX} {tab:List (Str × Bool)}
theorem Here.tr (h:Here X Wx k) {W:WX} {pn:List (Addr × Obj)} {xe:Value→Shared→Prop} (tk:Xq.Tk (X.tr pn xe) W):Here (X.tr pn xe) W k:=⟨tk,h.gu,h.room⟩
end
end Bv
namespace Bv
open PySem PySem.Spec L2
open PyProof.Rows hiding St
structure ErrB where
  cls:Str
  qual:Str
  par:Str
  st:Stmt
abbrev Y4x (C:Str) (K:PySem.W.Frag):Addr:=He.ma K (He.ga K C) "__init__"
def Y47 (K:PySem.W.Frag) (d:ErrB):He.FnW:=match K.lookup (Y4x d.cls K) with
  | some ⟨_,_, .func fd,_⟩=>some (fd.name,fd.qualname,fd.params,fd.body,fd.scope,fd.globals,[],fd.builtins)
  | _=>none
def ErrB.val (d:ErrB):He.FnW:=some ("__init__",d.qual,defArgs d.st, .stmts (defBody d.st),defScope d.st,mainGlobals,[],builtinsNs)
def X31 (ts:List (PySem.W.Frag→Bool)) (ds:List DefB) (xs:List ErrB) (K:PySem.W.Frag):AlB:=((ts.all fun t=>t K) && ds.all fun d=>d.ok K,(ds.map fun d=>seen K (d.ad K))++xs.map (Y47 K))
def X34 (ds:List DefB) (xs:List ErrB):AlB:=(true,ds.map DefB.val++xs.map ErrB.val)
def Y4t (ts:List (PySem.W.Frag→Bool)) (ds:List DefB) (xs:List ErrB) (K:PySem.W.Frag):Prop:=X31 ts ds xs K=X34 ds xs
def Y96 (n:Nat) (ts:List (PySem.W.Frag→Bool)) (ds:List DefB) (xs:List ErrB) (g:Addr→Option Obj):AlB:=X31 ts ds xs (He.frG g (He.asD g n++[cStatics]))
def X1e (n:Nat) (ts:List (PySem.W.Frag→Bool)) (ds:List DefB) (xs:List ErrB):PySem.W.Hook where
  α:=AlB
  obs:=fun s=>Y96 n ts ds xs s.heap.get?
  val:=fun _=>X34 ds xs
  says:=fun _ h=>∃ K:PySem.W.Frag,K.In h∧Y4t ts ds xs K
  of:=fun _ _ e=>⟨_,He.frG_in,e⟩
  keeps:=fun _ _ _ ⟨K,i,c⟩ k=>⟨K,PySem.W.Frag.In.keeps i k,c⟩
theorem Y7z {n:Nat} {ts:List (PySem.W.Frag→Bool)} {ds:List DefB} {xs:List ErrB} {g:Addr→Option Obj} {s:Shared} (h:∀ a,g a=s.heap.get? a):Y96 n ts ds xs g=(X1e n ts ds xs).obs s:=by
  rw [show g=s.heap.get? from funext h]
  rfl
section
variable {ts:List (PySem.W.Frag→Bool)} {ds:List DefB} {xs:List ErrB} {K:PySem.W.Frag}
theorem Y4t.toB (c:Y4t ts ds xs K):Y0v ts ds K:=by
  have e1:=congrArg (fun z:AlB=>z.1) c
  have e2:(ds.map fun d=>seen K (d.ad K))++xs.map (Y47 K)=ds.map DefB.val++xs.map ErrB.val:=congrArg (fun z:AlB=>z.2) c
  have e3:=(List.append_inj e2 (by rw [List.length_map,List.length_map])).1
  unfold Y0v X30 X33
  rw [e3]
  exact congrArg (fun b=>(b,ds.map DefB.val)) (show ((ts.all fun t=>t K) && ds.all fun d=>d.ok K)=true from e1)
theorem Y4t.seen (c:Y4t ts ds xs K) (i:Nat) {d:ErrB} (h:xs[i]?=some d:=by rfl):Y47 K d=d.val:=by
  have e2:(ds.map fun d=>Bv.seen K (d.ad K))++xs.map (Y47 K)=ds.map DefB.val++xs.map ErrB.val:=congrArg (fun z:AlB=>z.2) c
  have e3:=(List.append_inj e2 (by rw [List.length_map,List.length_map])).2
  have e4:=congrArg (fun l=>l[i]?) e3
  simp only [List.getElem?_map,h,Option.map_some,Option.some.injEq] at e4
  exact e4
end
def X2s (st:Stmt) (p:Str):Prop:=∃ a1 a2 p0 p1 p2 p3 p4 p5 q1 q2 q3 q4:Pos,defArgs st=Xe.eArgs p a1 a2∧defBody st=Xe.eBody p p0 p1 p2 p3 p4 p5 q1 q2 q3 q4∧defScope st=Xe.eSc p∧Xe.EHe p p0 p1 p2 p3 p4
inductive EB where
  | ve | ie | ke
def Y00:EB→List Value
  | .ve=>[.type "ValueError", .type "Exception", .type "BaseException", .type "object"]
  | .ie=>[.type "IndexError", .type "LookupError", .type "Exception", .type "BaseException", .type "object"]
  | .ke=>[.type "KeyError", .type "LookupError", .type "Exception", .type "BaseException", .type "object"]
def baseOf:EB→String
  | .ve => "ValueError"
  | .ie => "IndexError"
  | .ke => "KeyError"
def newOf:EB→String
  | .ve => "ValueError.__new__"
  | .ie => "IndexError.__new__"
  | .ke => "LookupError.__new__"
def X1g:EB→String
  | .ve => "ValueError.__init__"
  | .ie => "IndexError.__init__"
  | .ke => "KeyError.__init__"
theorem Y9i (b:EB):Xe.EBase (baseOf b) (newOf b) (X1g b) (Y00 b):=by
  cases b with
  | ve=>exact Xe.base_VE
  | ie=>exact Xe.base_IE
  | ke=>exact Xe.base_KE
def Y4m (C p:Str) (b:EB) (K:PySem.W.Frag):Bool :=
  PySem.W.excInitIn K (He.ga K C) (Y00 b) (newOf b) && (PySem.W.excOver K (He.ga K C) (Y00 b) && (PySem.W.hasDictIn K (He.ga K C) && (He.eqO (PySem.W.findIn K (.ref (He.ga K C)) "__setattr__") (some (some (.builtin "object.__setattr__"))) &&
  (He.eqO (PySem.W.findIn K (.ref (He.ga K C)) p) (some none) && (He.eqO (PySem.W.findIn K (.ref (He.ga K C)) "__init__") (some (some (.ref (Y4x C K)))) && (decide (PySem.W.typeIn K (.ref (Y4x C K))=some (.type "function")) && PySem.W.keepIn K (.ref (He.ga K C))))))))
def Y4n (C:Str) (b:EB) (K:PySem.W.Frag):Bool :=
  decide (PySem.W.subIn K (.ref (He.ga K C)) (.type "BaseException")=some true) && (decide (PySem.W.subIn K (.ref (He.ga K C)) (.type (baseOf b))=some true) && (decide (PySem.W.typeIn K (.ref (He.ga K C))=some (.type "type")) &&
  (He.eqO (PySem.W.nsIn K cStatics "thirdparty.any") (some none) && (He.eqO (PySem.W.ks_superIn K (He.ga K C) (He.ga K C) "__init__") (some (some (.builtin (X1g b)))) &&
  (decide (PySem.W.mroIn K (He.ga K C) (.ref (He.ga K C))=some true) && He.eqO (PySem.W.nsIn K mainGlobals "super") (some none))))))
def Y2s (C qual file:Str) (K:PySem.W.Frag):Bool:=match K.lookup (Y4x C K) with
  | some ⟨_,_, .func fd,_⟩=>(match fd.closure,fd.code with
    | [(x,cc)], .ref cda=>decide (x = "__class__") && (decide (fd.defaults = .none) && (decide (fd.kwdefaults = .none) && (PySem.W.codeIn K (.ref cda) qual && ((match K.lookup cda with
      | some ⟨_,_, .fields vs,_⟩=>(match vs.toList[2]? with
        | some (Value.str f _)=>decide (file=f)
        | _=>false)
      | _=>false) && (match K.lookup cc with
      | some ⟨_,_, .cell (some (.ref D)),_⟩=>decide (D=He.ga K C)
      | _=>false)))))
    | _,_=>false)
  | _=>false
theorem Y5s {P:Program} {K:PySem.W.Frag} {d:ErrB} {b:EB} {file:Str} (S:X2s d.st d.par) (hp:Xe.ParN d.par) (hs:Y47 K d=d.val) (c1:Y4m d.cls d.par b K=true) (c2:Y4n d.cls b K=true) (c3:Y2s d.cls d.qual file K=true) (hf:P.main.file=file) (ht:(P.main.scope.names.lookup ("super" : Str)).isSome=false) :
    Xe.ErrOk P K (He.ga K d.cls) (Y4x d.cls K) d.par:=by
  obtain ⟨e1,h⟩:=He.ba c1
  obtain ⟨e2,h⟩:=He.ba h
  obtain ⟨e3,h⟩:=He.ba h
  obtain ⟨e4,h⟩:=He.ba h
  obtain ⟨e5,h⟩:=He.ba h
  obtain ⟨e6,h⟩:=He.ba h
  obtain ⟨e7,e8⟩:=He.ba h
  obtain ⟨f1,h⟩:=He.ba c2
  obtain ⟨f2,h⟩:=He.ba h
  obtain ⟨f3,h⟩:=He.ba h
  obtain ⟨f4,h⟩:=He.ba h
  obtain ⟨f5,h⟩:=He.ba h
  obtain ⟨f6,f7⟩:=He.ba h
  obtain ⟨a1,a2,p0,p1,p2,p3,p4,p5,q1,q2,q3,q4,s1,s2,s3,s4⟩:=S
  refine ⟨⟨_,_,_,_,⟨e1,e2,e3,He.eqO_ok e4,He.eqO_ok e5,He.eqO_ok e6,of_decide_eq_true e7,e8,of_decide_eq_true f1,of_decide_eq_true f2,of_decide_eq_true f3,He.eqO_ok f4,He.eqO_ok f5,of_decide_eq_true f6,He.eqO_ok f7,?_⟩,Y9i b⟩,hp,ht⟩
  unfold Y47 ErrB.val at hs
  unfold Y2s at c3
  cases q:K.lookup (Y4x d.cls K) with
  | none=>rw [q] at c3; cases c3
  | some o =>
    obtain ⟨oc,od,dt,osl⟩:=o
    rw [q] at c3 hs
    cases dt with
    | func fd =>
      obtain ⟨m1,m2,m3,m4,m5,m6,m7,m8,m9,m10,m11,m12,m13,m14,m15⟩:=fd
      have hs:(some (m1,m2,m3,m4,m5,m6,[],m15):He.FnW)=some (("__init__" : Str),d.qual,defArgs d.st,FuncBody.stmts (defBody d.st),defScope d.st,mainGlobals,[],builtinsNs):=hs
      simp only [Option.some.injEq,Prod.mk.injEq] at hs
      obtain ⟨rfl,rfl,rfl,rfl,rfl,rfl,-,rfl⟩:=hs
      dsimp only at c3
      split at c3
      · rename_i x cc cda
        obtain ⟨g1,h⟩:=He.ba c3
        obtain ⟨g2,h⟩:=He.ba h
        obtain ⟨g3,h⟩:=He.ba h
        obtain ⟨g4,h⟩:=He.ba h
        obtain ⟨g5,g6⟩:=He.ba h
        obtain rfl:=of_decide_eq_true g1
        have z2:=of_decide_eq_true g2
        have z3:=of_decide_eq_true g3
        subst z2 z3
        refine ⟨oc,od,m10,m11,m12,cda,cc,m14,osl,d.qual,a1,a2,p0,p1,p2,p3,p4,p5,q1,q2,q3,q4,?_,g4,s4,?_,?_⟩
        · rw [s1,s2,s3]
        · cases w:K.lookup cda with
          | none=>rw [w] at g5; cases g5
          | some o2 =>
            obtain ⟨c2,d2,t2,l2⟩:=o2
            rw [w] at g5
            cases t2 with
            | fields vs =>
              dsimp only at g5
              split at g5
              · rename_i f tf hv
                exact ⟨c2,d2,vs,l2,f,tf,rfl,by rw [← Array.getElem?_toList]; exact hv,by rw [hf,of_decide_eq_true g5]; exact beq_self_eq_true _⟩
              · cases g5
            | _=>cases g5
        · cases w:K.lookup cc with
          | none=>rw [w] at g6; cases g6
          | some o2 =>
            obtain ⟨c2,d2,t2,l2⟩:=o2
            rw [w] at g6
            split at g6
            · rename_i e
              cases e
              rw [of_decide_eq_true g6]
              exact ⟨_,_,_,rfl⟩
            · cases g6
      · cases c3
    | _=>cases c3
def Y1o (C:Str) (tab:List (Str × Bool)) (K:PySem.W.Frag):Bool:=tab.all fun p=>decide (PySem.W.exmOne K (.ref (He.ga K p.1)) (.ref (He.ga K C))=some p.2)
theorem Y01 {C:Str} {tab:List (Str × Bool)} {K:PySem.W.Frag} (h:Y1o C tab K=true):Y2w K (.ref (He.ga K C)) tab:=fun D b q=>of_decide_eq_true (List.all_eq_true.mp h (D,b) (PySem.mem_of_lookup q))
def X3q (cs:List Str) (f:Str) (K:PySem.W.Frag):Bool:=cs.all fun C=>xfB K (He.ga K C) && He.eqO (PySem.W.findIn K (.ref (He.ga K C)) f) (some none)
theorem X2q {cs:List Str} {f:Str} {K:PySem.W.Frag} (h:X3q cs f K=true):∀ C ∈ cs,XfC K (He.ga K C)∧PySem.W.findIn K (.ref (He.ga K C)) f=some none:=fun C m=>by
  obtain ⟨c1,c2⟩:=He.ba (List.all_eq_true.mp h C m)
  exact ⟨xfB_ok c1,He.eqO_ok c2⟩
end Bv
namespace Bv
open PySem PySem.Spec L2
open PyProof.Rows hiding St
structure OwnSp (K:PySem.W.Frag) (C:Str) (m:Str) (f:Addr):Prop where
  at_:PySem.W.findIn K (.ref (He.ga K C)) m=some (some (.ref f))
  fn:PySem.W.isFn K (.ref f)=true
  fi:PySem.W.fnIn K f=true
variable [HasW]
section
variable {X:Cx} {Wx:WX} {pos p:Pos} {a b e:Expr} {es:List Expr} {ma mb:M} {ms:MG (List Bv.X)} {k j:Nat} {f:Addr} {fd:FuncData} {ps:List Str} {g:List D→PR} {C:Str}
end
end Bv
namespace Bv
open PySem PySem.Spec L2
open PyProof.Rows hiding St
variable [HasW]
section
variable {X:Cx} {Wx:WX} {k j:Nat} {f:Addr} {fd:FuncData} {ps:List Str} {g:List D→PR} {C:Str}
end
section
variable {X:Cx}
end
def X38 (a:D) (y:Bool):Bool:=match a with
  | .bl x=>decide (x=y)
  | _=>false
def isA (neg:Bool) (a b:D):Option D:=match b with
  | .bl y=>some (.bl (X38 a y ^^ neg))
  | _=>none
section
variable {X:Cx} {Wx:WX} {k:Nat}
end
end Bv
namespace PySem
open Sem (wp)
open AutoSeq1 (wpAny_loadPart')
open MeetsSeq MeetsSeq2 MeetsSeq3 SeqRoads2
namespace BvLs
section
variable {prog:Program} {w:World} {A:Around} {R:Result→Shared→Prop}
variable {E:Value→Shared→Prop} {s:Shared}
end
end BvLs
end PySem
namespace Bv
open PySem PySem.Spec L2
open PyProof.Rows hiding St
variable [HasW]
section
variable {X:Cx} {k:Nat} {f:Addr} {fd:FuncData} {ps:List Str} {g:List D→PR} {C:Str}
end
section
variable {X:Cx} {Wx:WX} {k j:Nat} {C:Str} {g:List D→PR}
end
end Bv
namespace Bv
open PySem PySem.Spec L2
open PyProof.Rows hiding St
def X3p (tab:List (Str × Bool)) (K:PySem.W.Frag):Bool:=tab.all fun q=>decide (PySem.W.subIn K (.ref (He.ga K q.1)) (.type "BaseException")=some true) && decide (PySem.W.typeIn K (.ref (He.ga K q.1))=some (.type "type"))
def X0t (K:PySem.W.Frag) (tab:List (Str × Bool)):Prop:=∀ C,tab.lookup C=some true→PySem.W.subIn K (.ref (He.ga K C)) (.type "BaseException")=some true∧PySem.W.typeIn K (.ref (He.ga K C))=some (.type "type")
theorem X2b {tab:List (Str × Bool)} {K:PySem.W.Frag} (h:X3p tab K=true):X0t K tab:=fun C q=>by
  obtain ⟨c1,c2⟩:=He.ba (List.all_eq_true.mp h (C,true) (PySem.mem_of_lookup q))
  exact ⟨of_decide_eq_true c1,of_decide_eq_true c2⟩
theorem X0t.at {X:Cx} {tab:List (Str × Bool)} (h:X0t X.K tab):∀ C,tab.lookup C=some true→Raises X (.ref (He.ga X.K C)):=fun C q=>raises_own (h C q).1 (h C q).2
variable [HasW]
def X0n (lv:Ev) (j:Nat):SX:=fun _ _=>match lv[j]? with
  | some (some (.d v))=>some v
  | _=>none
def X0l (m:SX):SX:=fun C fs=>match m C fs with
  | some (.tup ds)=>some (.int ds.length)
  | _=>none
section
variable {lv:Ev} {X:Cx} {i j:Nat} {n x:Str} {np p pos:Pos} {e:Expr} {m:SX}
theorem X2g {y:Str} (hN:X.N[j]?=some y:=by rfl) (hv:Vis X.env.scope y:=by first | exact Or.inl rfl | exact Or.inr (Or.inl rfl) | exact Or.inr (Or.inr rfl)) (hd:(y == ("__debug__" : Str))=false:=by decide) (hcd:(y == ("__classdict__" : Str))=false:=by decide):SE lv X i (.Name y np) (X0n lv j):=fun a oe C d pn hz =>
  PE.of (pe_var (X:=X.suite a ((a,oe) :: pn)) hN hv hd hcd) fun σ H Q ⟨W,fs,f,at_,hm,q⟩=>by
    unfold X0n at hm
    split at hm
    · rename_i v hl
      cases hm
      obtain ⟨u,e1,av⟩:=at_.loc j f hl
      exact ⟨u,e1,q H u Same.rfl' av⟩
    · cases hm
theorem X2f (hg:Gl X "len") (hm:X.mg "len" = none) (h:SE lv X i e m) (hs:starEach [e] X.env=(false,eval e X.env) :: starEach [] X.env:=by rfl) (hpl:(backTo pos (starEach [] X.env)).any (·.1)=false:=by rfl):SE lv X i (.Call (.Name "len" p) [e] [] pos) (X0l m):=fun a oe C d pn hz =>
  PE.of (pe_callB (X:=X.suite a ((a,oe) :: pn)) Z25 hg hm (by rfl) (pa_cons (h a oe C d pn hz) pa_nil hs) (by decide) (by decide) hs hpl) fun σ H Q ⟨W,fs,f,at_,hm,q⟩=>by
    unfold X0l at hm
    cases z:m C fs with
    | none=>rw [z] at hm; cases hm
    | some g =>
      rw [z] at hm
      cases g with
      | tup ds =>
        cases hm
        refine ⟨W,fs,_,at_,z,fun H1 v k av=>?_⟩
        cases av with
        | tup r hs=>exact .inl (.inl ⟨_,_,rfl, .inr r.sq,by rw [← hs.length]; exact q H1 _ k (.int _)⟩)
      | _=>cases hm
theorem X0a {y:Str} {vs:List Str} (hg:Gl X y) (h:X.mg y=some (.ref (He.ga X.K y))) (hv:Z9w y vs X.K=true) (hz:(vs.all fun z=>PyData.strOk z)=true:=by decide +kernel) (hd:(y == ("__debug__" : Str))=false:=by decide):SE lv X i (.Name y np) (x_c (.tup (vs.map D.str))):=by
  obtain ⟨u,av,r⟩:=Y8k hv hz
  exact X3h (fun a oe pn=>pe_glob (X:=X.suite a ((a,oe) :: pn)) hg h r hd) av
end
def Z7m (tab:List (Str × Bool)) (mb:MS) (i:Nat) (C2 p:Str) (m:Ev→SX):MS:=fun e S=>match mb e S with
  | .err C fs e1 S1=>(match tab.lookup C with
    | some true=>(match m (e1.set i none) C fs with
      | some f=>if i < e1.length then .err C2 [(p,f)] (e1.set i none) S1 else .bad
      | none => .bad)
    | some false => .err C fs e1 S1
    | none => .bad)
  | r=>r
section
variable {X:Cx} {Wx:WX} {k i:Nat} {n x y:Str} {c:Value} {body:List Stmt} {np np2 yp rpos pos pos2 pos3:Pos} {ex:Expr} {mb:MS} {m:Ev→SX} {tab:List (Str × Bool)} {C2 p:Str} {fI:Addr}
theorem Y6d (h:Here X Wx k) (hs:X.stack=X.env :: X.outer) (hf:X.env.frame=some X.env.locals) (hN:X.N.Nodup) (hi:X.N[i]?=some n) (hln:X.env.kindOf n=some .local) (hc:Names X x c) (ht:Y2w X.K c tab) (hrs:∀ C,tab.lookup C=some true→Raises X (.ref (He.ga X.K C)))
    (hpa:∀ hd:Option Value,PassesOwnAt (model X.prog X.w) (X.A.mark hd) X.A X.env X.xe) (hb:∀ (W:WX) (pn:List (Addr × Obj)) (xe:Value→Shared→Prop),Here (X.tr pn xe) W k→MPs (X.tr pn xe) W body mb)
    (T:Xe.ErrOk X.prog X.K (He.ga X.K C2) fI p) (gC:X.mg y=some (.ref (He.ga X.K C2))) (hg:Gl X y) (hse:∀ lv,SE lv X i ex (m lv)) (hk:1 ≤ k:=by decide) (hdn:(n == ("__debug__" : Str))=false:=by decide) (hdb:(y == ("__debug__" : Str))=false:=by decide)
    (he:starEach (ex :: []) X.env=(false,eval ex X.env) :: starEach [] X.env:=by rfl) (hpl:(backTo rpos (starEach [] X.env)).any (·.1)=false:=by rfl) :
    MP X Wx (.Try body [.ExceptHandler (some (.Name x np)) (some n) [.Raise (some (.Call (.Name y yp) [ex] [] rpos)) (some (.Name n np2)) pos2] pos3] [] [] pos) (Z7m tab mb i C2 p m):=by
  let ts:Addr→Value→Option Addr→TS:=fun a cls d D σ H=>∃ (C:Str) (lv:Ev),cls = .ref (He.ga X.K C)∧Raises X cls∧σ[i]?=some (some (.ref a))∧Xe.tMkS (He.ga X.K C2) p (tCons (tSE lv X.K i a C d (m lv)) tNil) σ H fun cls' d' H'=>Wx cls' d' (σ.set i none) H'
  have hsu:∀ (a:Addr) (oe:Obj) (cls:Value) (d:Option Addr) (pn:List (Addr × Obj)) (xe:Value→Shared→Prop),Zc cls d oe→(∃ vs,oe.data = .fields vs)→Xq.Hot (Xq.suiteQ X a ((a,oe) :: pn) xe) a cls →
      Xq.Tk (Xq.suiteQ X a ((a,oe) :: pn) xe) (fun cls d σ H=>Wx cls d (σ.set i none) H)→PSs (Xq.suiteQ X a ((a,oe) :: pn) xe) [.Raise (some (.Call (.Name y yp) [ex] [] rpos)) (some (.Name n np2)) pos2] (ts a cls d):=fun a oe cls d pn xe hz hd hot tkS =>
    ⟨fun pins s σ H D I ⟨C,lv,ec,rz,hi2,q⟩=>by
      subst ec
      have hr:(Xq.suiteQ X a ((a,oe) :: pn) xe).A.depth + 1 < recursionLimit:=by have:=h.room.dp; show X.A.depth + 1 < _; omega
      have pa:PA (Xq.suiteQ X a ((a,oe) :: pn) xe) [ex] (tCons (tSE lv X.K i a C d (m lv)) tNil):=Xq.pa_suiteQ (pa_cons (X:=X.suite a ((a,oe) :: pn)) (hse lv a oe C d pn ⟨hz,hd⟩) pa_nil he)
      have mk:=Xe.pmk_sup (X:=Xq.suiteQ X a ((a,oe) :: pn) xe) (np:=yp) (pos:=rpos) T gC hr pa hg hdb he hpl
      exact (pss_one (Xq.ps_raiseQF (X:=Xq.suiteQ X a ((a,oe) :: pn) xe) hot rz tkS mk hi hln hdn)).run pins s σ H D I ⟨hi2,q⟩⟩
  refine PS.of (Xq.ps_try_asQ (tb:=fun W=>RS X.K W mb) hs hf hN hi hln hc hpa h.tk (fun W pn xe tk po=>hb W pn xe (h.tr tk)) hsu) fun D σ H ⟨Z,ρ,e,S,st,ev,q0⟩=>?_
  refine ⟨Z,ρ,e,S,st,ev,?_⟩
  unfold Z7m at q0
  cases q:mb e S with
  | bad=>rw [q] at q0; exact q0
  | go o S'=>rw [q] at q0; cases o <;> exact q0
  | err C fs e1 S1 =>
    rw [q] at q0
    intro ρ' H' σ' d s1 g1 ev1 er
    have q0:Z22 X.K Z ρ H Wx D (match tab.lookup C with
      | some true=>(match m (e1.set i none) C fs with
        | some f=>if i < e1.length then .err C2 [(p,f)] (e1.set i none) S1 else .bad
        | none => .bad)
      | some false => .err C fs e1 S1
      | none => .bad):=q0
    cases z:tab.lookup C with
    | none=>rw [z] at q0; exact q0.elim
    | some b =>
      rw [z] at q0
      refine ⟨b,ht C b z,fun hb1 a na=>?_,fun hb1=>?_⟩
      · subst hb1
        have q0:Z22 X.K Z ρ H Wx D (match m (e1.set i none) C fs with
          | some f=>if i < e1.length then .err C2 [(p,f)] (e1.set i none) S1 else .bad
          | none => .bad):=q0
        cases w:m (e1.set i none) C fs with
        | none=>rw [w] at q0; exact q0.elim
        | some f =>
          rw [w] at q0
          have q0:Z22 X.K Z ρ H Wx D (if i < e1.length then .err C2 [(p,f)] (e1.set i none) S1 else .bad):=q0
          by_cases il0:i < e1.length
          case neg=>rw [if_neg il0] at q0; exact q0.elim
          rw [if_pos il0] at q0
          have il:i < σ'.length:=by rw [← ev1.len]; exact il0
          have er2:Y4s X.K (Wn Z ρ') H' fs d:=by
            rcases er with er | ⟨dd,vs,h1,_,_,h4,h5⟩
            · exact .inl er
            · exact .inr ⟨dd,vs,h1,h4,h5⟩
          have loc:∀ (j:Nat) (v:Bv.D),(e1.set i none)[j]?=some (some (.d v))→∃ u,(σ'.set i (some (.ref a)))[j]?=some (some u)∧AV X.K (Wn Z ρ') H' v u:=fun j v e=>by
            by_cases hj:i=j
            · subst hj
              rw [List.getElem?_set_self il0] at e
              cases e
            · rw [List.getElem?_set_ne hj] at e ⊢
              obtain ⟨u,e2,av⟩:=ev1.at_ j _ e
              cases av with
              | d av=>exact ⟨u,e2,av⟩
          refine ⟨C,e1.set i none,rfl,hrs C z,by rw [List.getElem?_set_self il],Wn Z ρ',fs,f,⟨fun b hb=>s1.thereW hb,by rw [List.getElem?_set_self il],er2,loc⟩,w,fun H2 v k2 av=>⟨v,rfl,fun dd hd=>?_⟩⟩
          have s2:=s1.grow k2
          have g2:=g1.trans (Go.grow k2)
          have kp:=Z0f (o := .xd [(p,v)]) hd
          have mv:=(Go.grow (ρ:=ρ') kp).mv s2
          have hn:H dd=none:=by
            cases y:H dd with
            | none=>rfl
            | some o =>
              obtain ⟨u,y2⟩:=Y1p g2 s2 dd o y
              rw [hd] at y2; cases y2
          rw [List.set_set]
          exact q0 ρ' _ _ (some dd) (s2.grow kp) (g2.trans (Go.grow kp)) (((ev1.unset).mv (Z3e k2) (List.prefix_refl _)).mv mv (List.prefix_refl _)) (.inr ⟨dd,_,rfl,hn,s2.fresh hd,upd_same, .cons (av.mv mv) .nil⟩)
      · subst hb1
        exact q0 ρ' H' σ' d s1 g1 ev1 er
end
end Bv
namespace Bv
open PySem PySem.Spec L2
open PyProof.Rows hiding St
section
open PySem.W PySem.Calls
end
end Bv
namespace Bv
open PySem PySem.Spec L2
open PyProof.Rows hiding St
end Bv
set_option maxHeartbeats 0
namespace Lw
open PySem PySem.Spec L2 Bv
open PyProof.Rows hiding St
def top (i:Nat):Stmt:=PySem.Challenge.pw_wordingkept_k09_texts_of_no_tool.main.body.getD i (.Pass ⟨0,0,0,0⟩)
abbrev Z10:Stmt:=top 27
abbrev Z0m:Stmt:=top 34
abbrev Q1:Stmt:=top 35
abbrev Z05:Stmt:=top 28
abbrev Z1j:Stmt:=top 30
abbrev Z1i:Stmt:=top 31
abbrev Z07:Stmt:=top 29
abbrev Z2d:Stmt:=top 32
abbrev Z08:Stmt:=top 33
abbrev Z2j:Stmt:=top 14
abbrev Z14:Stmt:=top 24
abbrev Z21:Stmt:=top 17
abbrev Z2a:Stmt:=inClass (top 20) 0
abbrev Z2b:Stmt:=inClass (top 20) 1
abbrev Z09:Stmt:=top 15
abbrev Z1m:Stmt:=top 16
abbrev Z1l:Stmt:=top 23
abbrev U8:Stmt:=inClass (top 25) 0
abbrev Z1z:Stmt:=inClass (top 25) 1
abbrev Z20:Stmt:=inClass (top 20) 5
abbrev Z1t:Stmt:=inClass (top 25) 10
abbrev Z1h:Stmt:=top 40
abbrev Z1k:Stmt:=top 36
abbrev Z06:Stmt:=top 37
abbrev U3:Stmt:=top 38
abbrev Q3:Stmt:=top 39
abbrev Z2c:Stmt:=top 41
abbrev Z8q:Stmt:=top 42
def Z31:ErrB:=⟨"InvalidText", "InvalidText.__init__", "at",inClass (top 5) 0⟩
theorem Z9z:X2s Z31.st Z31.par:=⟨_,_,_,_,_,_,_,_,_,_,_,_,rfl,rfl,rfl,fun _=>⟨_,rfl⟩⟩
def Z4w:ErrB:=⟨"InvalidRow", "InvalidRow.__init__", "word",inClass (top 3) 0⟩
theorem Y02:X2s Z4w.st Z4w.par:=⟨_,_,_,_,_,_,_,_,_,_,_,_,rfl,rfl,rfl,fun _=>⟨_,rfl⟩⟩
def Z32:ErrB:=⟨"InvalidTool", "InvalidTool.__init__", "word",inClass (top 4) 0⟩
theorem Z90:X2s Z32.st Z32.par:=⟨_,_,_,_,_,_,_,_,_,_,_,_,rfl,rfl,rfl,fun _=>⟨_,rfl⟩⟩
def xsL:List ErrB:=[Z31,Z4w,Z32]
def Y1y:DefB:=⟨fun K=>He.ga K "is_name", "is_name", "is_name",defArgs Z2j,defBody Z2j,defScope Z2j,[]⟩
def Z7e:DefB:=⟨fun K=>He.ga K "is_sequence", "is_sequence", "is_sequence",defArgs Z09,defBody Z09,defScope Z09,[]⟩
def Z8j:DefB:=⟨fun K=>He.ga K "are_unlike", "are_unlike", "are_unlike",defArgs Z1m,defBody Z1m,defScope Z1m,[]⟩
def Y1z:DefB:=⟨fun K=>He.ga K "is_word", "is_word", "is_word",defArgs Z21,defBody Z21,defScope Z21,[]⟩
def Y1x:DefB:=⟨fun K=>He.ma K (He.ga K "Row") "__str__", "__str__", "Row.__str__",defArgs Z20,defBody Z20,defScope Z20,[]⟩
def Z9b:DefB:=⟨fun K=>He.ga K "_law_seed", "_law_seed", "_law_seed",defArgs Z10,defBody Z10,defScope Z10,[]⟩
def Z7b:DefB:=⟨fun K=>He.ga K "_law_choose", "_law_choose", "_law_choose",defArgs Z05,defBody Z05,defScope Z05,[]⟩
def Z6c:DefB:=⟨fun K=>He.ga K "_law_row_text", "_law_row_text", "_law_row_text",defArgs Z0m,defBody Z0m,defScope Z0m,[]⟩
def Z9a:DefB:=⟨fun K=>He.ga K "_law_name", "_law_name", "_law_name",defArgs Z1k,defBody Z1k,defScope Z1k,[]⟩
def Z8i:DefB:=⟨fun K=>He.ga K "_law_wrong", "_law_wrong", "_law_wrong",defArgs Q3,defBody Q3,defScope Q3,[]⟩
def Z7w:DefB:=⟨fun K=>He.ma K (He.ga K "Row") "__init__", "__init__", "Row.__init__",defArgs Z2a,defBody Z2a,defScope Z2a,[.bl true]⟩
def Z9d:DefB:=⟨fun K=>He.ga K "are_names", "are_names", "are_names",defArgs Z1l,defBody Z1l,defScope Z1l,[]⟩
def Y0g:DefB:=⟨fun K=>He.ga K "names_in", "names_in", "names_in",defArgs Z14,defBody Z14,defScope Z14,[]⟩
def Z7d:DefB:=⟨fun K=>He.ga K "_law_one_of", "_law_one_of", "_law_one_of",defArgs Z07,defBody Z07,defScope Z07,[]⟩
def Z8h:DefB:=⟨fun K=>He.ga K "_law_mixed", "_law_mixed", "_law_mixed",defArgs Z1j,defBody Z1j,defScope Z1j,[]⟩
def Z5z:DefB:=⟨fun K=>He.ga K "_law_tool_text", "_law_tool_text", "_law_tool_text",defArgs Q1,defBody Q1,defScope Q1,[]⟩
def Z7c:DefB:=⟨fun K=>He.ga K "_law_is_row", "_law_is_row", "_law_is_row",defArgs Z06,defBody Z06,defScope Z06,[]⟩
def Z65:DefB:=⟨fun K=>He.ma K (He.ga K "Tool") "__init__", "__init__", "Tool.__init__",defArgs U8,defBody U8,defScope U8,[.adr (He.dflAt ("Tool",some "__init__") 0)]⟩
def Z8g:DefB:=⟨fun K=>He.ga K "_law_marks", "_law_marks", "_law_marks",defArgs Z1i,defBody Z1i,defScope Z1i,[]⟩
def Y0f:DefB:=⟨fun K=>He.ga K "_law_row", "_law_row", "_law_row",defArgs Z2d,defBody Z2d,defScope Z2d,[]⟩
def Z5y:DefB:=⟨fun K=>He.ga K "_law_first_bad", "_law_first_bad", "_law_first_bad",defArgs U3,defBody U3,defScope U3,[]⟩
def Y0c:DefB:=⟨fun K=>Y7i "Row" "read" K, "read", "Row.read",defArgs Z2b,defBody Z2b,defScope Z2b,[]⟩
def Y0d:DefB:=⟨fun K=>He.ma K (He.ga K "Tool") "__str__", "__str__", "Tool.__str__",defArgs Z1t,defBody Z1t,defScope Z1t,[]⟩
def Z9c:DefB:=⟨fun K=>He.ga K "_law_tool", "_law_tool", "_law_tool",defArgs Z08,defBody Z08,defScope Z08,[]⟩
def Y0e:DefB:=⟨fun K=>He.ga K "_law_due", "_law_due", "_law_due",defArgs Z2c,defBody Z2c,defScope Z2c,[]⟩
def Z89:DefB:=⟨fun K=>Y7i "Tool" "read" K, "read", "Tool.read",defArgs Z1z,defBody Z1z,defScope Z1z,[]⟩
def Z8f:DefB:=⟨fun K=>He.ga K "_law_heard", "_law_heard", "_law_heard",defArgs Z1h,defBody Z1h,defScope Z1h,[]⟩
def X06:DefB:=⟨fun K=>He.ga K "law", "law", "law",defArgs Z8q,defBody Z8q,defScope Z8q,[]⟩
def dsL:List DefB:=[Y1y,Z7e,Z8j,Y1z,Y1x,Z9b,Z7b,Z6c,Z9a,Z8i,Z7w,Z9d,Y0g,Z7d,Z8h,Z5z,Z7c,Z65,Z8g,Y0f,Z5y,Y0c,Y0d,Z9c,Y0e,Z89,Z8f,X06]
def tsL:List (PySem.W.Frag→Bool):=[Z3q "len",
  Z3q "min",
  Z3q "max",
  Z3q "range",
  Z3q "abs",
  Z3q "int",
  Z2q "_law_seed",
  Z2q "_law_row_text",
  Z3q "list",
  Z2q "_law_choose",
  Z2q "_law_mixed",
  Z2q "_law_marks",
  Z2q "_law_one_of",
  Z2q "_law_row",
  Z2q "_law_tool",
  Z2q "_law_tool_text",
  Y1o "InvalidTool" [("InvalidRow",false),("InvalidTool",true),("InvalidText",false)],
  X3q ["InvalidRow", "InvalidTool"] "word",
  Z2q "InvalidTool",
  Y1o "InvalidText" [("InvalidRow",false),("InvalidTool",false),("InvalidText",true)],
  X3q ["InvalidText"] "at",
  Z2q "InvalidText",
  Z9w "HEADS" ["marks", "shown", "asked"],
  Z2q "HEADS",
  Z3q "enumerate",
  Z3q "isinstance",
  Y8e (fun K=>(.type "str")) (Z8v "str") [("Row",false),("Tool",false)],
  Z3q "str",
  Z9w "BARRED" ["any", "same", "take", "keep", "to"],
  Z2q "BARRED",
  X2m "MOST_LETTERS" 5,
  X2o "LETTERS" "abcdefghijklmnopqrstuvwxyz",
  Z3q "all",
  Z2q "is_name",
  Z2q "names_in",
  X3p [("InvalidRow",false),("InvalidTool",false),("InvalidText",true)],
  Z9w "TAKINGS" ["keep", "take"],
  Z2q "TAKINGS",
  Y1o "InvalidRow" [("InvalidRow",true),("InvalidTool",false),("InvalidText",false)],
  X3p [("InvalidRow",true),("InvalidTool",false),("InvalidText",false)],
  Z9w "HAPPENINGS" ["give", "carry", "drop", "back", "right", "wrong"],
  Z2q "HAPPENINGS",
  Z2q "is_word",
  Z2q "InvalidRow",
  Y8e (fun K=>(.type "bool")) (Z8v "bool") [("Row",false),("Tool",false)],
  Z3q "bool",
  Z60 ["Row"] "word",
  Z60 ["Row"] "old",
  Z60 ["Row"] "then",
  Z60 ["Row"] "take",
  X0g "Row",
  Z2q "Row",
  X3k "Row" "read",
  Y86 [.type "list", .type "tuple"] (Y4o ["list", "tuple"]) [("Row",false),("Tool",false)],
  Z3q "tuple",
  Z2q "is_sequence",
  Z3q "set",
  Z2q "are_unlike",
  Z2q "are_names",
  Y8e (fun K=>(.ref (He.ga K "Row"))) Z8c [("Row",true),("Tool",false)],
  Z3q "any",
  Z60 ["Tool"] "marks",
  Z60 ["Tool"] "shown",
  Z60 ["Tool"] "asked",
  Z60 ["Tool"] "rows",
  Z60 ["Tool"] "blank",
  X0g "Tool",
  Z2q "Tool",
  X3k "Tool" "read",
  Z3q "zip",
  X0i "Row",
  X0i "Tool",
  Z2q "_law_heard",
  Z2q "_law_name",
  Z2q "_law_is_row",
  Z2q "_law_first_bad",
  Z2q "_law_wrong",
  Z2q "_law_due",
  Z2q "law",
  X2l ("Tool",some "__init__") 0,
  Y4m "InvalidText" "at" .ve,
  Y4n "InvalidText" .ve,
  Y2s "InvalidText" "InvalidText.__init__" (PySem.Challenge.pw_wordingkept_k09_texts_of_no_tool.main.file),
  Y4m "InvalidRow" "word" .ve,
  Y4n "InvalidRow" .ve,
  Y2s "InvalidRow" "InvalidRow.__init__" (PySem.Challenge.pw_wordingkept_k09_texts_of_no_tool.main.file),
  Y4m "InvalidTool" "word" .ve,
  Y4n "InvalidTool" .ve,
  Y2s "InvalidTool" "InvalidTool.__init__" (PySem.Challenge.pw_wordingkept_k09_texts_of_no_tool.main.file)]
def X1m:List PySem.Str:=["_wall", "WordError", "InvalidRow", "InvalidTool", "InvalidText", "NoRow", "NoMark", "HAPPENINGS", "BARRED", "LETTERS", "MOST_LETTERS", "is_integer", "is_name", "is_sequence", "are_unlike", "is_word", "TAKINGS", "Row", "HEADS", "are_names", "names_in", "Tool", "_law_seed", "_law_choose", "_law_one_of", "_law_mixed", "_law_marks", "_law_row", "_law_tool", "_law_row_text"]
def X1n:List PySem.Str:=["_law_tool_text", "_law_name", "_law_is_row", "_law_first_bad", "_law_wrong", "_law_heard", "_law_due"]
def looseL:List PySem.Str:=X1m++X1n
abbrev Rw:PySem.W.OpenRow:=PySem.W.OpenLaw.row PySem.Challenge.rw_wordingkept_k09_texts_of_no_tool
abbrev Vw:Program:=PySem.W.view Rw.prog [42]
abbrev hkL:PySem.W.Hook:=X1e 7 tsL dsL xsL
def obL (s:PySem.W.SharedT):AlB:=Y96 7 tsL dsL xsL (HandSHeadRun.getT s)
theorem obL_eq (s:PySem.W.SharedT):obL s=hkL.obs s.abs:=Y7z (HandSHeadRun.getT_eq s)
theorem runL (w:World):HandSHeadRun.RunEq Rw Vw hkL obL 30000 looseL w:=by
  intro os
  kernel_rfl
end Lw
set_option maxHeartbeats 4000000
namespace Bv
open PySem PySem.Spec L2
open PyProof.Rows hiding St
variable [HasW]
def X04 (S:Sto) (x y:Bv.X):R Bv.X:=match X2v S x,X2v S y with
  | some xs,some ys=>if decide (xs.length + ys.length ≤ sizeLine) then .ok (.r S.length) (S++[.lst (xs++ys)]) else .bad
  | _,_ => .bad
def Z6h (ma mb:M):M:=fun e S=>(ma e S).bind fun x S1=>(mb e S1).bind fun y S2=>X04 S2 x y
section
variable {X:Cx} {Wx:WX} {pos:Pos} {a b:Expr} {ma mb:M}
theorem Y06 (ha:ME X Wx a ma) (hb:ME X Wx b mb):ME X Wx (.BinOp a .Add b pos) (Z6h ma mb):=PE.of (pe_op op_cat ha hb) fun σ H Q ⟨Z,ρ,e,S,st,ev,p⟩=>W3 st ev p fun ρ1 H1 v x S1 s1 g1 ev1 a1 p1=>W3 s1 ev1 p1 fun ρ2 H2 u y S2 s2 g2 ev2 a2 p2=>by
  unfold X04 at p2
  split at p2
  · rename_i xs ys hx hy
    split at p2
    · rename_i hz
      obtain ⟨q,vs,rfl,h3,h4⟩:=Y36 s2 (a1.mv (g2.mv s1) g2.pre) hx
      obtain ⟨b,us,rfl,h5,h6⟩:=Y36 s2 a2 hy
      have hz:=of_decide_eq_true hz
      refine ⟨q,b,vs,us,rfl,rfl,h3,h5,by rw [← Paired.length h4,← Paired.length h6]; exact hz,fun l hl=>?_⟩
      obtain ⟨s5,g5⟩:=s2.pushL hl (Paired.append h4 h6)
      exact p2 _ _ _ s5 g5 (.r (by rw [s2.len]; simp))
    · exact p2.elim
  · exact p2.elim
end
end Bv
namespace Bv
open PySem PySem.Spec L2
open PyProof.Rows hiding St
variable [HasW]
section
variable {X:Cx} {Wx:WX} {pos pt p2:Pos} {es tgs:List Expr} {k1 k2} {ms:MG (List Bv.X)} {ts:List Tg}
end
end Bv
namespace Bv
open PySem PySem.Spec L2
open PyProof.Rows hiding St
variable [HasW]
def Y79 (ts:List Tg) (m:M):MS:=fun e S=>(m e S).so e fun x S1=>match x with
  | .d (.lst ds)=>(match Tg.asgs S1 ts (ds.map .d) e with
    | some e1 => .go (.nx e1) S1
    | none => .bad)
  | _ => .bad
section
variable {X:Cx} {Wx:WX} {pos pt:Pos} {k1:Nat} {a:Expr} {tgs:List Expr} {ts:List Tg} {ma:M}
theorem X1t (hc:X.calm=true) (ha:ME X Wx a ma) (hg:PGs X tgs (X0u X.K ts)) (hn:(assignEach tgs X.env).length=ts.length:=by rfl) (hst:(assignEach tgs X.env).findIdx? (·.1)=none:=by rfl)
    (hs:swapsWithSole [.Tuple tgs k1 pt] a pos.line X.env=pure false:=by rfl) (hw:swappedStores [.Tuple tgs k1 pt] a X.env=pure none:=by rfl)
    (h1:(assignEach [.Tuple tgs k1 pt] X.env).map (·.2)=[assign (.Tuple tgs k1 pt) X.env]:=by rfl) :
    MP X Wx (.Assign [.Tuple tgs k1 pt] a pos) (Y79 ts ma):=PS.of (ps_asg ha (pg_unl hc hg hn hst) hs hw h1) fun D σ H ⟨Z,ρ,e,S,st,ev,p⟩ =>
  Z2n st ev p fun ρ1 H1 v x S1 st1 g1 ev1 a1 p1=>by
    cases a1 with
    | r _=>exact p1.elim
    | d h =>
      cases h with
      | @lst w q us ds r hs =>
        have p1:_:=p1
        dsimp only at p1
        cases q2:Tg.asgs S1 ts (_:List Bv.X) e with
        | none=>rw [q2] at p1; exact p1.elim
        | some e1 =>
          rw [q2] at p1
          have hl:=Y0w q2
          rw [List.length_map] at hl
          exact ⟨_,_,rfl, .inl (.inl r),by rw [← hs.length]; exact hl,Z,ρ1,e,S1,_,e1,st1,ev1,hs.axs,q2,fun σ' ev' _=>p1.next st1 ev'⟩
      | _=>exact p1.elim
end
end Bv
namespace Xq
open PySem PySem.Spec PyProof.Rows L2
abbrev HdL:=Value × Option Nat × (Addr→Value→Option Addr→TS)
def wManyQ (K:PySem.W.Frag) (Wout:WX) (D:Ends):List HdL→WX
  | []=>Wout
  | (c,some i,ts) :: r=>fun cls d σ H=>∃ b,PySem.W.exmOne K cls c=some b∧(b=true→∀ a,H a=none→ts a cls d { nx:=fun σ' H'=>D.nx (σ'.set i none) H',rt:=D.rt,bk:=fun σ' H'=>D.bk (σ'.set i none) H',ct:=fun σ' H'=>D.ct (σ'.set i none) H' } (σ.set i (some (.ref a))) H)∧(b=false→wManyQ K Wout D r cls d σ H)
  | (c,none,ts) :: r=>fun cls d σ H=>∃ b,PySem.W.exmOne K cls c=some b∧(b=true→∀ a,H a=none→ts a cls d D σ H)∧(b=false→wManyQ K Wout D r cls d σ H)
inductive HdsQ (X:Cx):List ExceptHandler→List HdL→Prop
  | nil:HdsQ X [] []
  | as_ {x n:Str} {c:Value} {i:Nat} {ts:Addr→Value→Option Addr→TS} {b₀:Stmt} {suite:List Stmt} {np pos':Pos} {hds:List ExceptHandler} {l:List HdL} (hi:X.N[i]?=some n) (hln:X.env.kindOf n=some .local) (hc:Names X x c)
      (hsu:∀ (a:Addr) (oe:Obj) (cls:Value) (d:Option Addr) (pn:List (Addr × Obj)) (xe:Value→Shared→Prop),Zc cls d oe→(∃ vs,oe.data = .fields vs)→PSs (suiteQ X a ((a,oe) :: pn) xe) (b₀ :: suite) (ts a cls d)) (r:HdsQ X hds l) :
      HdsQ X (.ExceptHandler (some (.Name x np)) (some n) (b₀ :: suite) pos' :: hds) ((c,some i,ts) :: l)
  | on {x:Str} {c:Value} {ts:Addr→Value→Option Addr→TS} {b₀:Stmt} {suite:List Stmt} {np pos':Pos} {hds:List ExceptHandler} {l:List HdL} (hc:Names X x c)
      (hsu:∀ (a:Addr) (oe:Obj) (cls:Value) (d:Option Addr) (pn:List (Addr × Obj)) (xe:Value→Shared→Prop),Zc cls d oe→(∃ vs,oe.data = .fields vs)→PSs (suiteQ X a ((a,oe) :: pn) xe) (b₀ :: suite) (ts a cls d)) (r:HdsQ X hds l) :
      HdsQ X (.ExceptHandler (some (.Name x np)) none (b₀ :: suite) pos' :: hds) ((c,none,ts) :: l)
section
variable {X:Cx} {body:List Stmt} {h₀:ExceptHandler} {hds:List ExceptHandler} {l:List HdL} {pos:Pos} {tb:WX→TS} {Wout:WX}
theorem ps_try_manyQ (hs:X.stack=X.env :: X.outer) (hf:X.env.frame=some X.env.locals) (hN:X.N.Nodup) (tk:Tk X Wout)
    (hb:∀ (W:WX) (pn:List (Addr × Obj)) (xe:Value→Shared→Prop),Tk (X.tr pn xe) W→PassesOwn (model X.prog X.w) X.A X.env xe→PSs (X.tr pn xe) body (tb W))
    (hh:HdsQ X (h₀ :: hds) l):PS X (.Try body (h₀ :: hds) [] [] pos) (fun D σ H=>tb (wManyQ X.K Wout D l) D σ H):=by
  refine ⟨fun pins s σ H D I h=>?_⟩
  have ok:=I.ok
  have frames:X.A.frames=some (X.env :: X.outer):=ok.frames.trans (congrArg some hs)
  refine wpAny_Try_except ?_
  let xeB:Value→Shared→Prop:=fun e s₁=>wpAny (model X.prog X.w) X.A (noteFrame e X.env) (fun _ s₂=>wpAny (model X.prog X.w) X.A (setFlight e none) (fun _ s₃ =>
    wpAny (model X.prog X.w) X.A (handleBy e X.env (h₀ :: hds)) (SP X pins D) X.xe s₃) X.xe s₂) X.xe s₁
  refine wpAny_mono ((hb (wManyQ X.K Wout D l) (X.pn++pins) xeB (fun u s' up0=>?_) PassesOwn.looking).run [] s σ H D (I.toTry _) h) (fun f s1 hsp=>?_) (fun e s1 he=>he)
  · obtain ⟨a,B,sI,pins',σ1,H1,cls,d,rfl,J0,gr,up,sky0,na,os,ag,w0⟩:=up0
    have J:Inv X pins σ1 H1 sI:=J0.ofTry ok
    have sky:Sky B (X.env :: X.outer) a (Zq B H1 cls d) X.env.locals s'.heap:=by rw [← hs]; exact sky0
    show wpAny (model X.prog X.w) X.A (noteFrame (.ref a) X.env) _ _ _
    refine L2N.Sky.land zq_steady frames hf sky fun h3 fl3 up3=>?_
    have Y12:∀ h4,HandSPX.FlyingZ B (X.env :: X.outer) a (Zq B H1 cls d) h4→s'.heap.UpToSlots h4→∀ (xe:Value→Shared→Prop),∃ oe pn,(∀ p ∈ X.pn++pins,p ∈ pn)∧Zq B H1 cls d oe∧(∃ vs,oe.data = .fields vs)∧h4.get? a=some oe∧Inv (suiteQ X a ((a,oe) :: pn) xe) [] σ1 H1 { s' with heap:=h4 }:=by
      intro h4 fl4 up4 xe
      have J4:Inv X pins σ1 H1 { s' with heap:=h4 }:=J.landed gr fl4.1 (up.trans up4) os ag
      obtain ⟨oe,vs,he,hz,hd⟩:=fl4.there
      obtain ⟨v,hv,cv⟩:=hz.2 vs hd
      obtain ⟨l,cl,hl⟩:=cv.pins fl4.1
      have notFr:∀ b,b ∈ frs (X.env :: X.outer)→B.get? b=none:=fun b hb=>(fl4.2.2.1.mem hb).1
      have aFr:a ∉ frs (X.env :: X.outer):=fun hm=>by
        obtain ⟨_,o2,e2,q⟩:=fl4.2.2.1.mem hm
        rw [he] at e2; cases e2
        exact q _ hd
      have isL:X.env.locals ∈ frs (X.env :: X.outer):=List.mem_filterMap.mpr ⟨X.env,List.mem_cons_self,hf⟩
      have inF:∀ b,b ∈ X.fs→b ∈ frs (X.env :: X.outer):=fun b hb=>by
        obtain ⟨e,m,q⟩:=List.mem_filterMap.mp hb
        exact List.mem_filterMap.mpr ⟨e,List.mem_cons_of_mem _ m,q⟩
      refine ⟨oe,l++(X.pn++pins),fun p hp=>List.mem_append_right _ hp,hz,⟨vs,hd⟩,he,⟨⟨J4.ok.mod,J4.ok.kind,J4.ok.glob,J4.ok.blt,J4.ok.above,J4.ok.inj,J4.ok.has,J4.ok.cab,(fun z=>absurd (show false=true from z) Bool.false_ne_true),J4.ok.frames,J4.ok.stk,J4.ok.exf,J4.ok.bs,J4.ok.bsz,J4.ok.noex,J4.ok.exfs,J4.ok.funs,J4.ok.frf⟩,J4.os,J4.bare,J4.base,J4.loc,J4.cell,J4.free,J4.freeC,fun p hp=>?_,J4.hok,J4.len⟩⟩
      have hp':p ∈ (a,oe) :: (l++(X.pn++pins)):=by rw [List.append_nil] at hp; exact hp
      rcases List.mem_cons.mp hp' with e | hp'
      · subst e
        exact ⟨he,na,fun z=>aFr (by rw [show a=X.env.locals from z]; exact isL),fun z=>aFr (inF _ z),fun u z=>by have z':oe.data = .cell u:=z; rw [hd] at z'; cases z'⟩
      · rcases List.mem_append.mp hp' with hp' | hp'
        · obtain ⟨y1,y2,⟨o,y3⟩,y4⟩:=hl p hp'
          refine ⟨y1,y2,(?_:p.1 ≠ X.env.locals),(?_:p.1 ∉ X.fs),y4⟩
          · intro z
            rw [z,notFr _ isL] at y3
            cases y3
          · intro z
            rw [notFr _ (inF _ z)] at y3
            cases y3
        · exact J4.pin p hp'
    obtain ⟨oe3,pn3,_,hz3,_,he3,S3⟩:=Y12 h3 fl3 up3 fun _ _=>False
    have go:∀ {hds':List ExceptHandler} {l':List HdL},HdsQ X hds' l'→wManyQ X.K Wout D l' cls d σ1 H1 →
        wpAny (model X.prog X.w) X.A (handleBy (.ref a) X.env hds') (SP X pins D) X.xe { s' with heap:=h3 }:=by
      intro hds' l' hk
      induction hk with
      | nil =>
        intro w
        refine wpAny_handleBy_nil ?_
        obtain ⟨k1,k2,k3,k4⟩:=id fl3
        exact on_from (s:={ s' with heap:=h3 }) hf k1 k2 k3 k4 fun h4 hh4 up4=>tk _ _ ⟨a,B,sI,pins,σ1,H1,cls,d,rfl,J,gr,(up.trans up3).trans up4, .inr (.inr (by rw [hs]; exact hh4)),na,os,ag,w⟩
      | @as_ x n c i ts b₀ suite np pos' hds2 l2 hi hln hc hsu r ih =>
        intro w
        obtain ⟨b,hb1,hyes,hno⟩:=w
        have loc:Loc X.env.scope n := .inl hln
        refine wpAny_handleBy_cons (codeAny_handlers_test ?_) (by intro q; cases q)
        have LT:PySem.W.Looks (model X.prog X.w) h3 (typeOf (.ref a)) cls:=fun A Q E s k q=>wpAny_typeOf_ref (k _ _ he3) (by rw [hz3.1.1]; exact q)
        have LM:=PySem.W.exm_one (M:=model X.prog X.w) S3.kIn LT hb1
        have test:∀ {Q E:Value→Shared→Prop},Q c { s' with heap:=h3 }→wpAny (model X.prog X.w) (X.A.mark (some (.ref a))) (eval (.Name x np) X.env) Q E { s' with heap:=h3 }:=fun {Q E} q=>by
          obtain ⟨g1,g2,g3 | ⟨g3,g4,g5⟩⟩:=hc
          · exact ld_glob (X:=suiteQ X a ((a,oe3) :: pn3) fun _ _=>False) S3 g1 g3 q g2
          · exact ld_blt (X:=suiteQ X a ((a,oe3) :: pn3) fun _ _=>False) S3 g1 g3 g4 q g5 g2
        refine test (LM.here ?_)
        cases b with
        | false =>
          show wpAny _ X.A (handleBy (.ref a) X.env hds2) _ _ _
          exact ih (hno rfl)
        | true =>
          refine codeAny_handlers_suite_as ?_
          refine HandSPX.lands_againZ fl3 fun h4 fl4 up4=>?_
          obtain ⟨oe,pn,sub,hz,hd,he,S4⟩:=Y12 h4 fl4 (up3.trans up4) (AsSuiteRaised (model X.prog X.w) (X.A.mark (some (.ref a))) X.env n pos' (notedBy (model X.prog X.w) (X.A.mark (some (.ref a))) X.env (cameBackBy (model X.prog X.w) X.A X.env X.xe)))
          have back:∀ {xe σ2 H2 s2 pin2},Inv (suiteQ X a ((a,oe) :: pn) xe) pin2 σ2 H2 s2→Inv X pins σ2 H2 s2:=fun {xe σ2 H2 s2 pin2} K =>
            ⟨ok,K.os,K.bare,K.base,K.loc,K.cell,K.free,K.freeC,fun p hp=>K.pin p (List.mem_append_left _ (List.mem_cons_of_mem _ (sub p hp))),K.hok,K.len⟩
          refine store_ok (X:=suiteQ X a ((a,oe) :: pn) _) (v := .ref a) S4 hN hi loc rfl (fun s5 S5=>?_) (.inr hln)
          have end_:∀ {σ6:L2.St} {H6:Hp} {s6:Shared} {Q:Shared→Prop},Inv (suiteQ X a ((a,oe) :: pn) (AsSuiteRaised (model X.prog X.w) (X.A.mark (some (.ref a))) X.env n pos' (notedBy (model X.prog X.w) (X.A.mark (some (.ref a))) X.env (cameBackBy (model X.prog X.w) X.A X.env X.xe)))) [] σ6 H6 s6→(∀ s7,Inv X pins (σ6.set i none) H6 s7→Q s7) →
              wpAny (model X.prog X.w) X.A (do bindName X.env n .none; unbindBehindTheSuite X.env n pos') (fun _ s7=>Q s7) X.xe s6:=fun {σ6 H6 s6 Q} S6 hq=>gone_ok (back S6) hN hi hln hq
          refine wpAny_mono ((hsu a oe cls d pn _ hz.1 hd).run [] s5 _ H1 _ S5 (hyes rfl a na)) (fun f s6 hsp=>?_) (fun _ _ z=>z)
          cases f with
          | ret u =>
            obtain ⟨v6,σ6,H6,S6,r6,q6⟩:=hsp
            exact end_ S6 fun s7 J7=>⟨_,_,_,J7,r6,q6⟩
          | next=>obtain ⟨σ6,H6,S6,q6⟩:=hsp; exact end_ S6 fun s7 J7=>⟨_,_,J7,q6⟩
          | brk=>obtain ⟨σ6,H6,S6,q6⟩:=hsp; exact end_ S6 fun s7 J7=>⟨_,_,J7,q6⟩
          | cont=>obtain ⟨σ6,H6,S6,q6⟩:=hsp; exact end_ S6 fun s7 J7=>⟨_,_,J7,q6⟩
      | @on x c ts b₀ suite np pos' hds2 l2 hc hsu r ih =>
        intro w
        obtain ⟨b,hb1,hyes,hno⟩:=w
        refine wpAny_handleBy_cons (codeAny_handlers_test ?_) (by intro q; cases q)
        have LT:PySem.W.Looks (model X.prog X.w) h3 (typeOf (.ref a)) cls:=fun A Q E s k q=>wpAny_typeOf_ref (k _ _ he3) (by rw [hz3.1.1]; exact q)
        have LM:=PySem.W.exm_one (M:=model X.prog X.w) S3.kIn LT hb1
        have test:∀ {Q E:Value→Shared→Prop},Q c { s' with heap:=h3 }→wpAny (model X.prog X.w) (X.A.mark (some (.ref a))) (eval (.Name x np) X.env) Q E { s' with heap:=h3 }:=fun {Q E} q=>by
          obtain ⟨g1,g2,g3 | ⟨g3,g4,g5⟩⟩:=hc
          · exact ld_glob (X:=suiteQ X a ((a,oe3) :: pn3) fun _ _=>False) S3 g1 g3 q g2
          · exact ld_blt (X:=suiteQ X a ((a,oe3) :: pn3) fun _ _=>False) S3 g1 g3 g4 q g5 g2
        refine test (LM.here ?_)
        cases b with
        | false =>
          show wpAny _ X.A (handleBy (.ref a) X.env hds2) _ _ _
          exact ih (hno rfl)
        | true =>
          refine codeAny_handlers_suite ?_
          refine HandSPX.lands_againZ fl3 fun h4 fl4 up4=>?_
          obtain ⟨oe,pn,sub,hz,hd,he,S4⟩:=Y12 h4 fl4 (up3.trans up4) (fun _ _=>False)
          have back:∀ {xe σ2 H2 s2 pin2},Inv (suiteQ X a ((a,oe) :: pn) xe) pin2 σ2 H2 s2→Inv X pins σ2 H2 s2:=fun {xe σ2 H2 s2 pin2} K =>
            ⟨ok,K.os,K.bare,K.base,K.loc,K.cell,K.free,K.freeC,fun p hp=>K.pin p (List.mem_append_left _ (List.mem_cons_of_mem _ (sub p hp))),K.hok,K.len⟩
          refine wpAny_mono ((hsu a oe cls d pn _ hz.1 hd).run [] _ _ H1 _ S4 (hyes rfl a na)) (fun f s6 hsp=>?_) (fun _ _ z=>False.elim z)
          cases f with
          | ret u =>
            obtain ⟨v6,σ6,H6,S6,r6,q6⟩:=hsp
            exact ⟨_,_,_,back S6,r6,q6⟩
          | next=>obtain ⟨σ6,H6,S6,q6⟩:=hsp; exact ⟨_,_,back S6,q6⟩
          | brk=>obtain ⟨σ6,H6,S6,q6⟩:=hsp; exact ⟨_,_,back S6,q6⟩
          | cont=>obtain ⟨σ6,H6,S6,q6⟩:=hsp; exact ⟨_,_,back S6,q6⟩
    exact go hh w0
  · cases f with
    | ret u=>obtain ⟨v,σ2,H2,K,r,q⟩:=hsp; exact ⟨v,σ2,H2,K.ofTry ok,r,q⟩
    | next=>obtain ⟨σ2,H2,K,q⟩:=hsp; exact wpAny_execs_nil ⟨σ2,H2,K.ofTry ok,q⟩
    | brk=>obtain ⟨σ2,H2,K,q⟩:=hsp; exact ⟨σ2,H2,K.ofTry ok,q⟩
    | cont=>obtain ⟨σ2,H2,K,q⟩:=hsp; exact ⟨σ2,H2,K.ofTry ok,q⟩
end
end Xq
namespace Bv
open PySem PySem.Spec L2
open PyProof.Rows hiding St
variable [HasW]
inductive Hd where
  | as_ (tab:List (Str × Bool)) (i j:Nat) (m:SX)
  | on (tab:List (Str × Bool)) (j:Nat) (z:Str)
def Y5j (C:Str) (fs:List (Str × D)) (e1:Ev) (S1:Sto):List Hd→RO
  | [] => .err C fs e1 S1
  | .as_ tab i j m :: r=>match tab.lookup C with
    | some true=>(match m C fs with
      | some f=>if i < e1.length then .go (.nx ((e1.set j (some (.d f))).set i none)) S1 else .bad
      | none => .bad)
    | some false=>Y5j C fs e1 S1 r
    | none => .bad
  | .on tab j z :: r=>match tab.lookup C with
    | some true => .go (.nx (e1.set j (some (.d (.str z))))) S1
    | some false=>Y5j C fs e1 S1 r
    | none => .bad
def Z9t (mb:MS) (l:List Hd):MS:=fun e S=>match mb e S with
  | .err C fs e1 S1=>Y5j C fs e1 S1 l
  | r=>r
inductive HdsD (X:Cx):List ExceptHandler→List Hd→Prop
  | nil:HdsD X [] []
  | as_ {i j:Nat} {n y x:Str} {c:Value} {np yp apos pos':Pos} {ex:Expr} {m:SX} {tab:List (Str × Bool)} {hds:List ExceptHandler} {l:List Hd} (hi:X.N[i]?=some n) (hln:X.env.kindOf n=some .local) (hj:X.N[j]?=some y) (hy:Loc X.env.scope y) (hij:i ≠ j) (hc:Names X x c) (ht:Y2w X.K c tab) (hse:SE [] X i ex m) (r:HdsD X hds l)
      (hsw:swapsWith ex (some (.Name y yp)) apos.line X.env=pure false:=by rfl) (hfn:X.fn y=true ∨ X.env.scope.names.lookup y=some .local:=by first | exact .inl rfl | exact .inr rfl) :
      HdsD X (.ExceptHandler (some (.Name x np)) (some n) [.Assign [.Name y yp] ex apos] pos' :: hds) (.as_ tab i j m :: l)
  | on {j:Nat} {y x z:Str} {c:Value} {np yp apos pos' cp:Pos} {kk:Nat} {tab:List (Str × Bool)} {hds:List ExceptHandler} {l:List Hd} (hj:X.N[j]?=some y) (hy:Loc X.env.scope y) (hc:Names X x c) (ht:Y2w X.K c tab) (r:HdsD X hds l) (hz:PyData.strOk z=true:=by decide +kernel)
      (hsw:swapsWith (.Constant (.str z) kk cp) (some (.Name y yp)) apos.line X.env=pure false:=by rfl) (hfn:X.fn y=true ∨ X.env.scope.names.lookup y=some .local:=by first | exact .inl rfl | exact .inr rfl) :
      HdsD X (.ExceptHandler (some (.Name x np)) none [.Assign [.Name y yp] (.Constant (.str z) kk cp) apos] pos' :: hds) (.on tab j z :: l)
section
variable {X:Cx} {Wx:WX} {k:Nat} {body:List Stmt} {pos:Pos} {mb:MS} {h0:ExceptHandler} {hds:List ExceptHandler} {l:List Hd}
theorem Y7p (hN:X.N.Nodup) (h:HdsD X hds l):∃ L,Xq.HdsQ X hds L∧∀ {Wx:WX} {D:Ends} {C:Str} {fs:List (Str × Bv.D)} {e1:Ev} {S1:Sto} {Z:Wd} {ρ:List Addr} {H:Hp},Z22 X.K Z ρ H Wx D (Y5j C fs e1 S1 l)→∀ (ρ':List Addr) (H':Hp) (σ':L2.St) (d:Option Addr),Sta X.K Z ρ' S1 H'→Go ρ H ρ' H'→EvOk X.K (Wn Z ρ') ρ' H' e1 σ'→X0o X.K (Wn Z ρ') H H' fs d →
    Xq.wManyQ X.K Wx D L (.ref (He.ga X.K C)) d σ' H':=by
  induction h with
  | nil=>exact ⟨[], .nil,fun p ρ' H' σ' d s1 g1 ev1 er=>p ρ' H' σ' d s1 g1 ev1 er⟩
  | @as_ i j n y x c np yp apos pos' ex m tab hds l hi hln hj hy hij hc ht hse r hsw hfn ih =>
    obtain ⟨L,hL,hp⟩:=ih
    let ts:Addr→Value→Option Addr→TS:=fun a cls d D σ H=>∃ C:Str,cls = .ref (He.ga X.K C)∧tAsg (tSE [] X.K i a C d m) (gName j) D σ H
    have hsu:∀ (a:Addr) (oe:Obj) (cls:Value) (d:Option Addr) (pn:List (Addr × Obj)),Zc cls d oe→(∃ vs,oe.data = .fields vs)→PSs (X.suite a ((a,oe) :: pn)) [.Assign [.Name y yp] ex apos] (ts a cls d):=fun a oe cls d pn hz hd =>
      ⟨fun pins s σ H D I ⟨C,ec,q⟩=>by
        subst ec
        exact (pss_one (ps_set (X:=X.suite a ((a,oe) :: pn)) hN hj hy (hse a oe C d pn ⟨hz,hd⟩) hsw hfn)).run pins s σ H D I q⟩
    refine ⟨(c,some i,ts) :: L, .as_ hi hln hc (fun a oe cls d pn xe hz hd=>Xq.pss_suiteQ (hsu a oe cls d pn hz hd)) hL,fun {Wx D C fs e1 S1 Z ρ H} p ρ' H' σ' d s1 g1 ev1 er=>?_⟩
    have p:Z22 X.K Z ρ H Wx D (match tab.lookup C with
      | some true=>(match m C fs with
        | some f=>if i < e1.length then .go (.nx ((e1.set j (some (.d f))).set i none)) S1 else .bad
        | none => .bad)
      | some false=>Y5j C fs e1 S1 l
      | none => .bad):=p
    cases z:tab.lookup C with
    | none=>rw [z] at p; exact p.elim
    | some b =>
      rw [z] at p
      refine ⟨b,ht C b z,fun hb1 a na=>?_,fun hb1=>?_⟩
      · subst hb1
        have p:Z22 X.K Z ρ H Wx D (match m C fs with
          | some f=>if i < e1.length then .go (.nx ((e1.set j (some (.d f))).set i none)) S1 else .bad
          | none => .bad):=p
        cases w:m C fs with
        | none=>rw [w] at p; exact p.elim
        | some f =>
          rw [w] at p
          have p:Z22 X.K Z ρ H Wx D (if i < e1.length then .go (.nx ((e1.set j (some (.d f))).set i none)) S1 else .bad):=p
          by_cases il0:i < e1.length
          case neg=>rw [if_neg il0] at p; exact p.elim
          rw [if_pos il0] at p
          have il:i < σ'.length:=by rw [← ev1.len]; exact il0
          have er2:Y4s X.K (Wn Z ρ') H' fs d:=by
            rcases er with er | ⟨dd,vs,h1,_,_,h4,h5⟩
            · exact .inl er
            · exact .inr ⟨dd,vs,h1,h4,h5⟩
          exact ⟨C,rfl,Wn Z ρ',fs,f,⟨fun b hb=>s1.thereW hb,by rw [List.getElem?_set_self il],er2,fun j v e=>nomatch e⟩,w,fun H2 v k2 av =>
            p ρ' H2 _ (s1.grow k2) (g1.trans (Go.grow k2)) (EvOk.away hij (ev1.mv (Z3e k2) (List.prefix_refl _)) (.d av))⟩
      · subst hb1
        exact hp p ρ' H' σ' d s1 g1 ev1 er
  | @on j y x z0 c np yp apos pos' cp kk tab hds l hj hy hc ht r hz hsw hfn ih =>
    obtain ⟨L,hL,hp⟩:=ih
    let ts:Addr→Value→Option Addr→TS:=fun a cls d=>RS X.K (fun _ _ _ _=>False) (W0 j (m_c (.str z0)))
    have hsu:∀ (a:Addr) (oe:Obj) (cls:Value) (d:Option Addr) (pn:List (Addr × Obj)),PSs (X.suite a ((a,oe) :: pn)) [.Assign [.Name y yp] (.Constant (.str z0) kk cp) apos] (ts a cls d):=fun a oe cls d pn =>
      X0 (Q7 (X:=X.suite a ((a,oe) :: pn)) (Wx:=fun _ _ _ _=>False) hN hj hy (Y8 hz) hsw hfn)
    refine ⟨(c,none,ts) :: L, .on hc (fun a oe cls d pn xe _ _=>Xq.pss_suiteQ (hsu a oe cls d pn)) hL,fun {Wx D C fs e1 S1 Z ρ H} p ρ' H' σ' d s1 g1 ev1 er=>?_⟩
    have p:Z22 X.K Z ρ H Wx D (match tab.lookup C with
      | some true => .go (.nx (e1.set j (some (.d (.str z0))))) S1
      | some false=>Y5j C fs e1 S1 l
      | none => .bad):=p
    cases z:tab.lookup C with
    | none=>rw [z] at p; exact p.elim
    | some b =>
      rw [z] at p
      refine ⟨b,ht C b z,fun hb1 a na=>?_,fun hb1=>?_⟩
      · subst hb1
        have p2:Z22 X.K Z ρ' H' Wx D (.go (.nx (e1.set j (some (.d (.str z0))))) S1):=Z22.shift g1 s1 p
        exact ⟨Z,ρ',e1,S1,s1,ev1,p2⟩
      · subst hb1
        exact hp p ρ' H' σ' d s1 g1 ev1 er
theorem Y90 (h:Here X Wx k) (hs:X.stack=X.env :: X.outer) (hf:X.env.frame=some X.env.locals) (hN:X.N.Nodup)
    (hb:∀ (W:WX) (pn:List (Addr × Obj)) (xe:Value→Shared→Prop),Here (X.tr pn xe) W k→MPs (X.tr pn xe) W body mb) (hd:HdsD X (h0 :: hds) l) :
    MP X Wx (.Try body (h0 :: hds) [] [] pos) (Z9t mb l):=by
  obtain ⟨L,hL,hp⟩:=Y7p hN hd
  refine PS.of (Xq.ps_try_manyQ (tb:=fun W=>RS X.K W mb) hs hf hN h.tk (fun W pn xe tk po=>hb W pn xe (h.tr tk)) hL) fun D σ H ⟨Z,ρ,e,S,st,ev,p⟩=>?_
  refine ⟨Z,ρ,e,S,st,ev,?_⟩
  unfold Z9t at p
  cases q:mb e S with
  | bad=>rw [q] at p; exact p
  | go o S'=>rw [q] at p; cases o <;> exact p
  | err C fs e1 S1 =>
    rw [q] at p
    intro ρ' H' σ' d s1 g1 ev1 er
    exact hp p ρ' H' σ' d s1 g1 ev1 er
end
end Bv
namespace Bv
open PySem PySem.Spec L2
open PyProof.Rows hiding St
variable [HasW]
section
variable {α:Type}
end
section
variable {X:Cx} {Wx:WX} {pos apos cpos:Pos} {o i e f:Expr} {mo mi mx:M}
end
end Bv
namespace Bv
open PySem PySem.Spec L2
open PyProof.Rows hiding St
variable [HasW]
section
variable {X:Cx} {Wx:WX} {pos pos' apos cpos:Pos} {o i e f value tg:Expr} {mo mi mv m:M}
end
section
variable {X:Cx} {Wx:WX} {apos cpos tpos:Pos} {e tg:Expr} {m:M} {elts:List Expr} {kk:Nat}
end
end Bv
namespace Bv
open PySem PySem.Spec L2
open PyProof.Rows hiding St
variable [HasW]
section
variable {X:Cx} {Wx:WX} {pos:Pos} {tg iter kx vx c:Expr} {ifs:List Expr} {mi:MIt} {mt:MG Bool} {mk mv:M} {t:Tg} {vs:List Nat}
end
end Bv
namespace Bv
open PySem PySem.Spec L2
open PyProof.Rows hiding St
section
variable {X:Cx}
end
variable [HasW]
section
variable {X:Cx} {Wx:WX} {pos:Pos} {tg iter kx vx c:Expr} {ifs:List Expr} {mi:MIt} {mt:MG Bool} {mk mv:M} {t:Tg} {vs:List Nat}
end
end Bv
namespace Bv
open PySem PySem.Spec L2
open PyProof.Rows hiding St
variable [HasW]
end Bv
namespace Bv
open PySem PySem.Spec L2
open PyProof.Rows hiding St
variable [HasW]
section
variable {t t1:Tg} {l:Lk} {mt mt1:MG Bool} {mi1:MIt} {me:M} {e:Ev} {vs1:List Nat}
end
section
variable {X:Cx} {Wx:WX} {pos:Pos} {tg iter tg1 iter1 elt c:Expr} {ifs ifs1:List Expr} {mi mi1:MIt} {mt mt1:MG Bool} {me:M} {t t1:Tg} {vs vs1:List Nat}
end
end Bv
namespace Bv
open PySem PySem.Spec L2
open PyProof.Rows hiding St
variable [HasW]
section
variable {K:PySem.W.Frag}
end
section
variable {X:Cx} {Wx:WX} {pos apos:Pos} {o e:Expr} {mo m:M}
end
end Bv
namespace Bv
open PySem PySem.Spec L2
open PyProof.Rows hiding St
variable [HasW]
section
variable {K:PySem.W.Frag}
end
section
variable {X:Cx} {Wx:WX} {pos p:Pos} {x:Str} {e:Expr} {es:List Expr} {ms:MG (List Bv.X)}
end
end Bv
namespace Bv
open PySem PySem.Spec L2
open PyProof.Rows hiding St
variable [HasW]
def Y5y (S:Sto) (x:Bv.X):R Bv.X:=if U9 S x then (match (items S x).bind ds? with
  | some ds => .ok (.d (.lst ds.reverse)) S
  | none => .bad) else .bad
def Y57 (m:M):M:=fun e S=>(m e S).bind fun x S1=>Y5y S1 x
theorem AVs.rev {K:PySem.W.Frag} {W:Wd} {H:Hp} {ds:List D} {vs:List V} (h:AVs K W H ds vs):AVs K W H ds.reverse vs.reverse:=by
  induction ds generalizing vs with
  | nil=>cases h; exact .nil
  | cons d r ih =>
    cases h with
    | cons a t =>
      rw [List.reverse_cons,List.reverse_cons]
      exact (ih t).append (.cons a .nil)
section
variable {X:Cx} {Wx:WX} {pos p1 p2 p3:Pos} {o e:Expr} {mo m:M} {n:Nat}
theorem X1q (h:ME X Wx e m):ME X Wx (.Subscript e (.Slice none none (some (.UnaryOp .USub (.Constant (.int 1) n p1) p2)) p3) pos) (Y57 m):=PE.of (pe_revL h) fun σ H Q ⟨Z,ρ,e,S,st,ev,p⟩=>W3 (rel:=AX X.K) st ev p fun ρ1 H1 v x S1 s1 g1 ev1 a1 q1=>by
  have q1:W6 (AX X.K) X.K Z ρ1 H1 Wx σ Q (Y5y S1 x):=q1
  unfold Y5y at q1
  split at q1
  · rename_i hl
    cases q:(items S1 x).bind ds? with
    | none=>rw [q] at q1; exact q1.elim
    | some ds =>
      rw [q] at q1
      obtain ⟨ys,h1,h2⟩:=Option.bind_eq_some_iff.mp q
      obtain ⟨b,us,rfl,hq,hp⟩:=a1.itemsL s1 h1 hl
      exact ⟨b,us,rfl, .inl (.inl hq),fun l hl=>W6.ret q1 s1 (Z0f hl) (.d (Z75 (fun z hz=>s1.thereW hz) hl (AVs.rev (AXs.ds hp h2))))⟩
  · exact q1.elim
end
section
variable {X:Cx} {Wx:WX} {k j:Nat} {C f:Str} {fa:Addr} {fd:FuncData} {ps:List Str} {sp:Sp} {e:Expr} {pos:Pos} {g:List D→PR} {mo:M}
end
end Bv
namespace Lw
open PySem PySem.Spec L2 Bv
open PyProof.Rows hiding St
structure Facts (K:PySem.W.Frag) (mg:Str→Option Value):Prop where
  f_len:mg "len" = none
  f_min:mg "min" = none
  f_max:mg "max" = none
  f_range:mg "range" = none
  f_abs:mg "abs" = none
  f_int:mg "int" = none
  g__law_seed:mg "_law_seed" = some (.ref (He.ga K "_law_seed"))
  g__law_row_text:mg "_law_row_text" = some (.ref (He.ga K "_law_row_text"))
  f_list:mg "list" = none
  g__law_choose:mg "_law_choose" = some (.ref (He.ga K "_law_choose"))
  g__law_mixed:mg "_law_mixed" = some (.ref (He.ga K "_law_mixed"))
  g__law_marks:mg "_law_marks" = some (.ref (He.ga K "_law_marks"))
  g__law_one_of:mg "_law_one_of" = some (.ref (He.ga K "_law_one_of"))
  g__law_row:mg "_law_row" = some (.ref (He.ga K "_law_row"))
  g__law_tool:mg "_law_tool" = some (.ref (He.ga K "_law_tool"))
  g__law_tool_text:mg "_law_tool_text" = some (.ref (He.ga K "_law_tool_text"))
  catch_InvalidTool:Y2w K (.ref (He.ga K "InvalidTool")) [("InvalidRow",false),("InvalidTool",true),("InvalidText",false)]
  xf_word:∀ C ∈ (["InvalidRow", "InvalidTool"]:List Str),XfC K (He.ga K C)∧PySem.W.findIn K (.ref (He.ga K C)) "word" = some none
  g_InvalidTool:mg "InvalidTool" = some (.ref (He.ga K "InvalidTool"))
  catch_InvalidText:Y2w K (.ref (He.ga K "InvalidText")) [("InvalidRow",false),("InvalidTool",false),("InvalidText",true)]
  xf_at:∀ C ∈ (["InvalidText"]:List Str),XfC K (He.ga K C)∧PySem.W.findIn K (.ref (He.ga K C)) "at" = some none
  g_InvalidText:mg "InvalidText" = some (.ref (He.ga K "InvalidText"))
  v_HEADS:Z9w "HEADS" ["marks", "shown", "asked"] K=true
  g_HEADS:mg "HEADS" = some (.ref (He.ga K "HEADS"))
  f_enumerate:mg "enumerate" = none
  f_isinstance:mg "isinstance" = none
  is_str:IsT K (.type "str") (Z8v "str") [("Row",false),("Tool",false)]
  f_str:mg "str" = none
  v_BARRED:Z9w "BARRED" ["any", "same", "take", "keep", "to"] K=true
  g_BARRED:mg "BARRED" = some (.ref (He.ga K "BARRED"))
  i_MOST_LETTERS:∃ t,mg "MOST_LETTERS" = some (.int 5 t)
  s_LETTERS:∃ t,mg "LETTERS" = some (.str "abcdefghijklmnopqrstuvwxyz" t)
  f_all:mg "all" = none
  g_is_name:mg "is_name" = some (.ref (He.ga K "is_name"))
  g_names_in:mg "names_in" = some (.ref (He.ga K "names_in"))
  rs_InvalidText:X0t K [("InvalidRow",false),("InvalidTool",false),("InvalidText",true)]
  v_TAKINGS:Z9w "TAKINGS" ["keep", "take"] K=true
  g_TAKINGS:mg "TAKINGS" = some (.ref (He.ga K "TAKINGS"))
  catch_InvalidRow:Y2w K (.ref (He.ga K "InvalidRow")) [("InvalidRow",true),("InvalidTool",false),("InvalidText",false)]
  rs_InvalidRow:X0t K [("InvalidRow",true),("InvalidTool",false),("InvalidText",false)]
  v_HAPPENINGS:Z9w "HAPPENINGS" ["give", "carry", "drop", "back", "right", "wrong"] K=true
  g_HAPPENINGS:mg "HAPPENINGS" = some (.ref (He.ga K "HAPPENINGS"))
  g_is_word:mg "is_word" = some (.ref (He.ga K "is_word"))
  g_InvalidRow:mg "InvalidRow" = some (.ref (He.ga K "InvalidRow"))
  is_bool:IsT K (.type "bool") (Z8v "bool") [("Row",false),("Tool",false)]
  f_bool:mg "bool" = none
  at_Row_word:Z5x K ["Row"] "word"
  at_Row_old:Z5x K ["Row"] "old"
  at_Row_then:Z5x K ["Row"] "then"
  at_Row_take:Z5x K ["Row"] "take"
  M_Row:Mk K (He.ga K "Row") (He.ma K (He.ga K "Row") "__init__")
  g_Row:mg "Row" = some (.ref (He.ga K "Row"))
  cm_Row_read:ClsM K "Row" "read"
  iss_list_tuple:IsTs K [.type "list", .type "tuple"] (Y4o ["list", "tuple"]) [("Row",false),("Tool",false)]
  f_tuple:mg "tuple" = none
  g_is_sequence:mg "is_sequence" = some (.ref (He.ga K "is_sequence"))
  f_set:mg "set" = none
  g_are_unlike:mg "are_unlike" = some (.ref (He.ga K "are_unlike"))
  g_are_names:mg "are_names" = some (.ref (He.ga K "are_names"))
  is_Row:IsT K (.ref (He.ga K "Row")) Z8c [("Row",true),("Tool",false)]
  f_any:mg "any" = none
  at_Tool_marks:Z5x K ["Tool"] "marks"
  at_Tool_shown:Z5x K ["Tool"] "shown"
  at_Tool_asked:Z5x K ["Tool"] "asked"
  at_Tool_rows:Z5x K ["Tool"] "rows"
  at_Tool_blank:Z5x K ["Tool"] "blank"
  M_Tool:Mk K (He.ga K "Tool") (He.ma K (He.ga K "Tool") "__init__")
  g_Tool:mg "Tool" = some (.ref (He.ga K "Tool"))
  cm_Tool_read:ClsM K "Tool" "read"
  f_zip:mg "zip" = none
  str_Row:OwnStr K "Row" (He.ma K (He.ga K "Row") "__str__")
  str_Tool:OwnStr K "Tool" (He.ma K (He.ga K "Tool") "__str__")
  g__law_heard:mg "_law_heard" = some (.ref (He.ga K "_law_heard"))
  g__law_name:mg "_law_name" = some (.ref (He.ga K "_law_name"))
  g__law_is_row:mg "_law_is_row" = some (.ref (He.ga K "_law_is_row"))
  g__law_first_bad:mg "_law_first_bad" = some (.ref (He.ga K "_law_first_bad"))
  g__law_wrong:mg "_law_wrong" = some (.ref (He.ga K "_law_wrong"))
  g__law_due:mg "_law_due" = some (.ref (He.ga K "_law_due"))
  g_law:mg "law" = some (.ref (He.ga K "law"))
section
variable [HasW] {P:Program} {K:PySem.W.Frag} {mg:Str→Option Value} {base:Heap} {f:Addr} {fd:FuncData} {dl:List V} (Fx:Facts K mg)
def Z62:List Str:=["_law_script", "_law_k", "_law_cell", "_law_great"]
theorem Z3n:Z62.Nodup:=by decide +kernel
theorem Y2o:FnScope Z62 ["_law_script", "_law_k"] (defScope Z10):=⟨rfl,rfl,rfl,Z3n,rfl,by decide +kernel,by decide +kernel⟩
def Z11:MS:=Y4 (W0 2 (Y1 Z2f (Y1 Y0o (m_c (.int 7411)) (Z1 1)) (m_c (.int 37)))) (Y4 (Z0l (V6 (Y1 ltD (Z1 1) (Z8 Z0u (Z0 (Z1 0) (Z6))))) (W0 2 (Z8 (Z0r Z33) (Z0 (Q5 (Z1 0) (Z1 1)) (Z6)))) (Z0l (V6 (Y1 gtD (Z8 Z0u (Z0 (Z1 0) (Z6))) (m_c (.int 0)))) (W0 2 (Y1 Z2f (Z1 2) (Y1 Y0o (Y1 Y29 (Z8 Z3h (Z0 (Z8 (Z0r Z33) (Z0 (Q5 (Z1 0) (Y1 Y29 (Z8 Z3h (Z0 (Z1 1) (Z6))) (Z8 Z0u (Z0 (Z1 0) (Z6))))) (Z6))) (Z6))) (m_c (.int 2147483629))) (m_c (.int 50021))))) (W5))) (Y4 (W0 3 (Z26 (V6 (Y1 geD (Z1 2) (Y1 X3f (m_c (.int 10)) (m_c (.int 18))))) (Z1 2) (m_c (.int 0)))) (Z0t (V7 (Z0 (Z1 3) (Z0 (Y1 Z2f (Y1 Y29 (Z8 Z3h (Z0 (Y1 Z2f (Y1 Y0o (Y1 Y29 (Z8 Z3h (Z0 (Z1 2) (Z6))) (m_c (.int 2147483629))) (m_c (.int 48271))) (Y1 Y0o (m_c (.int 31013)) (Z1 1))) (Z6))) (m_c (.int 2147483629))) (m_c (.int 1))) (Z6)))))))
def g__law_seed:List X→Sto→R X:=Y78 4 Z11
include Fx in
theorem Y2e  (F:FunD K "_law_seed" "_law_seed" (defArgs Z10) (defBody Z10) (defScope Z10) dl [] f fd):FnG P HasW.w K mg base 1 f fd ["_law_script", "_law_k"] (spE K 2 g__law_seed):=fnR F Y2o fun cdv A outer s H E gu room=>by
  have h:Here (cxB P HasW.w K mg base Z62 "_law_seed" (defScope Z10) f cdv A outer s H E) (wxE E) 0:=Z0o gu room
  unfold Z11
  exact Y2 (Q7 (i:=2) Z3n rfl (by first | exact Or.inl rfl | exact Or.inr rfl) (Z3m h.add (Z3m h.mul (Y7) (Z4 1)) (Y7))) (Y2 (Z1u (Q9 h.lt (Z4 1) (Z0j Z25 Z29 rfl Fx.f_len (Z3 (Z4 0) (Y0)))) (X0 (Q7 (i:=2) Z3n rfl (by first | exact Or.inl rfl | exact Or.inr rfl) (Z0j call_abs X0w rfl Fx.f_abs (Z3 (Z0x (Z4 0) (Z4 1)) (Y0))))) (X0 (Z1u (Q9 h.gt (Z0j Z25 Z29 rfl Fx.f_len (Z3 (Z4 0) (Y0))) (Y7)) (X0 (Q7 (i:=2) Z3n rfl (by first | exact Or.inl rfl | exact Or.inr rfl) (Z3m h.add (Z4 2) (Z3m h.mul (Z3m h.mod (Z4i call_int1 Y0z rfl Fx.f_int (Z3 (Z0j call_abs X0w rfl Fx.f_abs (Z3 (Z0x (Z4 0) (Z3m h.mod (Z4i call_int1 Y0z rfl Fx.f_int (Z3 (Z4 1) (Y0))) (Z0j Z25 Z29 rfl Fx.f_len (Z3 (Z4 0) (Y0))))) (Y0))) (Y0))) (Y7)) (Y7))))) (U5)))) (Y2 (Q7 (i:=3) Z3n rfl (by first | exact Or.inl rfl | exact Or.inr rfl) (Y16 (Q9 h.ge (Z4 2) (Z3m h.pow (Y7) (Y7))) (Z4 2) (Y7))) (X0 (Z8o (Z70 (Z3 (Z4 3) (Z3 (Z3m h.add (Z3m h.mod (Z4i call_int1 Y0z rfl Fx.f_int (Z3 (Z3m h.add (Z3m h.mul (Z3m h.mod (Z4i call_int1 Y0z rfl Fx.f_int (Z3 (Z4 2) (Y0))) (Y7)) (Y7)) (Z3m h.mul (Y7) (Z4 1))) (Y0))) (Y7)) (Y7)) (Y0))))))))
def Z35:List Str:=["_law_row_here", "_law_words"]
theorem Z52:Z35.Nodup:=by decide +kernel
theorem Z8u:FnScope Z35 ["_law_row_here"] (defScope Z0m):=⟨rfl,rfl,rfl,Z52,rfl,by decide +kernel,by decide +kernel⟩
def Z37:MS:=Y4 (W0 1 (Y1 Z2f (W9 (Z0 (Q5 (Z1 0) (m_c (.int 0))) (Z0 (Q5 (Z1 0) (m_c (.int 1))) (Z6)))) (Z26 (V6 (Y1 eqD (Q5 (Z1 0) (m_c (.int 0))) (m_c (.str "give")))) (W9 (Z0 (Z26 (X5 (Q5 (Z1 0) (m_c (.int 3)))) (m_c (.str "take")) (m_c (.str "keep"))) (Z6))) (W9 (Z6))))) (X8 (Z1e Z1d (m_c (.str " ")) (Y1 Z2f (Z1 1) (W9 (Z0 (m_c (.str "to")) (Z0 (Q5 (Z1 0) (m_c (.int 2))) (Z6)))))))
def g__law_row_text:List D→PR:=Z6v 2 Z37
include Fx in
theorem Z8t  (F:FunD K "_law_row_text" "_law_row_text" (defArgs Z0m) (defBody Z0m) (defScope Z0m) dl [] f fd):FnG P HasW.w K mg base 1 f fd ["_law_row_here"] (spP K 1 g__law_row_text):=fnP F Z8u fun cdv A outer s H E gu room=>by
  have h:Here (cxB P HasW.w K mg base Z35 "_law_row_text" (defScope Z0m) f cdv A outer s H E) (wxE E) 0:=Z0o gu room
  unfold Z37
  exact Y2 (Q7 (i:=1) Z52 rfl (by first | exact Or.inl rfl | exact Or.inr rfl) (Z3m h.add (Z04 (Z3 (Z0x (Z4 0) (Y7)) (Z3 (Z0x (Z4 0) (Y7)) (Y0)))) (Y16 (Q9 h.eq (Z0x (Z4 0) (Y7)) (Y8)) (Z04 (Z3 (Y16 (Z0q (Z0x (Z4 0) (Y7))) (Y8) (Y8)) (Y0))) (Z04 (Y0))))) (X0 (Q0 (Z40 (Y8) (Z3m h.add (Z4 1) (Z04 (Z3 (Y8) (Z3 (Z0x (Z4 0) (Y7)) (Y0))))))))
def Z2r:List Str:=["_law_tool_here", "_law_lines", "_law_row_here"]
theorem Z2i:Z2r.Nodup:=by decide +kernel
theorem Z8a:FnScope Z2r ["_law_tool_here"] (defScope Q1):=⟨rfl,rfl,rfl,Z2i,rfl,by decide +kernel,by decide +kernel⟩
def Z3w:MS:=Y4 (W0 1 (W9 (Z0 (Z1e Z1d (m_c (.str " ")) (Y1 Z2f (W9 (Z0 (m_c (.str "marks")) (Z6))) (Q5 (Z1 0) (m_c (.int 0))))) (Z0 (Z1e Z1d (m_c (.str " ")) (Y1 Z2f (W9 (Z0 (m_c (.str "shown")) (Z6))) (Q5 (Z1 0) (m_c (.int 1))))) (Z0 (Z1e Z1d (m_c (.str " ")) (Y1 Z2f (W9 (Z0 (m_c (.str "asked")) (Z6))) (Q5 (Z1 0) (m_c (.int 2))))) (Z6)))))) (X8 (Z1e Z1d (m_c (.str "\n")) (Y1 Z2f (Z1 1) (Z2u (.nm 2) (Q8 (Q5 (Z1 0) (m_c (.int 3)))) (Z0h) (Z8 (X6 1 (X7 [] (callP g__law_row_text))) (Z0 (Z1 2) (Z6))) [2]))))
def g__law_tool_text:List D→PR:=Z6v 3 Z3w
include Fx in
theorem Z78 (K__law_row_text:Kept P HasW.w K mg base 1 (He.ga K "_law_row_text") (spP K 1 g__law_row_text)) (F:FunD K "_law_tool_text" "_law_tool_text" (defArgs Q1) (defBody Q1) (defScope Q1) dl [] f fd):FnG P HasW.w K mg base 2 f fd ["_law_tool_here"] (spP K 1 g__law_tool_text):=fnP F Z8a fun cdv A outer s H E gu room=>by
  have h:Here (cxB P HasW.w K mg base Z2r "_law_tool_text" (defScope Q1) f cdv A outer s H E) (wxE E) 1:=Z0o gu room
  unfold Z3w
  exact Y2 (Q7 (i:=1) Z2i rfl (by first | exact Or.inl rfl | exact Or.inr rfl) (Z04 (Z3 (Z40 (Y8) (Z3m h.add (Z04 (Z3 (Y8) (Y0))) (Z0x (Z4 0) (Y7)))) (Z3 (Z40 (Y8) (Z3m h.add (Z04 (Z3 (Y8) (Y0))) (Z0x (Z4 0) (Y7)))) (Z3 (Z40 (Y8) (Z3m h.add (Z04 (Z3 (Y8) (Y0))) (Z0x (Z4 0) (Y7)))) (Y0)))))) (X0 (Q0 (Z40 (Y8) (Z3m h.add (Z4 1) (Z6x (own:=[("_law_row_here",2)]) (t:=(.nm 2)) rfl Z2i (Z2k (Z0x (Z4 0) (Y7))) (blkOk_by (N:=Z2r) (sc:=defScope Q1) (by decide +kernel)) (by decide) (fun _ _ _ _ _=>U0 (i:=2) Z2i rfl (by first | exact Or.inl rfl | exact Or.inr rfl)) (fun _ _ _ _ _=>Z3c) (fun _ _ _ _ _=>V1 ((h.blk _ _ _ _ _).callP K__law_row_text (by decide)) rfl Fx.g__law_row_text K__law_row_text.kp (Z3 (Z4 2) (Y0))))))))
def Z5d:List Str:=["_law_box", "_law_many", "_law_raw", "_law_digit"]
theorem Z42:Z5d.Nodup:=by decide +kernel
theorem Z97:FnScope Z5d ["_law_box", "_law_many"] (defScope Z05):=⟨rfl,rfl,rfl,Z42,rfl,by decide +kernel,by decide +kernel⟩
def Z5k:MS:=Y4 (Z0l (V6 (Y1 gtD (Q5 (Z1 0) (m_c (.int 0))) (m_c (.int 0)))) (Y4 (W0 3 (Y1 Y29 (Z8 Z3h (Z0 (Q5 (Z1 0) (m_c (.int 0))) (Z6))) (Z1 1))) (Y4 (Z00 (Z1 0) (m_c (.int 0)) (Y1 Y5x (Q5 (Z1 0) (m_c (.int 0))) (Z1 1))) (Z0t (Z1 3)))) (W5)) (Y4 (W0 2 (Y1 Y29 (Z8 Z3h (Z0 (Y1 Z2f (Y1 Y0o (Q5 (Z1 0) (m_c (.int 1))) (m_c (.int 40014))) (m_c (.int 31))) (Z6))) (m_c (.int 2147483563)))) (Y4 (Z00 (Z1 0) (m_c (.int 1)) (Y1 Z2f (Y1 Y29 (Z8 Z3h (Z0 (Y1 Z2f (Y1 Y0o (Z1 2) (m_c (.int 40692))) (m_c (.int 2777))) (Z6))) (m_c (.int 2147483629))) (m_c (.int 1)))) (Z0t (Y1 Y29 (Z8 Z3h (Z0 (Y1 Y5x (Y1 Z2f (Y1 Y0o (Z1 2) (m_c (.int 2147483647))) (Q5 (Z1 0) (m_c (.int 1)))) (m_c (.int 8191))) (Z6))) (Z1 1)))))
def g__law_choose:List X→Sto→R X:=Y1f 4 Z5k
include Fx in
theorem Z93  (F:FunD K "_law_choose" "_law_choose" (defArgs Z05) (defBody Z05) (defScope Z05) dl [] f fd):FnG P HasW.w K mg base 1 f fd ["_law_box", "_law_many"] (spE K 2 g__law_choose):=fnE F Z97 fun cdv A outer s H E gu room=>by
  have h:Here (cxB P HasW.w K mg base Z5d "_law_choose" (defScope Z05) f cdv A outer s H E) (wxE E) 0:=Z0o gu room
  unfold Z5k
  exact Y2 (Z1u (Q9 h.gt (Z0x (Z4 0) (Y7)) (Y7)) (Y2 (Q7 (i:=3) Z42 rfl (by first | exact Or.inl rfl | exact Or.inr rfl) (Z3m h.mod (Z4i call_int1 Y0z rfl Fx.f_int (Z3 (Z0x (Z4 0) (Y7)) (Y0))) (Z4 1))) (Y2 (Y6c (Z4 0) (Y7) (Z3m h.fdiv (Z0x (Z4 0) (Y7)) (Z4 1))) (X0 (Z8o (Z4 3))))) (U5)) (Y2 (Q7 (i:=2) Z42 rfl (by first | exact Or.inl rfl | exact Or.inr rfl) (Z3m h.mod (Z4i call_int1 Y0z rfl Fx.f_int (Z3 (Z3m h.add (Z3m h.mul (Z0x (Z4 0) (Y7)) (Y7)) (Y7)) (Y0))) (Y7))) (Y2 (Y6c (Z4 0) (Y7) (Z3m h.add (Z3m h.mod (Z4i call_int1 Y0z rfl Fx.f_int (Z3 (Z3m h.add (Z3m h.mul (Z4 2) (Y7)) (Y7)) (Y0))) (Y7)) (Y7))) (X0 (Z8o (Z3m h.mod (Z4i call_int1 Y0z rfl Fx.f_int (Z3 (Z3m h.fdiv (Z3m h.add (Z3m h.mul (Z4 2) (Y7)) (Z0x (Z4 0) (Y7))) (Y7)) (Y0))) (Z4 1))))))
def Z57:List Str:=["_law_box", "_law_some", "_law_left", "_law_found", "_law_turn"]
theorem Z5r:Z57.Nodup:=by decide +kernel
theorem Y1k:FnScope Z57 ["_law_box", "_law_some"] (defScope Z1j):=⟨rfl,rfl,rfl,Z5r,rfl,by decide +kernel,by decide +kernel⟩
def Z8e:MS:=Y4 (Z0w 2 3 (Z0 (Z8 Y55 (Z0 (Z1 1) (Z6))) (Z0 (V7 (Z6)) (Z6)))) (Y4 (Z4p (.nm 4) (Z4g (Z0 (Z8 Z0u (Z0 (Z1 1) (Z6))) (Z6))) (V2 (Z2z U9 Z0z (Z1 3) (Z0 (Z2z U9 Z9i (Z1 2) (Z0 (Z8 (X6 2 (X7 [] g__law_choose)) (Z0 (Z1 0) (Z0 (Z8 Z0u (Z0 (Z1 2) (Z6))) (Z6)))) (Z6))) (Z6))))) (Z0t (Z1 3)))
def g__law_mixed:List X→Sto→R X:=Y1f 5 Z8e
include Fx in
theorem Y1c (K__law_choose:Kept P HasW.w K mg base 1 (He.ga K "_law_choose") (spE K 2 g__law_choose)) (F:FunD K "_law_mixed" "_law_mixed" (defArgs Z1j) (defBody Z1j) (defScope Z1j) dl [] f fd):FnG P HasW.w K mg base 2 f fd ["_law_box", "_law_some"] (spE K 2 g__law_mixed):=fnE F Y1k fun cdv A outer s H E gu room=>by
  have h:Here (cxB P HasW.w K mg base Z57 "_law_mixed" (defScope Z1j) f cdv A outer s H E) (wxE E) 1:=Z0o gu room
  unfold Z8e
  exact Y2 (Y4a rfl Z5r (i:=2) (j:=3) rfl rfl (by decide) rfl rfl (Z3 (Z4i call_list_of Y9e rfl Fx.f_list (Z3 (Z4 1) (Y0))) (Z3 (Z70 (Y0)) (Y0)))) (Y2 (Z7i Z7k rfl (Z9p rfl Fx.f_range (Z3 (Z0j Z25 Z29 rfl Fx.f_len (Z3 (Z4 1) (Y0))) (Y0))) (U0 (i:=4) Z5r rfl (by first | exact Or.inl rfl | exact Or.inr rfl)) (X0 (Z71 (Y27 PySem.F.slot_list_append PySem.F.type_list_append mt_append Z6s (Z4 3) (Z3 (Y27 PySem.F.slot_list_pop PySem.F.type_list_pop mt_popAt Y9f (Z4 2) (Z3 (V1 (h.callE K__law_choose (by decide)) rfl Fx.g__law_choose K__law_choose.kp (Z3 (Z4 0) (Z3 (Z0j Z25 Z29 rfl Fx.f_len (Z3 (Z4 2) (Y0))) (Y0)))) (Y0))) (Y0)))))) (X0 (Z8o (Z4 3))))
def Z56:List Str:=["_law_box", "_law_some"]
theorem Z7j:Z56.Nodup:=by decide +kernel
theorem Y1j:FnScope Z56 ["_law_box"] (defScope Z1i):=⟨rfl,rfl,rfl,Z7j,rfl,by decide +kernel,by decide +kernel⟩
def Z6a:MS:=Y4 (W0 1 (W9 (Z0 (m_c (.str "none")) (Z0 (m_c (.str "doubt")) (Z0 (m_c (.str "good")) (Z0 (m_c (.str "old")) (Z0 (m_c (.str "a")) (Z0 (m_c (.str "ab")) (Z0 (m_c (.str "bad")) (Z0 (m_c (.str "zzzzz")) (Z0 (m_c (.str "give")) (Z0 (m_c (.str "marks")) (Z0 (m_c (.str "shown")) (Z0 (m_c (.str "kept")) (Z6))))))))))))))) (Z0t (Y3 (Z8 (X6 2 (X7 [] g__law_mixed)) (Z0 (Z1 0) (Z0 (Z1 1) (Z6)))) (Z0s) (Y9 (Y1 Z2f (m_c (.int 2)) (Z8 (X6 2 (X7 [] g__law_choose)) (Z0 (Z1 0) (Z0 (m_c (.int 3)) (Z6))))))))
def g__law_marks:List X→Sto→R X:=Y1f 2 Z6a
include Fx in
theorem Y1b (K__law_mixed:Kept P HasW.w K mg base 2 (He.ga K "_law_mixed") (spE K 2 g__law_mixed)) (K__law_choose:Kept P HasW.w K mg base 1 (He.ga K "_law_choose") (spE K 2 g__law_choose)) (F:FunD K "_law_marks" "_law_marks" (defArgs Z1i) (defBody Z1i) (defScope Z1i) dl [] f fd):FnG P HasW.w K mg base 3 f fd ["_law_box"] (spE K 1 g__law_marks):=fnE F Y1j fun cdv A outer s H E gu room=>by
  have h:Here (cxB P HasW.w K mg base Z56 "_law_marks" (defScope Z1i) f cdv A outer s H E) (wxE E) 2:=Z0o gu room
  unfold Z6a
  exact Y2 (Q7 (i:=1) Z7j rfl (by first | exact Or.inl rfl | exact Or.inr rfl) (Z04 (Z3 (Y8) (Z3 (Y8) (Z3 (Y8) (Z3 (Y8) (Z3 (Y8) (Z3 (Y8) (Z3 (Y8) (Z3 (Y8) (Z3 (Y8) (Z3 (Y8) (Z3 (Y8) (Z3 (Y8) (Y0))))))))))))))) (X0 (Z8o (V9 (V1 (h.callE K__law_mixed (by decide)) rfl Fx.g__law_mixed K__law_mixed.kp (Z3 (Z4 0) (Z3 (Z4 1) (Y0)))) (Z0k) (Q6 (Z3m h.add (Y7) (V1 (h.callE K__law_choose (by decide)) rfl Fx.g__law_choose K__law_choose.kp (Z3 (Z4 0) (Z3 (Y7) (Y0)))))))))
def Z5g:List Str:=["_law_box", "_law_some"]
theorem Z91:Z5g.Nodup:=by decide +kernel
theorem Z99:FnScope Z5g ["_law_box", "_law_some"] (defScope Z07):=⟨rfl,rfl,rfl,Z91,rfl,by decide +kernel,by decide +kernel⟩
def Z5m:MS:=Z0t (Q5 (Z1 1) (Z8 (X6 2 (X7 [] g__law_choose)) (Z0 (Z1 0) (Z0 (Z8 Z0u (Z0 (Z1 1) (Z6))) (Z6)))))
def g__law_one_of:List X→Sto→R X:=Y1f 2 Z5m
include Fx in
theorem Z95 (K__law_choose:Kept P HasW.w K mg base 1 (He.ga K "_law_choose") (spE K 2 g__law_choose)) (F:FunD K "_law_one_of" "_law_one_of" (defArgs Z07) (defBody Z07) (defScope Z07) dl [] f fd):FnG P HasW.w K mg base 2 f fd ["_law_box", "_law_some"] (spE K 2 g__law_one_of):=fnE F Z99 fun cdv A outer s H E gu room=>by
  have h:Here (cxB P HasW.w K mg base Z5g "_law_one_of" (defScope Z07) f cdv A outer s H E) (wxE E) 1:=Z0o gu room
  unfold Z5m
  exact X0 (Z8o (Z0x (Z4 1) (V1 (h.callE K__law_choose (by decide)) rfl Fx.g__law_choose K__law_choose.kp (Z3 (Z4 0) (Z3 (Z0j Z25 Z29 rfl Fx.f_len (Z3 (Z4 1) (Y0))) (Y0))))))
def Z7r:List Str:=["_law_box", "_law_marks_here", "_law_word", "_law_old", "_law_take"]
theorem Z4l:Z7r.Nodup:=by decide +kernel
theorem Y3q:FnScope Z7r ["_law_box", "_law_marks_here"] (defScope Z2d):=⟨rfl,rfl,rfl,Z4l,rfl,by decide +kernel,by decide +kernel⟩
def Z6r:MS:=Y4 (W0 2 (Z8 (X6 2 (X7 [] g__law_one_of)) (Z0 (Z1 0) (Z0 (W9 (Z0 (m_c (.str "give")) (Z0 (m_c (.str "give")) (Z0 (m_c (.str "carry")) (Z0 (m_c (.str "carry")) (Z0 (m_c (.str "drop")) (Z0 (m_c (.str "back")) (Z0 (m_c (.str "right")) (Z0 (m_c (.str "wrong")) (Z6)))))))))) (Z6))))) (Y4 (W0 3 (Z8 (X6 2 (X7 [] g__law_one_of)) (Z0 (Z1 0) (Z0 (Y1 Z2f (Y3 (Z1 1) (Y9 (m_c (.int 1))) (Z0s)) (W9 (Z0 (m_c (.str "any")) (Z0 (m_c (.str "any")) (Z6))))) (Z6))))) (Y4 (Z0l (W7 (V6 (Y1 eqD (Z1 2) (m_c (.str "give")))) (V6 (Y1 eqD (Z8 (X6 2 (X7 [] g__law_choose)) (Z0 (Z1 0) (Z0 (m_c (.int 4)) (Z6)))) (m_c (.int 0))))) (W0 3 (Q5 (Z1 1) (m_c (.int 0)))) (W5)) (Y4 (W0 4 (Z3j (Y1 neD (Z1 2) (m_c (.str "give"))) (Y1 gtD (Z8 (X6 2 (X7 [] g__law_choose)) (Z0 (Z1 0) (Z0 (m_c (.int 4)) (Z6)))) (m_c (.int 0))))) (Z0t (U2 (Z0 (Z1 2) (Z0 (Z1 3) (Z0 (Z8 (X6 2 (X7 [] g__law_one_of)) (Z0 (Z1 0) (Z0 (Y1 Z2f (Z1 1) (W9 (Z0 (m_c (.str "same")) (Z6)))) (Z6)))) (Z0 (Z1 4) (Z6))))))))))
def g__law_row:List X→Sto→R X:=Y1f 5 Z6r
include Fx in
theorem Y3i (K__law_one_of:Kept P HasW.w K mg base 2 (He.ga K "_law_one_of") (spE K 2 g__law_one_of)) (K__law_choose:Kept P HasW.w K mg base 1 (He.ga K "_law_choose") (spE K 2 g__law_choose)) (F:FunD K "_law_row" "_law_row" (defArgs Z2d) (defBody Z2d) (defScope Z2d) dl [] f fd):FnG P HasW.w K mg base 3 f fd ["_law_box", "_law_marks_here"] (spE K 2 g__law_row):=fnE F Y3q fun cdv A outer s H E gu room=>by
  have h:Here (cxB P HasW.w K mg base Z7r "_law_row" (defScope Z2d) f cdv A outer s H E) (wxE E) 2:=Z0o gu room
  unfold Z6r
  exact Y2 (Q7 (i:=2) Z4l rfl (by first | exact Or.inl rfl | exact Or.inr rfl) (V1 (h.callE K__law_one_of (by decide)) rfl Fx.g__law_one_of K__law_one_of.kp (Z3 (Z4 0) (Z3 (Z04 (Z3 (Y8) (Z3 (Y8) (Z3 (Y8) (Z3 (Y8) (Z3 (Y8) (Z3 (Y8) (Z3 (Y8) (Z3 (Y8) (Y0)))))))))) (Y0))))) (Y2 (Q7 (i:=3) Z4l rfl (by first | exact Or.inl rfl | exact Or.inr rfl) (V1 (h.callE K__law_one_of (by decide)) rfl Fx.g__law_one_of K__law_one_of.kp (Z3 (Z4 0) (Z3 (Z3m h.add (V9 (Z4 1) (Q6 (Y7)) (Z0k)) (Z04 (Z3 (Y8) (Z3 (Y8) (Y0))))) (Y0))))) (Y2 (Z1u (Z72 (Z51 (Q9 h.eq (Z4 2) (Y8)) (Z4k (Q9 h.eq (V1 (h.callE K__law_choose (by decide)) rfl Fx.g__law_choose K__law_choose.kp (Z3 (Z4 0) (Z3 (Y7) (Y0)))) (Y7))))) (X0 (Q7 (i:=3) Z4l rfl (by first | exact Or.inl rfl | exact Or.inr rfl) (Z0x (Z4 1) (Y7)))) (U5)) (Y2 (Q7 (i:=4) Z4l rfl (by first | exact Or.inl rfl | exact Or.inr rfl) (Y9w (Z6w h.ne (Z4 2) (Y8)) (Z9n (Z6w h.gt (V1 (h.callE K__law_choose (by decide)) rfl Fx.g__law_choose K__law_choose.kp (Z3 (Z4 0) (Z3 (Y7) (Y0)))) (Y7))))) (X0 (Z8o (Z49 (Z3 (Z4 2) (Z3 (Z4 3) (Z3 (V1 (h.callE K__law_one_of (by decide)) rfl Fx.g__law_one_of K__law_one_of.kp (Z3 (Z4 0) (Z3 (Z3m h.add (Z4 1) (Z04 (Z3 (Y8) (Y0)))) (Y0)))) (Z3 (Z4 4) (Y0)))))))))))
def Z36:List Str:=["_law_box", "_law_most", "_law_marks_here", "_law_shown", "_law_asked", "_law_rows", "_law_turn", "_law_mark"]
theorem Z1g:Z36.Nodup:=by decide +kernel
theorem Y2p:FnScope Z36 ["_law_box", "_law_most"] (defScope Z08):=⟨rfl,rfl,rfl,Z1g,rfl,by decide +kernel,by decide +kernel⟩
def Z64:MS:=Y4 (W0 2 (Z8 (X6 1 (X7 [] g__law_marks)) (Z0 (Z1 0) (Z6)))) (Y4 (W0 3 (Z2u (.nm 7) (Q8 (Y3 (Z1 2) (Y9 (m_c (.int 1))) (Z0s))) (V6 (Y1 eqD (Z8 (X6 2 (X7 [] g__law_choose)) (Z0 (Z1 0) (Z0 (m_c (.int 2)) (Z6)))) (m_c (.int 0)))) (Z1 7) [7])) (Y4 (W0 4 (Z2u (.nm 7) (Q8 (Z1 2)) (V6 (Y1 eqD (Z8 (X6 2 (X7 [] g__law_choose)) (Z0 (Z1 0) (Z0 (m_c (.int 3)) (Z6)))) (m_c (.int 0)))) (Z1 7) [7])) (Y4 (W0 5 (V7 (Z6))) (Y4 (Z0l (V6 (Y1 gtD (Z8 (X6 2 (X7 [] g__law_choose)) (Z0 (Z1 0) (Z0 (m_c (.int 4)) (Z6)))) (m_c (.int 0)))) (Y4 (V2 (Z2z U9 Z0z (Z1 5) (Z0 (U2 (Z0 (m_c (.str "give")) (Z0 (m_c (.str "any")) (Z0 (Q5 (Z1 2) (Y26 (m_c (.int 1)))) (Z0 (m_c (.bl true)) (Z6)))))) (Z6)))) (V2 (Z2z U9 Z0z (Z1 5) (Z0 (U2 (Z0 (m_c (.str "carry")) (Z0 (m_c (.str "any")) (Z0 (Z8 (X6 2 (X7 [] g__law_one_of)) (Z0 (Z1 0) (Z0 (Y1 Z2f (Y3 (Z1 2) (Y9 (m_c (.int 1))) (Z0s)) (W9 (Z0 (m_c (.str "same")) (Z6)))) (Z6)))) (Z0 (m_c (.bl true)) (Z6)))))) (Z6))))) (W5)) (Y4 (Z4p (.nm 6) (Z4g (Z0 (Z8 (X6 2 (X7 [] g__law_choose)) (Z0 (Z1 0) (Z0 (Y1 Y84 (Z1 1) (m_c (.int 1))) (Z6)))) (Z6))) (W0 5 (Y1 Z2f (W9 (Z0 (Z8 (X6 2 (X7 [] g__law_row)) (Z0 (Z1 0) (Z0 (Z1 2) (Z6)))) (Z6))) (Z1 5)))) (Z0t (U2 (Z0 (Z1 2) (Z0 (Z1 3) (Z0 (Z1 4) (Z0 (Y3 (Z1 5) (Z0s) (Y9 (Z1 1))) (Z6))))))))))))
def g__law_tool:List X→Sto→R X:=Y1f 8 Z64
include Fx in
theorem Y2f (K__law_marks:Kept P HasW.w K mg base 3 (He.ga K "_law_marks") (spE K 1 g__law_marks)) (K__law_choose:Kept P HasW.w K mg base 1 (He.ga K "_law_choose") (spE K 2 g__law_choose)) (K__law_one_of:Kept P HasW.w K mg base 2 (He.ga K "_law_one_of") (spE K 2 g__law_one_of)) (K__law_row:Kept P HasW.w K mg base 3 (He.ga K "_law_row") (spE K 2 g__law_row)) (F:FunD K "_law_tool" "_law_tool" (defArgs Z08) (defBody Z08) (defScope Z08) dl [] f fd):FnG P HasW.w K mg base 4 f fd ["_law_box", "_law_most"] (spE K 2 g__law_tool):=fnE F Y2p fun cdv A outer s H E gu room=>by
  have h:Here (cxB P HasW.w K mg base Z36 "_law_tool" (defScope Z08) f cdv A outer s H E) (wxE E) 3:=Z0o gu room
  unfold Z64
  exact Y2 (Q7 (i:=2) Z1g rfl (by first | exact Or.inl rfl | exact Or.inr rfl) (V1 (h.callE K__law_marks (by decide)) rfl Fx.g__law_marks K__law_marks.kp (Z3 (Z4 0) (Y0)))) (Y2 (Z5q (i:=3) (own:=[("_law_mark",7)]) (t:=(.nm 7)) rfl Z1g rfl rfl rfl (Z2k (V9 (Z4 2) (Q6 (Y7)) (Z0k))) (blkOk_by (N:=Z36) (sc:=defScope Z08) (by decide +kernel)) (by decide) (fun _ _ _ _ _=>U0 (i:=7) Z1g rfl (by first | exact Or.inl rfl | exact Or.inr rfl)) (fun _ _ _ _ _=>Z41 (Q9 (h.blk _ _ _ _ _).eq (V1 ((h.blk _ _ _ _ _).callE K__law_choose (by decide)) rfl Fx.g__law_choose K__law_choose.kp (Z3 (Z4 0) (Z3 (Y7) (Y0)))) (Y7))) (fun _ _ _ _ _=>Z4 7)) (Y2 (Z5q (i:=4) (own:=[("_law_mark",7)]) (t:=(.nm 7)) rfl Z1g rfl rfl rfl (Z2k (Z4 2)) (blkOk_by (N:=Z36) (sc:=defScope Z08) (by decide +kernel)) (by decide) (fun _ _ _ _ _=>U0 (i:=7) Z1g rfl (by first | exact Or.inl rfl | exact Or.inr rfl)) (fun _ _ _ _ _=>Z41 (Q9 (h.blk _ _ _ _ _).eq (V1 ((h.blk _ _ _ _ _).callE K__law_choose (by decide)) rfl Fx.g__law_choose K__law_choose.kp (Z3 (Z4 0) (Z3 (Y7) (Y0)))) (Y7))) (fun _ _ _ _ _=>Z4 7)) (Y2 (Q7 (i:=5) Z1g rfl (by first | exact Or.inl rfl | exact Or.inr rfl) (Z70 (Y0))) (Y2 (Z1u (Q9 h.gt (V1 (h.callE K__law_choose (by decide)) rfl Fx.g__law_choose K__law_choose.kp (Z3 (Z4 0) (Z3 (Y7) (Y0)))) (Y7)) (Y2 (Z71 (Y27 PySem.F.slot_list_append PySem.F.type_list_append mt_append Z6s (Z4 5) (Z3 (Z49 (Z3 (Y8) (Z3 (Y8) (Z3 (Z0x (Z4 2) (Y8v (Y7))) (Z3 (Z9m) (Y0)))))) (Y0)))) (X0 (Z71 (Y27 PySem.F.slot_list_append PySem.F.type_list_append mt_append Z6s (Z4 5) (Z3 (Z49 (Z3 (Y8) (Z3 (Y8) (Z3 (V1 (h.callE K__law_one_of (by decide)) rfl Fx.g__law_one_of K__law_one_of.kp (Z3 (Z4 0) (Z3 (Z3m h.add (V9 (Z4 2) (Q6 (Y7)) (Z0k)) (Z04 (Z3 (Y8) (Y0)))) (Y0)))) (Z3 (Z9m) (Y0)))))) (Y0)))))) (U5)) (Y2 (Z7i Z7k rfl (Z9p rfl Fx.f_range (Z3 (V1 (h.callE K__law_choose (by decide)) rfl Fx.g__law_choose K__law_choose.kp (Z3 (Z4 0) (Z3 (Z3m h.sub (Z4 1) (Y7)) (Y0)))) (Y0))) (U0 (i:=6) Z1g rfl (by first | exact Or.inl rfl | exact Or.inr rfl)) (X0 (Q7 (i:=5) Z1g rfl (by first | exact Or.inl rfl | exact Or.inr rfl) (Z3m h.add (Z04 (Z3 (V1 (h.callE K__law_row (by decide)) rfl Fx.g__law_row K__law_row.kp (Z3 (Z4 0) (Z3 (Z4 2) (Y0)))) (Y0))) (Z4 5))))) (X0 (Z8o (Z49 (Z3 (Z4 2) (Z3 (Z4 3) (Z3 (Z4 4) (Z3 (V9 (Z4 5) (Z0k) (Q6 (Z4 1))) (Y0)))))))))))))
def Z69:List Str:=["value", "sign"]
theorem Z73:Z69.Nodup:=by decide +kernel
theorem Y45:FnScope Z69 ["value"] (defScope Z2j):=⟨rfl,rfl,rfl,Z73,rfl,by decide +kernel,by decide +kernel⟩
def Y1v:MS:=Y4 (Z0l (V8 (X9 (X5 (Z7f (Z8v "str") [("Row",false),("Tool",false)] (Z1 0)))) (V8 (V6 (Y1 inD (Z1 0) (m_c (.tup ((["any", "same", "take", "keep", "to"]:List Str).map D.str))))) (X9 (V6 (V0 leD leD (m_c (.int 1)) (Z8 Z0u (Z0 (Z1 0) (Z6))) (m_c (.int 5))))))) (X8 (m_c (.bl false))) (W5)) (X8 (Z8 (Z9x fun l=>l.all id) (Z0 (Z2u (.nm 1) (Q8 (Z1 0)) (Z0h) (Y1 inD (Z1 1) (m_c (.str "abcdefghijklmnopqrstuvwxyz"))) [1]) (Z6))))
def g_is_name:List D→PR:=Z6v 2 Y1v
include Fx in
theorem Y42  (F:FunD K "is_name" "is_name" (defArgs Z2j) (defBody Z2j) (defScope Z2j) dl [] f fd):FnG P HasW.w K mg base 1 f fd ["value"] (spP K 1 g_is_name):=fnP F Y45 fun cdv A outer s H E gu room=>by
  have h:Here (cxB P HasW.w K mg base Z69 "is_name" (defScope Z2j) f cdv A outer s H E) (wxE E) 0:=Z0o gu room
  unfold Y1v
  exact Y2 (Z1u (Z72 (Z54 (Z2l (Z0q (Y17 rfl Fx.f_isinstance (Z4 0) (X0p rfl Fx.f_str) Fx.is_str (.ty _)))) (Z54 (Q9 h.in_ (Z4 0) (Z9e rfl Fx.g_BARRED Fx.v_BARRED)) (Z3y (Z2l (Y61 h.le h.le (Y7) (Z0j Z25 Z29 rfl Fx.f_len (Z3 (Z4 0) (Y0))) (X07 rfl Fx.i_MOST_LETTERS))))))) (X0 (Q0 (Z9m))) (U5)) (X0 (Q0 (Z0j (cr_all rfl) Y2x rfl Fx.f_all (Z3 (Z6x (own:=[("sign",1)]) (t:=(.nm 1)) rfl Z73 (Z2k (Z4 0)) (blkOk_by (N:=Z69) (sc:=defScope Z2j) (by decide +kernel)) (by decide) (fun _ _ _ _ _=>U0 (i:=1) Z73 rfl (by first | exact Or.inl rfl | exact Or.inr rfl)) (fun _ _ _ _ _=>Z3c) (fun _ _ _ _ _=>Z6w (h.blk _ _ _ _ _).in_ (Z4 1) (X08 rfl Fx.s_LETTERS))) (Y0)))))
def Z6p:List Str:=["line", "head", "words", "one"]
theorem Z5s:Z6p.Nodup:=by decide +kernel
theorem Y3r:FnScope Z6p ["line", "head"] (defScope Z14):=⟨rfl,rfl,rfl,Z5s,rfl,by decide +kernel,by decide +kernel⟩
def Z7v:MS:=Y4 (W0 2 (Z1e Z1q (Z1 0) (m_c (.str " ")))) (Y4 (Z0l (V8 (V6 (Y1 neD (Q5 (Z1 2) (m_c (.int 0))) (Z1 1))) (X9 (X5 (Z8 (Z9x fun l=>l.all id) (Z0 (Z2u (.nm 3) (Q8 (Y3 (Z1 2) (Y9 (m_c (.int 1))) (Z0s))) (Z0h) (Z8 (X6 1 (X7 [] (callP g_is_name))) (Z0 (Z1 3) (Z6))) [3]) (Z6)))))) (X8 (m_c .non)) (W5)) (X8 (Z26 (W7 (V6 (Y1 eqD (Z1 1) (m_c (.str "marks")))) (V6 (Y1 eqD (Z8 Z0u (Z0 (Z1 2) (Z6))) (m_c (.int 1))))) (m_c .non) (Y3 (Z1 2) (Y9 (m_c (.int 1))) (Z0s)))))
def g_names_in:List D→PR:=Z6v 4 Z7v
include Fx in
theorem Y3j (K_is_name:Kept P HasW.w K mg base 1 (He.ga K "is_name") (spP K 1 g_is_name)) (F:FunD K "names_in" "names_in" (defArgs Z14) (defBody Z14) (defScope Z14) dl [] f fd):FnG P HasW.w K mg base 2 f fd ["line", "head"] (spP K 2 g_names_in):=fnP F Y3r fun cdv A outer s H E gu room=>by
  have h:Here (cxB P HasW.w K mg base Z6p "names_in" (defScope Z14) f cdv A outer s H E) (wxE E) 1:=Z0o gu room
  unfold Z7v
  exact Y2 (Q7 (i:=2) Z5s rfl (by first | exact Or.inl rfl | exact Or.inr rfl) (Z4t (Z4 0) (Y8))) (Y2 (Z1u (Z72 (Z54 (Q9 h.ne (Z0x (Z4 2) (Y7)) (Z4 1)) (Z3y (Z2l (Z0q (Z0j (cr_all rfl) Y2x rfl Fx.f_all (Z3 (Z6x (own:=[("one",3)]) (t:=(.nm 3)) rfl Z5s (Z2k (V9 (Z4 2) (Q6 (Y7)) (Z0k))) (blkOk_by (N:=Z6p) (sc:=defScope Z14) (by decide +kernel)) (by decide) (fun _ _ _ _ _=>U0 (i:=3) Z5s rfl (by first | exact Or.inl rfl | exact Or.inr rfl)) (fun _ _ _ _ _=>Z3c) (fun _ _ _ _ _=>V1 ((h.blk _ _ _ _ _).callP K_is_name (by decide)) rfl Fx.g_is_name K_is_name.kp (Z3 (Z4 3) (Y0)))) (Y0)))))))) (X0 (Q0 (Z6j))) (U5)) (X0 (Q0 (Y16 (Z72 (Z51 (Q9 h.eq (Z4 1) (Y8)) (Z4k (Q9 h.eq (Z0j Z25 Z29 rfl Fx.f_len (Z3 (Z4 2) (Y0))) (Y7))))) (Z6j) (V9 (Z4 2) (Q6 (Y7)) (Z0k))))))
def Z85:List Str:=["value", "words"]
theorem Y40:Z85.Nodup:=by decide +kernel
theorem Y46:FnScope Z85 ["value", "words"] (defScope Z21):=⟨rfl,rfl,rfl,Y40,rfl,by decide +kernel,by decide +kernel⟩
def Y1w:MS:=X8 (Z0i (Z7f (Z8v "str") [("Row",false),("Tool",false)] (Z1 0)) (Y1 inD (Z1 0) (Z1 1)))
def g_is_word:List D→PR:=Z6v 2 Y1w
include Fx in
theorem Y43  (F:FunD K "is_word" "is_word" (defArgs Z21) (defBody Z21) (defScope Z21) dl [] f fd):FnG P HasW.w K mg base 1 f fd ["value", "words"] (spP K 2 g_is_word):=fnP F Y46 fun cdv A outer s H E gu room=>by
  have h:Here (cxB P HasW.w K mg base Z85 "is_word" (defScope Z21) f cdv A outer s H E) (wxE E) 0:=Z0o gu room
  unfold Y1w
  exact X0 (Q0 (Y37 (Y17 rfl Fx.f_isinstance (Z4 0) (X0p rfl Fx.f_str) Fx.is_str (.ty _)) (Z9n (Z6w h.in_ (Z4 0) (Z4 1)))))
def Z7o:List Str:=["self", "word", "old", "then", "take"]
theorem Y3c:Z7o.Nodup:=by decide +kernel
theorem Y3m:FnScope Z7o ["self", "word", "old", "then", "take"] (defScope Z2a):=⟨rfl,rfl,rfl,Y3c,rfl,by decide +kernel,by decide +kernel⟩
def Z6q:MS:=Y4 (Z0l (X9 (X5 (Z8 (X6 2 (X7 [] (callP g_is_word))) (Z0 (Z1 1) (Z0 (m_c (.tup ((["give", "carry", "drop", "back", "right", "wrong"]:List Str).map D.str))) (Z6)))))) (Z0g "InvalidRow" "word" (Z0 (m_c (.str "word")) (Z6))) (W5)) (Y4 (Z0l (W7 (V6 (Y1 neD (Z1 2) (m_c (.str "any")))) (X9 (X5 (Z8 (X6 1 (X7 [] (callP g_is_name))) (Z0 (Z1 2) (Z6)))))) (Z0g "InvalidRow" "word" (Z0 (m_c (.str "old")) (Z6))) (W5)) (Y4 (Z0l (W7 (V6 (Y1 neD (Z1 3) (m_c (.str "same")))) (X9 (X5 (Z8 (X6 1 (X7 [] (callP g_is_name))) (Z0 (Z1 3) (Z6)))))) (Z0g "InvalidRow" "word" (Z0 (m_c (.str "then")) (Z6))) (W5)) (Y4 (Z0l (V8 (X9 (X5 (Z7f (Z8v "bool") [("Row",false),("Tool",false)] (Z1 4)))) (W7 (V6 (Y1 neD (Z1 1) (m_c (.str "give")))) (X9 (X5 (Z1 4))))) (Z0g "InvalidRow" "word" (Z0 (m_c (.str "take")) (Z6))) (W5)) (Y4 (Z0c ["Row"] "word" (Z1 0) (Z1 1)) (Y4 (Z0c ["Row"] "old" (Z1 0) (Z1 2)) (Y4 (Z0c ["Row"] "then" (Z1 0) (Z1 3)) (Z0c ["Row"] "take" (Z1 0) (Z1 4))))))))
def Z3a:List X→Sto→R X:=Y1f 5 Z6q
include Fx in
theorem Y3e (X_InvalidRow:Xe.ErrOk P K (He.ga K "InvalidRow") (Y4x "InvalidRow" K) "word") (K_is_word:Kept P HasW.w K mg base 1 (He.ga K "is_word") (spP K 2 g_is_word)) (K_is_name:Kept P HasW.w K mg base 1 (He.ga K "is_name") (spP K 1 g_is_name)) (F:FunD K "__init__" "Row.__init__" (defArgs Z2a) (defBody Z2a) (defScope Z2a) dl [] f fd):FnG P HasW.w K mg base 2 f fd ["self", "word", "old", "then", "take"] (spE K 5 Z3a):=fnE F Y3m fun cdv A outer s H E gu room=>by
  have h:Here (cxB P HasW.w K mg base Z7o "Row.__init__" (defScope Z2a) f cdv A outer s H E) (wxE E) 1:=Z0o gu room
  unfold Z6q
  exact Y2 (Z1u (Z2l (Z0q (V1 (h.callP K_is_word (by decide)) rfl Fx.g_is_word K_is_word.kp (Z3 (Z4 1) (Z3 (Z9e rfl Fx.g_HAPPENINGS Fx.v_HAPPENINGS) (Y0)))))) (X0 (Z19 rfl h X_InvalidRow Fx.g_InvalidRow rfl (Z3 (Y8) (Y0)))) (U5)) (Y2 (Z1u (Z72 (Z51 (Q9 h.ne (Z4 2) (Y8)) (Z4k (Z2l (Z0q (V1 (h.callP K_is_name (by decide)) rfl Fx.g_is_name K_is_name.kp (Z3 (Z4 2) (Y0)))))))) (X0 (Z19 rfl h X_InvalidRow Fx.g_InvalidRow rfl (Z3 (Y8) (Y0)))) (U5)) (Y2 (Z1u (Z72 (Z51 (Q9 h.ne (Z4 3) (Y8)) (Z4k (Z2l (Z0q (V1 (h.callP K_is_name (by decide)) rfl Fx.g_is_name K_is_name.kp (Z3 (Z4 3) (Y0)))))))) (X0 (Z19 rfl h X_InvalidRow Fx.g_InvalidRow rfl (Z3 (Y8) (Y0)))) (U5)) (Y2 (Z1u (Z72 (Z54 (Z2l (Z0q (Y17 rfl Fx.f_isinstance (Z4 4) (X0p rfl Fx.f_bool) Fx.is_bool (.ty _)))) (Z3y (Z72 (Z51 (Q9 h.ne (Z4 1) (Y8)) (Z4k (Z2l (Z0q (Z4 4))))))))) (X0 (Z19 rfl h X_InvalidRow Fx.g_InvalidRow rfl (Z3 (Y8) (Y0)))) (U5)) (Y2 (Z7h ["Row"] Fx.at_Row_word (Z4 0) (Z4 1)) (Y2 (Z7h ["Row"] Fx.at_Row_old (Z4 0) (Z4 2)) (Y2 (Z7h ["Row"] Fx.at_Row_then (Z4 0) (Z4 3)) (X0 (Z7h ["Row"] Fx.at_Row_take (Z4 0) (Z4 4)))))))))
def Z7p:List Str:=["cls", "text", "words", "take", "error"]
theorem Z3d:Z7p.Nodup:=by decide +kernel
theorem Y3n:FnScope Z7p ["cls", "text"] (defScope Z2b):=⟨rfl,rfl,rfl,Z3d,rfl,by decide +kernel,by decide +kernel⟩
def Z7s:MS:=Y4 (W0 2 (Z1e Z1q (Z1 1) (m_c (.str " ")))) (Y4 (W0 3 (m_c (.bl true))) (Y4 (Z0l (W7 (V6 (Y1 eqD (Q5 (Z1 2) (m_c (.int 0))) (m_c (.str "give")))) (W7 (V6 (Y1 eqD (Z8 Z0u (Z0 (Z1 2) (Z6))) (m_c (.int 5)))) (V6 (Y1 inD (Q5 (Z1 2) (m_c (.int 2))) (m_c (.tup ((["keep", "take"]:List Str).map D.str))))))) (Y4 (W0 3 (Y1 eqD (Q5 (Z1 2) (m_c (.int 2))) (m_c (.str "take")))) (W0 2 (W9 (W8 (Y3 (Z1 2) (Z0s) (Y9 (m_c (.int 2)))) (W8 (Y3 (Z1 2) (Y9 (m_c (.int 3))) (Z0s)) (Z6)))))) (Z0l (V6 (Y1 eqD (Q5 (Z1 2) (m_c (.int 0))) (m_c (.str "give")))) (Z0g "InvalidText" "at" (Z0 (m_c (.int 0)) (Z6))) (W5))) (Y4 (Z0l (V8 (V6 (Y1 neD (Z8 Z0u (Z0 (Z1 2) (Z6))) (m_c (.int 4)))) (V6 (Y1 neD (Q5 (Z1 2) (m_c (.int 2))) (m_c (.str "to"))))) (Z0g "InvalidText" "at" (Z0 (m_c (.int 0)) (Z6))) (W5)) (Z7m [("InvalidRow",true),("InvalidTool",false),("InvalidText",false)] (X8 (Z7z 0 "Row" (X6 4 (X7 [] (made "Row" mkF Z3a))) (Z0 (Q5 (Z1 2) (m_c (.int 0))) (Z0 (Q5 (Z1 2) (m_c (.int 1))) (Z0 (Q5 (Z1 2) (m_c (.int 3))) (Z0 (Z1 3) (Z6))))))) 4 "InvalidText" "at" (fun lv=>x_c (.int 0))))))
def Z18:List D→PR:=Z6v 5 Z7s
include Fx in
theorem Y3f (X_InvalidText:Xe.ErrOk P K (He.ga K "InvalidText") (Y4x "InvalidText" K) "at") (K_Row_init:Kept P HasW.w K mg base 2 (He.ma K (He.ga K "Row") "__init__") (spE K 5 Z3a)) (F:FunD K "read" "Row.read" (defArgs Z2b) (defBody Z2b) (defScope Z2b) dl [] f fd):FnG P HasW.w K mg base 4 f fd ["cls", "text"] (spP K 2 Z18):=fnP F Y3n fun cdv A outer s H E gu room=>by
  have h:Here (cxB P HasW.w K mg base Z7p "Row.read" (defScope Z2b) f cdv A outer s H E) (wxE E) 3:=Z0o gu room
  unfold Z7s
  exact Y2 (Q7 (i:=2) Z3d rfl (by first | exact Or.inl rfl | exact Or.inr rfl) (Z4t (Z4 1) (Y8))) (Y2 (Q7 (i:=3) Z3d rfl (by first | exact Or.inl rfl | exact Or.inr rfl) (Z9m)) (Y2 (Z1u (Z72 (Z51 (Q9 h.eq (Z0x (Z4 2) (Y7)) (Y8)) (Z51 (Q9 h.eq (Z0j Z25 Z29 rfl Fx.f_len (Z3 (Z4 2) (Y0))) (Y7)) (Z4k (Q9 h.in_ (Z0x (Z4 2) (Y7)) (Z9e rfl Fx.g_TAKINGS Fx.v_TAKINGS)))))) (Y2 (Q7 (i:=3) Z3d rfl (by first | exact Or.inl rfl | exact Or.inr rfl) (Z6w h.eq (Z0x (Z4 2) (Y7)) (Y8))) (X0 (Q7 (i:=2) Z3d rfl (by first | exact Or.inl rfl | exact Or.inr rfl) (Z04 (Z6i (V9 (Z4 2) (Z0k) (Q6 (Y7))) (Z6i (V9 (Z4 2) (Q6 (Y7)) (Z0k)) (Y0))))))) (X0 (Z1u (Q9 h.eq (Z0x (Z4 2) (Y7)) (Y8)) (X0 (Z19 rfl h X_InvalidText Fx.g_InvalidText rfl (Z3 (Y7) (Y0)))) (U5)))) (Y2 (Z1u (Z72 (Z54 (Q9 h.ne (Z0j Z25 Z29 rfl Fx.f_len (Z3 (Z4 2) (Y0))) (Y7)) (Z3y (Q9 h.ne (Z0x (Z4 2) (Y7)) (Y8))))) (X0 (Z19 rfl h X_InvalidText Fx.g_InvalidText rfl (Z3 (Y7) (Y0)))) (U5)) (X0 (Y6d h rfl rfl Z3d rfl rfl ⟨rfl,by decide, .inl Fx.g_InvalidRow⟩ Fx.catch_InvalidRow Fx.rs_InvalidRow.at Y4e (fun W pn xe h=>X0 (Q0 (Y38 0 (h.make X1s (n:=4) Fx.M_Row K_Row_init (by decide)) Fx.M_Row.kp (Z3 (Z0x (Z4 2) (Y7)) (Z3 (Z0x (Z4 2) (Y7)) (Z3 (Z0x (Z4 2) (Y7)) (Z3 (Z4 3) (Y0)))))))) X_InvalidText Fx.g_InvalidText rfl (fun lv=>X2e))))))
def Z5i:List Str:=["value"]
theorem Z92:Z5i.Nodup:=by decide +kernel
theorem Y0a:FnScope Z5i ["value"] (defScope Z09):=⟨rfl,rfl,rfl,Z92,rfl,by decide +kernel,by decide +kernel⟩
def Z7a:MS:=X8 (Z7f (Y4o ["list", "tuple"]) [("Row",false),("Tool",false)] (Z1 0))
def g_is_sequence:List D→PR:=Z6v 1 Z7a
include Fx in
theorem Z96  (F:FunD K "is_sequence" "is_sequence" (defArgs Z09) (defBody Z09) (defScope Z09) dl [] f fd):FnG P HasW.w K mg base 1 f fd ["value"] (spP K 1 g_is_sequence):=fnP F Y0a fun cdv A outer s H E gu room=>by
  have h:Here (cxB P HasW.w K mg base Z5i "is_sequence" (defScope Z09) f cdv A outer s H E) (wxE E) 0:=Z0o gu room
  unfold Z7a
  exact X0 (Q0 (Y9v rfl Fx.f_isinstance (Z4 0) (X0p rfl Fx.f_list) (X0p rfl Fx.f_tuple) Fx.iss_list_tuple (.ty _) (.ty _)))
def Z58:List Str:=["values"]
theorem Y08:Z58.Nodup:=by decide +kernel
theorem Y1m:FnScope Z58 ["values"] (defScope Z1m):=⟨rfl,rfl,rfl,Y08,rfl,by decide +kernel,by decide +kernel⟩
def Z3l:MS:=X8 (Y1 eqD (Z2h (Z1 0)) (Z8 Z0u (Z0 (Z1 0) (Z6))))
def g_are_unlike:List D→PR:=Z6v 1 Z3l
include Fx in
theorem Y1e  (F:FunD K "are_unlike" "are_unlike" (defArgs Z1m) (defBody Z1m) (defScope Z1m) dl [] f fd):FnG P HasW.w K mg base 1 f fd ["values"] (spP K 1 g_are_unlike):=fnP F Y1m fun cdv A outer s H E gu room=>by
  have h:Here (cxB P HasW.w K mg base Z58 "are_unlike" (defScope Z1m) f cdv A outer s H E) (wxE E) 0:=Z0o gu room
  unfold Z3l
  exact X0 (Q0 (Z6w h.eq (Z7g rfl rfl Fx.f_len rfl Fx.f_set (Z4 0)) (Z0j Z25 Z29 rfl Fx.f_len (Z3 (Z4 0) (Y0)))))
def Z5h:List Str:=["value", "one"]
theorem Z6l:Z5h.Nodup:=by decide +kernel
theorem Y2q:FnScope Z5h ["value"] (defScope Z1l):=⟨rfl,rfl,rfl,Z6l,rfl,by decide +kernel,by decide +kernel⟩
def Z38:MS:=Y4 (Z0l (V8 (X9 (X5 (Z8 (X6 1 (X7 [] (callP g_is_sequence))) (Z0 (Z1 0) (Z6))))) (X9 (X5 (Z8 (Z9x fun l=>l.all id) (Z0 (Z2u (.nm 1) (Q8 (Z1 0)) (Z0h) (Z8 (X6 1 (X7 [] (callP g_is_name))) (Z0 (Z1 1) (Z6))) [1]) (Z6)))))) (X8 (m_c (.bl false))) (W5)) (X8 (Z8 (X6 1 (X7 [] (callP g_are_unlike))) (Z0 (Z1 0) (Z6))))
def g_are_names:List D→PR:=Z6v 2 Z38
include Fx in
theorem Y2g (K_is_sequence:Kept P HasW.w K mg base 1 (He.ga K "is_sequence") (spP K 1 g_is_sequence)) (K_is_name:Kept P HasW.w K mg base 1 (He.ga K "is_name") (spP K 1 g_is_name)) (K_are_unlike:Kept P HasW.w K mg base 1 (He.ga K "are_unlike") (spP K 1 g_are_unlike)) (F:FunD K "are_names" "are_names" (defArgs Z1l) (defBody Z1l) (defScope Z1l) dl [] f fd):FnG P HasW.w K mg base 2 f fd ["value"] (spP K 1 g_are_names):=fnP F Y2q fun cdv A outer s H E gu room=>by
  have h:Here (cxB P HasW.w K mg base Z5h "are_names" (defScope Z1l) f cdv A outer s H E) (wxE E) 1:=Z0o gu room
  unfold Z38
  exact Y2 (Z1u (Z72 (Z54 (Z2l (Z0q (V1 (h.callP K_is_sequence (by decide)) rfl Fx.g_is_sequence K_is_sequence.kp (Z3 (Z4 0) (Y0))))) (Z3y (Z2l (Z0q (Z0j (cr_all rfl) Y2x rfl Fx.f_all (Z3 (Z6x (own:=[("one",1)]) (t:=(.nm 1)) rfl Z6l (Z2k (Z4 0)) (blkOk_by (N:=Z5h) (sc:=defScope Z1l) (by decide +kernel)) (by decide) (fun _ _ _ _ _=>U0 (i:=1) Z6l rfl (by first | exact Or.inl rfl | exact Or.inr rfl)) (fun _ _ _ _ _=>Z3c) (fun _ _ _ _ _=>V1 ((h.blk _ _ _ _ _).callP K_is_name (by decide)) rfl Fx.g_is_name K_is_name.kp (Z3 (Z4 1) (Y0)))) (Y0)))))))) (X0 (Q0 (Z9m))) (U5)) (X0 (Q0 (V1 (h.callP K_are_unlike (by decide)) rfl Fx.g_are_unlike K_are_unlike.kp (Z3 (Z4 0) (Y0)))))
def Z1o:List Str:=["self", "marks", "shown", "asked", "rows", "row", "one"]
theorem U7:Z1o.Nodup:=by decide +kernel
theorem Y2l:FnScope Z1o ["self", "marks", "shown", "asked", "rows"] (defScope U8):=⟨rfl,rfl,rfl,U7,rfl,by decide +kernel,by decide +kernel⟩
def Z2s:MS:=Y4 (Z0l (V8 (X9 (X5 (Z8 (X6 1 (X7 [] (callP g_are_names))) (Z0 (Z1 1) (Z6))))) (V6 (Y1 eqD (Z8 Z0u (Z0 (Z1 1) (Z6))) (m_c (.int 0))))) (Z0g "InvalidTool" "word" (Z0 (m_c (.str "marks")) (Z6))) (W5)) (Y4 (Z0l (V8 (X9 (X5 (Z8 (X6 1 (X7 [] (callP g_are_names))) (Z0 (Z1 2) (Z6))))) (X9 (X5 (Z8 (Z9x fun l=>l.all id) (Z0 (Z2u (.nm 6) (Q8 (Z1 2)) (Z0h) (Y1 inD (Z1 6) (Y3 (Z1 1) (Y9 (m_c (.int 1))) (Z0s))) [6]) (Z6)))))) (Z0g "InvalidTool" "word" (Z0 (m_c (.str "shown")) (Z6))) (W5)) (Y4 (Z0l (V8 (X9 (X5 (Z8 (X6 1 (X7 [] (callP g_are_names))) (Z0 (Z1 3) (Z6))))) (X9 (X5 (Z8 (Z9x fun l=>l.all id) (Z0 (Z2u (.nm 6) (Q8 (Z1 3)) (Z0h) (Y1 inD (Z1 6) (Z1 1)) [6]) (Z6)))))) (Z0g "InvalidTool" "word" (Z0 (m_c (.str "asked")) (Z6))) (W5)) (Y4 (Z0l (V8 (X9 (X5 (Z8 (X6 1 (X7 [] (callP g_is_sequence))) (Z0 (Z1 4) (Z6))))) (X9 (X5 (Z8 (Z9x fun l=>l.all id) (Z0 (Z2u (.nm 5) (Q8 (Z1 4)) (Z0h) (Z7f Z8c [("Row",true),("Tool",false)] (Z1 5)) [5]) (Z6)))))) (Z0g "InvalidTool" "word" (Z0 (m_c (.str "rows")) (Z6))) (W5)) (Y4 (Z0l (X9 (X5 (Z8 (Z9x fun l=>l.all id) (Z0 (Z2u (.nm 5) (Q8 (Z1 4)) (Z0h) (Z0i (Y1 inD (W2 ["Row"] "old" (Z1 5)) (U2 (Z0 (m_c (.str "any")) (W8 (Z1 1) (Z6))))) (Y1 inD (W2 ["Row"] "then" (Z1 5)) (U2 (Z0 (m_c (.str "same")) (W8 (Z1 1) (Z6)))))) [5]) (Z6))))) (Z0g "InvalidTool" "word" (Z0 (m_c (.str "mark")) (Z6))) (W5)) (Y4 (Z0l (X5 (Z8 (Z9x fun l=>l.any id) (Z0 (Z2u (.nm 5) (Q8 (Z1 4)) (Z0h) (Z0i (Y1 neD (W2 ["Row"] "word" (Z1 5)) (m_c (.str "give"))) (Y1 eqD (W2 ["Row"] "old" (Z1 5)) (Q5 (Z1 1) (m_c (.int 0))))) [5]) (Z6)))) (Z0g "InvalidTool" "word" (Z0 (m_c (.str "blank")) (Z6))) (W5)) (Y4 (Z0c ["Tool"] "marks" (Z1 0) (Z8 Y3t (Z0 (Z1 1) (Z6)))) (Y4 (Z0c ["Tool"] "shown" (Z1 0) (Z8 Y3t (Z0 (Z2u (.nm 6) (Q8 (Z1 1)) (V6 (Y1 inD (Z1 6) (Z1 2))) (Z1 6) [6]) (Z6)))) (Y4 (Z0c ["Tool"] "asked" (Z1 0) (Z8 Y3t (Z0 (Z2u (.nm 6) (Q8 (Z1 1)) (V6 (Y1 inD (Z1 6) (Z1 3))) (Z1 6) [6]) (Z6)))) (Y4 (Z0c ["Tool"] "rows" (Z1 0) (Z8 Y3t (Z0 (Z1 4) (Z6)))) (Z0c ["Tool"] "blank" (Z1 0) (Q5 (Z1 1) (m_c (.int 0)))))))))))))
def Z13:List X→Sto→R X:=Y1f 7 Z2s
include Fx in
theorem Y2b (X_InvalidTool:Xe.ErrOk P K (He.ga K "InvalidTool") (Y4x "InvalidTool" K) "word") (K_are_names:Kept P HasW.w K mg base 2 (He.ga K "are_names") (spP K 1 g_are_names)) (K_is_sequence:Kept P HasW.w K mg base 1 (He.ga K "is_sequence") (spP K 1 g_is_sequence)) (F:FunD K "__init__" "Tool.__init__" (defArgs U8) (defBody U8) (defScope U8) dl [] f fd):FnG P HasW.w K mg base 3 f fd ["self", "marks", "shown", "asked", "rows"] (spE K 5 Z13):=fnE F Y2l fun cdv A outer s H E gu room=>by
  have h:Here (cxB P HasW.w K mg base Z1o "Tool.__init__" (defScope U8) f cdv A outer s H E) (wxE E) 2:=Z0o gu room
  unfold Z2s
  exact Y2 (Z1u (Z72 (Z54 (Z2l (Z0q (V1 (h.callP K_are_names (by decide)) rfl Fx.g_are_names K_are_names.kp (Z3 (Z4 1) (Y0))))) (Z3y (Q9 h.eq (Z0j Z25 Z29 rfl Fx.f_len (Z3 (Z4 1) (Y0))) (Y7))))) (X0 (Z19 rfl h X_InvalidTool Fx.g_InvalidTool rfl (Z3 (Y8) (Y0)))) (U5)) (Y2 (Z1u (Z72 (Z54 (Z2l (Z0q (V1 (h.callP K_are_names (by decide)) rfl Fx.g_are_names K_are_names.kp (Z3 (Z4 2) (Y0))))) (Z3y (Z2l (Z0q (Z0j (cr_all rfl) Y2x rfl Fx.f_all (Z3 (Z6x (own:=[("one",6)]) (t:=(.nm 6)) rfl U7 (Z2k (Z4 2)) (blkOk_by (N:=Z1o) (sc:=defScope U8) (by decide +kernel)) (by decide) (fun _ _ _ _ _=>U0 (i:=6) U7 rfl (by first | exact Or.inl rfl | exact Or.inr rfl)) (fun _ _ _ _ _=>Z3c) (fun _ _ _ _ _=>Z6w (h.blk _ _ _ _ _).in_ (Z4 6) (V9 (Z4 1) (Q6 (Y7)) (Z0k)))) (Y0)))))))) (X0 (Z19 rfl h X_InvalidTool Fx.g_InvalidTool rfl (Z3 (Y8) (Y0)))) (U5)) (Y2 (Z1u (Z72 (Z54 (Z2l (Z0q (V1 (h.callP K_are_names (by decide)) rfl Fx.g_are_names K_are_names.kp (Z3 (Z4 3) (Y0))))) (Z3y (Z2l (Z0q (Z0j (cr_all rfl) Y2x rfl Fx.f_all (Z3 (Z6x (own:=[("one",6)]) (t:=(.nm 6)) rfl U7 (Z2k (Z4 3)) (blkOk_by (N:=Z1o) (sc:=defScope U8) (by decide +kernel)) (by decide) (fun _ _ _ _ _=>U0 (i:=6) U7 rfl (by first | exact Or.inl rfl | exact Or.inr rfl)) (fun _ _ _ _ _=>Z3c) (fun _ _ _ _ _=>Z6w (h.blk _ _ _ _ _).in_ (Z4 6) (Z4 1))) (Y0)))))))) (X0 (Z19 rfl h X_InvalidTool Fx.g_InvalidTool rfl (Z3 (Y8) (Y0)))) (U5)) (Y2 (Z1u (Z72 (Z54 (Z2l (Z0q (V1 (h.callP K_is_sequence (by decide)) rfl Fx.g_is_sequence K_is_sequence.kp (Z3 (Z4 4) (Y0))))) (Z3y (Z2l (Z0q (Z0j (cr_all rfl) Y2x rfl Fx.f_all (Z3 (Z6x (own:=[("row",5)]) (t:=(.nm 5)) rfl U7 (Z2k (Z4 4)) (blkOk_by (N:=Z1o) (sc:=defScope U8) (by decide +kernel)) (by decide) (fun _ _ _ _ _=>U0 (i:=5) U7 rfl (by first | exact Or.inl rfl | exact Or.inr rfl)) (fun _ _ _ _ _=>Z3c) (fun _ _ _ _ _=>Y17 rfl Fx.f_isinstance (Z4 5) (X3e rfl Fx.g_Row) Fx.is_Row (.own _))) (Y0)))))))) (X0 (Z19 rfl h X_InvalidTool Fx.g_InvalidTool rfl (Z3 (Y8) (Y0)))) (U5)) (Y2 (Z1u (Z2l (Z0q (Z0j (cr_all rfl) Y2x rfl Fx.f_all (Z3 (Z6x (own:=[("row",5)]) (t:=(.nm 5)) rfl U7 (Z2k (Z4 4)) (blkOk_by (N:=Z1o) (sc:=defScope U8) (by decide +kernel)) (by decide) (fun _ _ _ _ _=>U0 (i:=5) U7 rfl (by first | exact Or.inl rfl | exact Or.inr rfl)) (fun _ _ _ _ _=>Z3c) (fun _ _ _ _ _=>Y37 (Z6w (h.blk _ _ _ _ _).in_ (Z3b ["Row"] Fx.at_Row_old (Z4 5)) (Z49 (Z3 (Y8) (Z6i (Z4 1) (Y0))))) (Z9n (Z6w (h.blk _ _ _ _ _).in_ (Z3b ["Row"] Fx.at_Row_then (Z4 5)) (Z49 (Z3 (Y8) (Z6i (Z4 1) (Y0)))))))) (Y0))))) (X0 (Z19 rfl h X_InvalidTool Fx.g_InvalidTool rfl (Z3 (Y8) (Y0)))) (U5)) (Y2 (Z1u (Z0q (Z0j (cr_any rfl) X2y rfl Fx.f_any (Z3 (Z6x (own:=[("row",5)]) (t:=(.nm 5)) rfl U7 (Z2k (Z4 4)) (blkOk_by (N:=Z1o) (sc:=defScope U8) (by decide +kernel)) (by decide) (fun _ _ _ _ _=>U0 (i:=5) U7 rfl (by first | exact Or.inl rfl | exact Or.inr rfl)) (fun _ _ _ _ _=>Z3c) (fun _ _ _ _ _=>Y37 (Z6w (h.blk _ _ _ _ _).ne (Z3b ["Row"] Fx.at_Row_word (Z4 5)) (Y8)) (Z9n (Z6w (h.blk _ _ _ _ _).eq (Z3b ["Row"] Fx.at_Row_old (Z4 5)) (Z0x (Z4 1) (Y7)))))) (Y0)))) (X0 (Z19 rfl h X_InvalidTool Fx.g_InvalidTool rfl (Z3 (Y8) (Y0)))) (U5)) (Y2 (Z7h ["Tool"] Fx.at_Tool_marks (Z4 0) (Z4i call_tuple_of Y7f rfl Fx.f_tuple (Z3 (Z4 1) (Y0)))) (Y2 (Z7h ["Tool"] Fx.at_Tool_shown (Z4 0) (Z4i call_tuple_of Y7f rfl Fx.f_tuple (Z3 (Z6x (own:=[("one",6)]) (t:=(.nm 6)) rfl U7 (Z2k (Z4 1)) (blkOk_by (N:=Z1o) (sc:=defScope U8) (by decide +kernel)) (by decide) (fun _ _ _ _ _=>U0 (i:=6) U7 rfl (by first | exact Or.inl rfl | exact Or.inr rfl)) (fun _ _ _ _ _=>Z41 (Q9 (h.blk _ _ _ _ _).in_ (Z4 6) (Z4 2))) (fun _ _ _ _ _=>Z4 6)) (Y0)))) (Y2 (Z7h ["Tool"] Fx.at_Tool_asked (Z4 0) (Z4i call_tuple_of Y7f rfl Fx.f_tuple (Z3 (Z6x (own:=[("one",6)]) (t:=(.nm 6)) rfl U7 (Z2k (Z4 1)) (blkOk_by (N:=Z1o) (sc:=defScope U8) (by decide +kernel)) (by decide) (fun _ _ _ _ _=>U0 (i:=6) U7 rfl (by first | exact Or.inl rfl | exact Or.inr rfl)) (fun _ _ _ _ _=>Z41 (Q9 (h.blk _ _ _ _ _).in_ (Z4 6) (Z4 3))) (fun _ _ _ _ _=>Z4 6)) (Y0)))) (Y2 (Z7h ["Tool"] Fx.at_Tool_rows (Z4 0) (Z4i call_tuple_of Y7f rfl Fx.f_tuple (Z3 (Z4 4) (Y0)))) (X0 (Z7h ["Tool"] Fx.at_Tool_blank (Z4 0) (Z0x (Z4 1) (Y7)))))))))))))
def Z61:List Str:=["cls", "text", "lines", "told", "at", "head", "rows", "line", "names", "error"]
theorem Z1f:Z61.Nodup:=by decide +kernel
theorem Y2m:FnScope Z61 ["cls", "text"] (defScope Z1z):=⟨rfl,rfl,rfl,Z1f,rfl,by decide +kernel,by decide +kernel⟩
def Z63:MS:=Y4 (Z0w 2 3 (Z0 (Z1e Z1q (Z1 1) (m_c (.str "\n"))) (Z0 (V7 (Z6)) (Z6)))) (Y4 (Z4p (.tp [(.nm 4),(.nm 5)]) (Z8m (Z0 (m_c (.tup ((["marks", "shown", "asked"]:List Str).map D.str))) (Z6))) (Y4 (Z0l (V6 (Y1 geD (Z1 4) (Z8 Z0u (Z0 (Z1 2) (Z6))))) (Z0g "InvalidText" "at" (Z0 (Z1 4) (Z6))) (W5)) (Y4 (W0 8 (Z8 (X6 2 (X7 [] (callP g_names_in))) (Z0 (Q5 (Z1 2) (Z1 4)) (Z0 (Z1 5) (Z6))))) (Y4 (Z0l (V6 (Y1 isD (Z1 8) (m_c .non))) (Z0g "InvalidText" "at" (Z0 (Z1 4) (Z6))) (W5)) (V2 (Z2z U9 Z0z (Z1 3) (Z0 (Z1 8) (Z6)))))))) (Y4 (W0 6 (V7 (Z6))) (Y4 (Z4p (.tp [(.nm 4),(.nm 7)]) (Z8m (Z0 (Y3 (Z1 2) (Y9 (Z8 Z0u (Z0 (m_c (.tup ((["marks", "shown", "asked"]:List Str).map D.str))) (Z6)))) (Z0s)) (Z6))) (Z7m [("InvalidRow",false),("InvalidTool",false),("InvalidText",true)] (V2 (Z2z U9 Z0z (Z1 6) (Z0 (Z4z "Row" (X6 2 (X7 [] (callP Z18))) (m_c (.gl "Row")) (Z0 (Z1 7) (Z6))) (Z6)))) 9 "InvalidText" "at" (fun lv=>X3u Z2f (X0n lv 4) (X0l (x_c (.tup ((["marks", "shown", "asked"]:List Str).map D.str))))))) (X8 (Z7z 0 "Tool" (X6 4 (X7 [] (made "Tool" mkF Z13))) (Z0 (Q5 (Z1 3) (m_c (.int 0))) (Z0 (Q5 (Z1 3) (m_c (.int 1))) (Z0 (Q5 (Z1 3) (m_c (.int 2))) (Z0 (Z1 6) (Z6))))))))))
def Z2t:List D→PR:=Z6v 10 Z63
include Fx in
theorem Y2c (X_InvalidText:Xe.ErrOk P K (He.ga K "InvalidText") (Y4x "InvalidText" K) "at") (K_names_in:Kept P HasW.w K mg base 2 (He.ga K "names_in") (spP K 2 g_names_in)) (K_Row_read:Kept P HasW.w K mg base 4 (Y7i "Row" "read" K) (spP K 2 Z18)) (K_Tool_init:Kept P HasW.w K mg base 3 (He.ma K (He.ga K "Tool") "__init__") (spE K 5 Z13)) (F:FunD K "read" "Tool.read" (defArgs Z1z) (defBody Z1z) (defScope Z1z) dl [] f fd):FnG P HasW.w K mg base 5 f fd ["cls", "text"] (spP K 2 Z2t):=fnP F Y2m fun cdv A outer s H E gu room=>by
  have h:Here (cxB P HasW.w K mg base Z61 "Tool.read" (defScope Z1z) f cdv A outer s H E) (wxE E) 4:=Z0o gu room
  unfold Z63
  exact Y2 (Y4a rfl Z1f (i:=2) (j:=3) rfl rfl (by decide) rfl rfl (Z3 (Z4t (Z4 1) (Y8)) (Z3 (Z70 (Y0)) (Y0)))) (Y2 (Z7i Z7k rfl (Y28 rfl Fx.f_enumerate (Z3 (Z9e rfl Fx.g_HEADS Fx.v_HEADS) (Y0))) (Y39 rfl (Z24 (U0 (i:=4) Z1f rfl (by first | exact Or.inl rfl | exact Or.inr rfl)) (Z24 (U0 (i:=5) Z1f rfl (by first | exact Or.inl rfl | exact Or.inr rfl)) (Z9o)))) (Y2 (Z1u (Q9 h.ge (Z4 4) (Z0j Z25 Z29 rfl Fx.f_len (Z3 (Z4 2) (Y0)))) (X0 (Z19 rfl h X_InvalidText Fx.g_InvalidText rfl (Z3 (Z4 4) (Y0)))) (U5)) (Y2 (Q7 (i:=8) Z1f rfl (by first | exact Or.inl rfl | exact Or.inr rfl) (V1 (h.callP K_names_in (by decide)) rfl Fx.g_names_in K_names_in.kp (Z3 (Z0x (Z4 2) (Z4 4)) (Z3 (Z4 5) (Y0))))) (Y2 (Z1u (Q9 h.is_ (Z4 8) (Z6j)) (X0 (Z19 rfl h X_InvalidText Fx.g_InvalidText rfl (Z3 (Z4 4) (Y0)))) (U5)) (X0 (Z71 (Y27 PySem.F.slot_list_append PySem.F.type_list_append mt_append Z6s (Z4 3) (Z3 (Z4 8) (Y0))))))))) (Y2 (Q7 (i:=6) Z1f rfl (by first | exact Or.inl rfl | exact Or.inr rfl) (Z70 (Y0))) (Y2 (Z7i Z7k rfl (Y28 rfl Fx.f_enumerate (Z3 (V9 (Z4 2) (Q6 (Z0j Z25 Z29 rfl Fx.f_len (Z3 (Z9e rfl Fx.g_HEADS Fx.v_HEADS) (Y0)))) (Z0k)) (Y0))) (Y39 rfl (Z24 (U0 (i:=4) Z1f rfl (by first | exact Or.inl rfl | exact Or.inr rfl)) (Z24 (U0 (i:=7) Z1f rfl (by first | exact Or.inl rfl | exact Or.inr rfl)) (Z9o)))) (X0 (Y6d h rfl rfl Z1f rfl rfl ⟨rfl,by decide, .inl Fx.g_InvalidText⟩ Fx.catch_InvalidText Fx.rs_InvalidText.at Y4e (fun W pn xe h=>X0 (Z71 (Y27 PySem.F.slot_list_append PySem.F.type_list_append mt_append Z6s (Z4 6) (Z3 (X1o (h.callP K_Row_read (by decide)) Fx.cm_Row_read (Y8l rfl Fx.g_Row) (Z3 (Z4 7) (Y0))) (Y0))))) X_InvalidText Fx.g_InvalidText rfl (fun lv=>X3i (fun _ _ _=>Y6k) X1z (X2g (j:=4)) (X2f rfl Fx.f_len (X0a rfl Fx.g_HEADS Fx.v_HEADS)))))) (X0 (Q0 (Y38 0 (h.make X1s (n:=4) Fx.M_Tool K_Tool_init (by decide)) Fx.M_Tool.kp (Z3 (Z0x (Z4 3) (Y7)) (Z3 (Z0x (Z4 3) (Y7)) (Z3 (Z0x (Z4 3) (Y7)) (Z3 (Z4 6) (Y0)))))))))))
def Z84:List Str:=["self", "words"]
theorem Y0p:Z84.Nodup:=by decide +kernel
theorem Y44:FnScope Z84 ["self"] (defScope Z20):=⟨rfl,rfl,rfl,Y0p,rfl,by decide +kernel,by decide +kernel⟩
def Z87:MS:=Y4 (W0 1 (V7 (Z0 (W2 ["Row"] "word" (Z1 0)) (Z0 (W2 ["Row"] "old" (Z1 0)) (Z6))))) (Y4 (Z0l (V6 (Y1 eqD (W2 ["Row"] "word" (Z1 0)) (m_c (.str "give")))) (V2 (Z2z U9 Z0z (Z1 1) (Z0 (Q5 (m_c (.tup ((["keep", "take"]:List Str).map D.str))) (Z8 Z3h (Z0 (W2 ["Row"] "take" (Z1 0)) (Z6)))) (Z6)))) (W5)) (X8 (Z1e Z1d (m_c (.str " ")) (W9 (W8 (Z1 1) (Z0 (m_c (.str "to")) (Z0 (W2 ["Row"] "then" (Z1 0)) (Z6))))))))
def Z4e:List D→PR:=Z6v 2 Z87
include Fx in
theorem Y41  (F:FunD K "__str__" "Row.__str__" (defArgs Z20) (defBody Z20) (defScope Z20) dl [] f fd):FnG P HasW.w K mg base 1 f fd ["self"] (spP K 1 Z4e):=fnP F Y44 fun cdv A outer s H E gu room=>by
  have h:Here (cxB P HasW.w K mg base Z84 "Row.__str__" (defScope Z20) f cdv A outer s H E) (wxE E) 0:=Z0o gu room
  unfold Z87
  exact Y2 (Q7 (i:=1) Y0p rfl (by first | exact Or.inl rfl | exact Or.inr rfl) (Z70 (Z3 (Z3b ["Row"] Fx.at_Row_word (Z4 0)) (Z3 (Z3b ["Row"] Fx.at_Row_old (Z4 0)) (Y0))))) (Y2 (Z1u (Q9 h.eq (Z3b ["Row"] Fx.at_Row_word (Z4 0)) (Y8)) (X0 (Z71 (Y27 PySem.F.slot_list_append PySem.F.type_list_append mt_append Z6s (Z4 1) (Z3 (Z0x (Z9e rfl Fx.g_TAKINGS Fx.v_TAKINGS) (Z4i call_int1 Y0z rfl Fx.f_int (Z3 (Z3b ["Row"] Fx.at_Row_take (Z4 0)) (Y0)))) (Y0))))) (U5)) (X0 (Q0 (Z40 (Y8) (Z04 (Z6i (Z4 1) (Z3 (Y8) (Z3 (Z3b ["Row"] Fx.at_Row_then (Z4 0)) (Y0)))))))))
def Z44:List Str:=["self", "lists", "heads", "head", "names", "row"]
theorem Z2v:Z44.Nodup:=by decide +kernel
theorem Y3o:FnScope Z44 ["self"] (defScope Z1t):=⟨rfl,rfl,rfl,Z2v,rfl,by decide +kernel,by decide +kernel⟩
def Z7t:MS:=Y4 (W0 1 (W9 (Z0 (W2 ["Tool"] "marks" (Z1 0)) (Z0 (W2 ["Tool"] "shown" (Z1 0)) (Z0 (W2 ["Tool"] "asked" (Z1 0)) (Z6)))))) (Y4 (W0 2 (Z2u (.tp [(.nm 3),(.nm 4)]) (Y50 (Z0 (m_c (.tup ((["marks", "shown", "asked"]:List Str).map D.str))) (Z0 (Z1 1) (Z6)))) (Z0h) (Z1e Z1d (m_c (.str " ")) (W9 (Z0 (Z1 3) (W8 (Z1 4) (Z6))))) [3,4])) (X8 (Z1e Z1d (m_c (.str "\n")) (W9 (W8 (Z1 2) (W8 (Z2u (.nm 5) (Q8 (W2 ["Tool"] "rows" (Z1 0))) (Z0h) (Z8 (Z6z "Row" Z4e) (Z0 (Z1 5) (Z6))) [5]) (Z6)))))))
def Z2x:List D→PR:=Z6v 6 Z7t
include Fx in
theorem Y3g (K_Row_str:Kept P HasW.w K mg base 1 (He.ma K (He.ga K "Row") "__str__") (spP K 1 Z4e)) (F:FunD K "__str__" "Tool.__str__" (defArgs Z1t) (defBody Z1t) (defScope Z1t) dl [] f fd):FnG P HasW.w K mg base 4 f fd ["self"] (spP K 1 Z2x):=fnP F Y3o fun cdv A outer s H E gu room=>by
  have h:Here (cxB P HasW.w K mg base Z44 "Tool.__str__" (defScope Z1t) f cdv A outer s H E) (wxE E) 3:=Z0o gu room
  unfold Z7t
  exact Y2 (Q7 (i:=1) Z2v rfl (by first | exact Or.inl rfl | exact Or.inr rfl) (Z04 (Z3 (Z3b ["Tool"] Fx.at_Tool_marks (Z4 0)) (Z3 (Z3b ["Tool"] Fx.at_Tool_shown (Z4 0)) (Z3 (Z3b ["Tool"] Fx.at_Tool_asked (Z4 0)) (Y0)))))) (Y2 (Z5q (i:=2) (own:=[("head",3),("names",4)]) (t:=(.tp [(.nm 3),(.nm 4)])) rfl Z2v rfl rfl rfl (X1r rfl Fx.f_zip (Z3 (Z9e rfl Fx.g_HEADS Fx.v_HEADS) (Z3 (Z4 1) (Y0)))) (blkOk_by (N:=Z44) (sc:=defScope Z1t) (by decide +kernel)) (by decide) (fun _ _ _ _ _=>Y39 rfl (Z24 (U0 (i:=3) Z2v rfl (by first | exact Or.inl rfl | exact Or.inr rfl)) (Z24 (U0 (i:=4) Z2v rfl (by first | exact Or.inl rfl | exact Or.inr rfl)) (Z9o)))) (fun _ _ _ _ _=>Z3c) (fun _ _ _ _ _=>Z40 (Y8) (Z04 (Z3 (Z4 3) (Z6i (Z4 4) (Y0)))))) (X0 (Q0 (Z40 (Y8) (Z04 (Z6i (Z4 2) (Z6i (Z6x (own:=[("row",5)]) (t:=(.nm 5)) rfl Z2v (Z2k (Z3b ["Tool"] Fx.at_Tool_rows (Z4 0))) (blkOk_by (N:=Z44) (sc:=defScope Z1t) (by decide +kernel)) (by decide) (fun _ _ _ _ _=>U0 (i:=5) Z2v rfl (by first | exact Or.inl rfl | exact Or.inr rfl)) (fun _ _ _ _ _=>Z3c) (fun _ _ _ _ _=>(K_Row_str.strO Fx.str_Row (h.blk _ _ _ _ _) (by decide) rfl Fx.f_str (Z3 (Z4 5) (Y0))))) (Y0))))))))
def Z55:List Str:=["_law_text", "_law_found", "e"]
theorem Z30:Z55.Nodup:=by decide +kernel
theorem Y1i:FnScope Z55 ["_law_text"] (defScope Z1h):=⟨rfl,rfl,rfl,Z30,rfl,by decide +kernel,by decide +kernel⟩
def Z59:MS:=Y4 (W0 1 (m_c .non)) (Y4 (Z9t (W0 1 (Z8 (Z6z "Tool" Z2x) (Z0 (Z4z "Tool" (X6 2 (X7 [] (callP Z2t))) (m_c (.gl "Tool")) (Z0 (Z1 0) (Z6))) (Z6)))) [.as_ [("InvalidRow",false),("InvalidTool",false),("InvalidText",true)] 2 1 (Y8h (Y0u (x_c (.str "text")) (Y0u (Y68 ["InvalidText"] "at") (X0m)))), .as_ [("InvalidRow",false),("InvalidTool",true),("InvalidText",false)] 2 1 (Y8h (Y0u (x_c (.str "tool")) (Y0u (Y68 ["InvalidRow", "InvalidTool"] "word") (X0m))))]) (X8 (Z1 1)))
def g__law_heard:List D→PR:=Z6v 3 Z59
include Fx in
theorem Y1a (K_Tool_read:Kept P HasW.w K mg base 5 (Y7i "Tool" "read" K) (spP K 2 Z2t)) (K_Tool_str:Kept P HasW.w K mg base 4 (He.ma K (He.ga K "Tool") "__str__") (spP K 1 Z2x)) (F:FunD K "_law_heard" "_law_heard" (defArgs Z1h) (defBody Z1h) (defScope Z1h) dl [] f fd):FnG P HasW.w K mg base 7 f fd ["_law_text"] (spP K 1 g__law_heard):=fnP F Y1i fun cdv A outer s H E gu room=>by
  have h:Here (cxB P HasW.w K mg base Z55 "_law_heard" (defScope Z1h) f cdv A outer s H E) (wxE E) 6:=Z0o gu room
  unfold Z59
  exact Y2 (Q7 (i:=1) Z30 rfl (by first | exact Or.inl rfl | exact Or.inr rfl) (Z6j)) (Y2 (Y90 h rfl rfl Z30 (fun W pn xe h=>X0 (Q7 (i:=1) Z30 rfl (by first | exact Or.inl rfl | exact Or.inr rfl) ((K_Tool_str.strO Fx.str_Tool h (by decide) rfl Fx.f_str (Z3 (X1o (h.callP K_Tool_read (by decide)) Fx.cm_Tool_read (Y8l rfl Fx.g_Tool) (Z3 (Z4 0) (Y0))) (Y0)))))) (HdsD.as_ rfl rfl rfl (by first | exact Or.inl rfl | exact Or.inr rfl) (by decide) ⟨rfl,by decide, .inl Fx.g_InvalidText⟩ Fx.catch_InvalidText (Y82 (Y1h (Y81) (Y1h (Y80 (cs:=["InvalidText"]) Fx.xf_at) (Y8z)))) (HdsD.as_ rfl rfl rfl (by first | exact Or.inl rfl | exact Or.inr rfl) (by decide) ⟨rfl,by decide, .inl Fx.g_InvalidTool⟩ Fx.catch_InvalidTool (Y82 (Y1h (Y81) (Y1h (Y80 (cs:=["InvalidRow", "InvalidTool"]) Fx.xf_word) (Y8z)))) (HdsD.nil)))) (X0 (Q0 (Z4 1))))
def Z5f:List Str:=["_law_word", "_law_sign"]
theorem Z6k:Z5f.Nodup:=by decide +kernel
theorem Y2n:FnScope Z5f ["_law_word"] (defScope Z1k):=⟨rfl,rfl,rfl,Z6k,rfl,by decide +kernel,by decide +kernel⟩
def Z88:MS:=Y4 (Z0l (V8 (V6 (Y1 inD (Z1 0) (U2 (Z0 (m_c (.str "any")) (Z0 (m_c (.str "same")) (Z0 (m_c (.str "take")) (Z0 (m_c (.str "keep")) (Z0 (m_c (.str "to")) (Z6))))))))) (X9 (V6 (V0 ltD ltD (m_c (.int 0)) (Z8 Z0u (Z0 (Z1 0) (Z6))) (m_c (.int 6)))))) (X8 (m_c (.bl false))) (W5)) (X8 (Y1 eqD (Z2u (.nm 1) (Q8 (Z1 0)) (V6 (Y1 Z8s (Z1 1) (m_c (.str "abcdefghijklmnopqrstuvwxyz")))) (Z1 1) [1]) (W9 (Z6))))
def g__law_name:List D→PR:=Z6v 2 Z88
include Fx in
theorem Y2d  (F:FunD K "_law_name" "_law_name" (defArgs Z1k) (defBody Z1k) (defScope Z1k) dl [] f fd):FnG P HasW.w K mg base 1 f fd ["_law_word"] (spP K 1 g__law_name):=fnP F Y2n fun cdv A outer s H E gu room=>by
  have h:Here (cxB P HasW.w K mg base Z5f "_law_name" (defScope Z1k) f cdv A outer s H E) (wxE E) 0:=Z0o gu room
  unfold Z88
  exact Y2 (Z1u (Z72 (Z54 (Q9 h.in_ (Z4 0) (Z49 (Z3 (Y8) (Z3 (Y8) (Z3 (Y8) (Z3 (Y8) (Z3 (Y8) (Y0)))))))) (Z3y (Z2l (Y61 h.lt h.lt (Y7) (Z0j Z25 Z29 rfl Fx.f_len (Z3 (Z4 0) (Y0))) (Y7)))))) (X0 (Q0 (Z9m))) (U5)) (X0 (Q0 (Z6w h.eq (Z6x (own:=[("_law_sign",1)]) (t:=(.nm 1)) rfl Z6k (Z2k (Z4 0)) (blkOk_by (N:=Z5f) (sc:=defScope Z1k) (by decide +kernel)) (by decide) (fun _ _ _ _ _=>U0 (i:=1) Z6k rfl (by first | exact Or.inl rfl | exact Or.inr rfl)) (fun _ _ _ _ _=>Z41 (Q9 (h.blk _ _ _ _ _).nin (Z4 1) (Y8))) (fun _ _ _ _ _=>Z4 1)) (Z04 (Y0)))))
def Z5e:List Str:=["_law_text", "_law_words"]
theorem Z43:Z5e.Nodup:=by decide +kernel
theorem Z98:FnScope Z5e ["_law_text"] (defScope Z06):=⟨rfl,rfl,rfl,Z43,rfl,by decide +kernel,by decide +kernel⟩
def Z5l:MS:=Y4 (W0 1 (Z1e Z1q (Z1 0) (m_c (.str " ")))) (Y4 (Z0l (V6 (Y1 eqD (Q5 (Z1 1) (m_c (.int 0))) (m_c (.str "give")))) (Y4 (Z0l (V8 (V6 (Y1 neD (Z8 Z0u (Z0 (Z1 1) (Z6))) (m_c (.int 5)))) (V6 (Y1 Z8s (Q5 (Z1 1) (m_c (.int 2))) (U2 (Z0 (m_c (.str "take")) (Z0 (m_c (.str "keep")) (Z6))))))) (X8 (m_c (.bl false))) (W5)) (W0 1 (Y1 Z2f (Y3 (Z1 1) (Z0s) (Y9 (m_c (.int 2)))) (Y3 (Z1 1) (Y9 (m_c (.int 3))) (Z0s))))) (W5)) (Y4 (Z0l (V8 (V6 (Y1 neD (Z8 Z0u (Z0 (Z1 1) (Z6))) (m_c (.int 4)))) (V8 (V6 (Y1 Z8s (Q5 (Z1 1) (m_c (.int 0))) (U2 (Z0 (m_c (.str "give")) (Z0 (m_c (.str "carry")) (Z0 (m_c (.str "drop")) (Z0 (m_c (.str "back")) (Z0 (m_c (.str "right")) (Z0 (m_c (.str "wrong")) (Z6)))))))))) (V6 (Y1 neD (Q5 (Z1 1) (m_c (.int 2))) (m_c (.str "to")))))) (X8 (m_c (.bl false))) (W5)) (X8 (Z0i (Z3j (Z8 (X6 1 (X7 [] (callP g__law_name))) (Z0 (Q5 (Z1 1) (m_c (.int 1))) (Z6))) (Y1 eqD (Q5 (Z1 1) (m_c (.int 1))) (m_c (.str "any")))) (Z3j (Z8 (X6 1 (X7 [] (callP g__law_name))) (Z0 (Q5 (Z1 1) (m_c (.int 3))) (Z6))) (Y1 eqD (Q5 (Z1 1) (m_c (.int 3))) (m_c (.str "same"))))))))
def g__law_is_row:List D→PR:=Z6v 2 Z5l
include Fx in
theorem Z94 (K__law_name:Kept P HasW.w K mg base 1 (He.ga K "_law_name") (spP K 1 g__law_name)) (F:FunD K "_law_is_row" "_law_is_row" (defArgs Z06) (defBody Z06) (defScope Z06) dl [] f fd):FnG P HasW.w K mg base 2 f fd ["_law_text"] (spP K 1 g__law_is_row):=fnP F Z98 fun cdv A outer s H E gu room=>by
  have h:Here (cxB P HasW.w K mg base Z5e "_law_is_row" (defScope Z06) f cdv A outer s H E) (wxE E) 1:=Z0o gu room
  unfold Z5l
  exact Y2 (Q7 (i:=1) Z43 rfl (by first | exact Or.inl rfl | exact Or.inr rfl) (Z4t (Z4 0) (Y8))) (Y2 (Z1u (Q9 h.eq (Z0x (Z4 1) (Y7)) (Y8)) (Y2 (Z1u (Z72 (Z54 (Q9 h.ne (Z0j Z25 Z29 rfl Fx.f_len (Z3 (Z4 1) (Y0))) (Y7)) (Z3y (Q9 h.nin (Z0x (Z4 1) (Y7)) (Z49 (Z3 (Y8) (Z3 (Y8) (Y0)))))))) (X0 (Q0 (Z9m))) (U5)) (X0 (Q7 (i:=1) Z43 rfl (by first | exact Or.inl rfl | exact Or.inr rfl) (Z3m h.add (V9 (Z4 1) (Z0k) (Q6 (Y7))) (V9 (Z4 1) (Q6 (Y7)) (Z0k)))))) (U5)) (Y2 (Z1u (Z72 (Z54 (Q9 h.ne (Z0j Z25 Z29 rfl Fx.f_len (Z3 (Z4 1) (Y0))) (Y7)) (Z54 (Q9 h.nin (Z0x (Z4 1) (Y7)) (Z49 (Z3 (Y8) (Z3 (Y8) (Z3 (Y8) (Z3 (Y8) (Z3 (Y8) (Z3 (Y8) (Y0))))))))) (Z3y (Q9 h.ne (Z0x (Z4 1) (Y7)) (Y8)))))) (X0 (Q0 (Z9m))) (U5)) (X0 (Q0 (Y37 (Y9w (V1 (h.callP K__law_name (by decide)) rfl Fx.g__law_name K__law_name.kp (Z3 (Z0x (Z4 1) (Y7)) (Y0))) (Z9n (Z6w h.eq (Z0x (Z4 1) (Y7)) (Y8)))) (Z9n (Y9w (V1 (h.callP K__law_name (by decide)) rfl Fx.g__law_name K__law_name.kp (Z3 (Z0x (Z4 1) (Y7)) (Y0))) (Z9n (Z6w h.eq (Z0x (Z4 1) (Y7)) (Y8))))))))))
def Z16:List Str:=["_law_lines", "_law_at", "_law_head", "_law_bad", "_law_words", "_law_odd", "_law_word"]
theorem Z0d:Z16.Nodup:=by decide +kernel
theorem Z79:FnScope Z16 ["_law_lines"] (defScope U3):=⟨rfl,rfl,rfl,Z0d,rfl,by decide +kernel,by decide +kernel⟩
def Z3v:MS:=Y4 (Z4p (.tp [(.nm 1),(.nm 2)]) (Z8m (Z0 (U2 (Z0 (m_c (.str "marks")) (Z0 (m_c (.str "shown")) (Z0 (m_c (.str "asked")) (Z6))))) (Z6))) (Y4 (W0 4 (Z26 (V6 (Y1 ltD (Z1 1) (Z8 Z0u (Z0 (Z1 0) (Z6))))) (Z1e Z1q (Q5 (Z1 0) (Z1 1)) (m_c (.str " "))) (W9 (Z0 (m_c (.str "")) (Z6))))) (Y4 (W0 5 (Z2u (.nm 6) (Q8 (Y3 (Z1 4) (Y9 (m_c (.int 1))) (Z0s))) (X9 (X5 (Z8 (X6 1 (X7 [] (callP g__law_name))) (Z0 (Z1 6) (Z6))))) (Z1 6) [6])) (Y4 (Z0l (V8 (V6 (Y1 neD (Q5 (Z1 4) (m_c (.int 0))) (Z1 2))) (V6 (Y1 neD (Z1 5) (W9 (Z6))))) (X8 (Z1 1)) (W5)) (Z0l (W7 (V6 (Y1 eqD (Z1 1) (m_c (.int 0)))) (V6 (Y1 eqD (Z8 Z0u (Z0 (Z1 4) (Z6))) (m_c (.int 1))))) (X8 (m_c (.int 0))) (W5)))))) (Y4 (W0 3 (Z2u (.nm 1) (Y0m (Z0 (m_c (.int 3)) (Z0 (Z8 Z0u (Z0 (Z1 0) (Z6))) (Z6)))) (X9 (X5 (Z8 (X6 1 (X7 [] (callP g__law_is_row))) (Z0 (Q5 (Z1 0) (Z1 1)) (Z6))))) (Z1 1) [1])) (X8 (Z26 (V6 (Y1 neD (Z1 3) (W9 (Z6)))) (Q5 (Z1 3) (m_c (.int 0))) (m_c .non))))
def g__law_first_bad:List D→PR:=Z6v 7 Z3v
include Fx in
theorem Z77 (K__law_name:Kept P HasW.w K mg base 1 (He.ga K "_law_name") (spP K 1 g__law_name)) (K__law_is_row:Kept P HasW.w K mg base 2 (He.ga K "_law_is_row") (spP K 1 g__law_is_row)) (F:FunD K "_law_first_bad" "_law_first_bad" (defArgs U3) (defBody U3) (defScope U3) dl [] f fd):FnG P HasW.w K mg base 3 f fd ["_law_lines"] (spP K 1 g__law_first_bad):=fnP F Z79 fun cdv A outer s H E gu room=>by
  have h:Here (cxB P HasW.w K mg base Z16 "_law_first_bad" (defScope U3) f cdv A outer s H E) (wxE E) 2:=Z0o gu room
  unfold Z3v
  exact Y2 (Z7i Z7k rfl (Y28 rfl Fx.f_enumerate (Z3 (Z49 (Z3 (Y8) (Z3 (Y8) (Z3 (Y8) (Y0))))) (Y0))) (Y39 rfl (Z24 (U0 (i:=1) Z0d rfl (by first | exact Or.inl rfl | exact Or.inr rfl)) (Z24 (U0 (i:=2) Z0d rfl (by first | exact Or.inl rfl | exact Or.inr rfl)) (Z9o)))) (Y2 (Q7 (i:=4) Z0d rfl (by first | exact Or.inl rfl | exact Or.inr rfl) (Y16 (Q9 h.lt (Z4 1) (Z0j Z25 Z29 rfl Fx.f_len (Z3 (Z4 0) (Y0)))) (Z4t (Z0x (Z4 0) (Z4 1)) (Y8)) (Z04 (Z3 (Y8) (Y0))))) (Y2 (Z5q (i:=5) (own:=[("_law_word",6)]) (t:=(.nm 6)) rfl Z0d rfl rfl rfl (Z2k (V9 (Z4 4) (Q6 (Y7)) (Z0k))) (blkOk_by (N:=Z16) (sc:=defScope U3) (by decide +kernel)) (by decide) (fun _ _ _ _ _=>U0 (i:=6) Z0d rfl (by first | exact Or.inl rfl | exact Or.inr rfl)) (fun _ _ _ _ _=>Z41 (Z2l (Z0q (V1 ((h.blk _ _ _ _ _).callP K__law_name (by decide)) rfl Fx.g__law_name K__law_name.kp (Z3 (Z4 6) (Y0)))))) (fun _ _ _ _ _=>Z4 6)) (Y2 (Z1u (Z72 (Z54 (Q9 h.ne (Z0x (Z4 4) (Y7)) (Z4 2)) (Z3y (Q9 h.ne (Z4 5) (Z04 (Y0)))))) (X0 (Q0 (Z4 1))) (U5)) (X0 (Z1u (Z72 (Z51 (Q9 h.eq (Z4 1) (Y7)) (Z4k (Q9 h.eq (Z0j Z25 Z29 rfl Fx.f_len (Z3 (Z4 4) (Y0))) (Y7))))) (X0 (Q0 (Y7))) (U5))))))) (Y2 (Z5q (i:=3) (own:=[("_law_at",1)]) (t:=(.nm 1)) rfl Z0d rfl rfl rfl (Y9x rfl Fx.f_range (Z3 (Y7) (Z3 (Z0j Z25 Z29 rfl Fx.f_len (Z3 (Z4 0) (Y0))) (Y0)))) (blkOk_by (N:=Z16) (sc:=defScope U3) (by decide +kernel)) (by decide) (fun _ _ _ _ _=>U0 (i:=1) Z0d rfl (by first | exact Or.inl rfl | exact Or.inr rfl)) (fun _ _ _ _ _=>Z41 (Z2l (Z0q (V1 ((h.blk _ _ _ _ _).callP K__law_is_row (by decide)) rfl Fx.g__law_is_row K__law_is_row.kp (Z3 (Z0x (Z4 0) (Z4 1)) (Y0)))))) (fun _ _ _ _ _=>Z4 1)) (X0 (Q0 (Y16 (Q9 h.ne (Z4 3) (Z04 (Y0))) (Z0x (Z4 3) (Y7)) (Z6j)))))
def Z1y:List Str:=["_law_lines", "_law_marks_here", "_law_shown", "_law_asked", "_law_rows", "_law_row_here", "_law_about", "_law_line", "_law_word"]
theorem U1:Z1y.Nodup:=by decide +kernel
theorem Y1l:FnScope Z1y ["_law_lines"] (defScope Q3):=⟨rfl,rfl,rfl,U1,rfl,by decide +kernel,by decide +kernel⟩
def Z6b:MS:=Y4 (Y79 [(.nm 1),(.nm 2),(.nm 3)] (Z2u (.nm 7) (Q8 (Y3 (Z1 0) (Z0s) (Y9 (m_c (.int 3))))) (Z0h) (Y3 (Z1e Z1q (Z1 7) (m_c (.str " "))) (Y9 (m_c (.int 1))) (Z0s)) [7])) (Y4 (Z0l (V6 (Y1 ltD (Z2h (Z1 1)) (Z8 Z0u (Z0 (Z1 1) (Z6))))) (X8 (m_c (.str "marks"))) (W5)) (Y4 (Z0l (V8 (V6 (Y1 ltD (Z2h (Z1 2)) (Z8 Z0u (Z0 (Z1 2) (Z6))))) (V6 (Y1 neD (Z2u (.nm 8) (Q8 (Z1 2)) (V6 (Y1 Z8s (Z1 8) (Y3 (Z1 1) (Y9 (m_c (.int 1))) (Z0s)))) (Z1 8) [8]) (W9 (Z6))))) (X8 (m_c (.str "shown"))) (W5)) (Y4 (Z0l (V8 (V6 (Y1 ltD (Z2h (Z1 3)) (Z8 Z0u (Z0 (Z1 3) (Z6))))) (V6 (Y1 neD (Z2u (.nm 8) (Q8 (Z1 3)) (V6 (Y1 Z8s (Z1 8) (Z1 1))) (Z1 8) [8]) (W9 (Z6))))) (X8 (m_c (.str "asked"))) (W5)) (Y4 (W0 4 (Z2u (.nm 7) (Q8 (Y3 (Z1 0) (Y9 (m_c (.int 3))) (Z0s))) (Z0h) (Z1e Z1q (Z1 7) (m_c (.str " "))) [7])) (Y4 (Z4p (.nm 5) (Q8 (Z1 4)) (Z0l (V8 (V6 (Y1 Z8s (Q5 (Z1 5) (m_c (.int 1))) (Y1 Z2f (W9 (Z0 (m_c (.str "any")) (Z6))) (Z1 1)))) (V6 (Y1 Z8s (Q5 (Z1 5) (Y26 (m_c (.int 1)))) (Y1 Z2f (W9 (Z0 (m_c (.str "same")) (Z6))) (Z1 1))))) (X8 (m_c (.str "mark"))) (W5))) (Y4 (W0 6 (Z2u (.nm 5) (Q8 (Z1 4)) (W7 (V6 (Y1 neD (Q5 (Z1 5) (m_c (.int 0))) (m_c (.str "give")))) (V6 (Y1 eqD (Q5 (Z1 5) (m_c (.int 1))) (Q5 (Z1 1) (m_c (.int 0)))))) (Z1 5) [5])) (X8 (Z26 (V6 (Y1 neD (Z1 6) (W9 (Z6)))) (m_c (.str "blank")) (m_c .non)))))))))
def g__law_wrong:List D→PR:=Z6v 9 Z6b
include Fx in
theorem Y1d  (F:FunD K "_law_wrong" "_law_wrong" (defArgs Q3) (defBody Q3) (defScope Q3) dl [] f fd):FnG P HasW.w K mg base 1 f fd ["_law_lines"] (spP K 1 g__law_wrong):=fnP F Y1l fun cdv A outer s H E gu room=>by
  have h:Here (cxB P HasW.w K mg base Z1y "_law_wrong" (defScope Q3) f cdv A outer s H E) (wxE E) 0:=Z0o gu room
  unfold Z6b
  exact Y2 (X1t rfl (Z6x (own:=[("_law_line",7)]) (t:=(.nm 7)) rfl U1 (Z2k (V9 (Z4 0) (Z0k) (Q6 (Y7)))) (blkOk_by (N:=Z1y) (sc:=defScope Q3) (by decide +kernel)) (by decide) (fun _ _ _ _ _=>U0 (i:=7) U1 rfl (by first | exact Or.inl rfl | exact Or.inr rfl)) (fun _ _ _ _ _=>Z3c) (fun _ _ _ _ _=>V9 (Z4t (Z4 7) (Y8)) (Q6 (Y7)) (Z0k))) (Z24 (U0 (i:=1) U1 rfl (by first | exact Or.inl rfl | exact Or.inr rfl)) (Z24 (U0 (i:=2) U1 rfl (by first | exact Or.inl rfl | exact Or.inr rfl)) (Z24 (U0 (i:=3) U1 rfl (by first | exact Or.inl rfl | exact Or.inr rfl)) (Z9o))))) (Y2 (Z1u (Q9 h.lt (Z7g rfl rfl Fx.f_len rfl Fx.f_set (Z4 1)) (Z0j Z25 Z29 rfl Fx.f_len (Z3 (Z4 1) (Y0)))) (X0 (Q0 (Y8))) (U5)) (Y2 (Z1u (Z72 (Z54 (Q9 h.lt (Z7g rfl rfl Fx.f_len rfl Fx.f_set (Z4 2)) (Z0j Z25 Z29 rfl Fx.f_len (Z3 (Z4 2) (Y0)))) (Z3y (Q9 h.ne (Z6x (own:=[("_law_word",8)]) (t:=(.nm 8)) rfl U1 (Z2k (Z4 2)) (blkOk_by (N:=Z1y) (sc:=defScope Q3) (by decide +kernel)) (by decide) (fun _ _ _ _ _=>U0 (i:=8) U1 rfl (by first | exact Or.inl rfl | exact Or.inr rfl)) (fun _ _ _ _ _=>Z41 (Q9 (h.blk _ _ _ _ _).nin (Z4 8) (V9 (Z4 1) (Q6 (Y7)) (Z0k)))) (fun _ _ _ _ _=>Z4 8)) (Z04 (Y0)))))) (X0 (Q0 (Y8))) (U5)) (Y2 (Z1u (Z72 (Z54 (Q9 h.lt (Z7g rfl rfl Fx.f_len rfl Fx.f_set (Z4 3)) (Z0j Z25 Z29 rfl Fx.f_len (Z3 (Z4 3) (Y0)))) (Z3y (Q9 h.ne (Z6x (own:=[("_law_word",8)]) (t:=(.nm 8)) rfl U1 (Z2k (Z4 3)) (blkOk_by (N:=Z1y) (sc:=defScope Q3) (by decide +kernel)) (by decide) (fun _ _ _ _ _=>U0 (i:=8) U1 rfl (by first | exact Or.inl rfl | exact Or.inr rfl)) (fun _ _ _ _ _=>Z41 (Q9 (h.blk _ _ _ _ _).nin (Z4 8) (Z4 1))) (fun _ _ _ _ _=>Z4 8)) (Z04 (Y0)))))) (X0 (Q0 (Y8))) (U5)) (Y2 (Z5q (i:=4) (own:=[("_law_line",7)]) (t:=(.nm 7)) rfl U1 rfl rfl rfl (Z2k (V9 (Z4 0) (Q6 (Y7)) (Z0k))) (blkOk_by (N:=Z1y) (sc:=defScope Q3) (by decide +kernel)) (by decide) (fun _ _ _ _ _=>U0 (i:=7) U1 rfl (by first | exact Or.inl rfl | exact Or.inr rfl)) (fun _ _ _ _ _=>Z3c) (fun _ _ _ _ _=>Z4t (Z4 7) (Y8))) (Y2 (Z7i Z7k rfl (Z2k (Z4 4)) (U0 (i:=5) U1 rfl (by first | exact Or.inl rfl | exact Or.inr rfl)) (X0 (Z1u (Z72 (Z54 (Q9 h.nin (Z0x (Z4 5) (Y7)) (Z3m h.add (Z04 (Z3 (Y8) (Y0))) (Z4 1))) (Z3y (Q9 h.nin (Z0x (Z4 5) (Y8v (Y7))) (Z3m h.add (Z04 (Z3 (Y8) (Y0))) (Z4 1)))))) (X0 (Q0 (Y8))) (U5)))) (Y2 (Z5q (i:=6) (own:=[("_law_row_here",5)]) (t:=(.nm 5)) rfl U1 rfl rfl rfl (Z2k (Z4 4)) (blkOk_by (N:=Z1y) (sc:=defScope Q3) (by decide +kernel)) (by decide) (fun _ _ _ _ _=>U0 (i:=5) U1 rfl (by first | exact Or.inl rfl | exact Or.inr rfl)) (fun _ _ _ _ _=>Z41 (Z72 (Z51 (Q9 (h.blk _ _ _ _ _).ne (Z0x (Z4 5) (Y7)) (Y8)) (Z4k (Q9 (h.blk _ _ _ _ _).eq (Z0x (Z4 5) (Y7)) (Z0x (Z4 1) (Y7))))))) (fun _ _ _ _ _=>Z4 5)) (X0 (Q0 (Y16 (Q9 h.ne (Z4 6) (Z04 (Y0))) (Y8) (Z6j))))))))))
def Z7q:List Str:=["_law_lines", "_law_at", "_law_word"]
theorem Z66:Z7q.Nodup:=by decide +kernel
theorem Y3p:FnScope Z7q ["_law_lines"] (defScope Z2c):=⟨rfl,rfl,rfl,Z66,rfl,by decide +kernel,by decide +kernel⟩
def Z7u:MS:=Y4 (W0 1 (Z8 (X6 1 (X7 [] (callP g__law_first_bad))) (Z0 (Z1 0) (Z6)))) (Y4 (Z0l (V6 (Y1 X1j (Z1 1) (m_c .non))) (U6 (Z0 (m_c (.str "text")) (Z0 (Z1 1) (Z6)))) (W5)) (Y4 (W0 2 (Z8 (X6 1 (X7 [] (callP g__law_wrong))) (Z0 (Z1 0) (Z6)))) (X8 (Z26 (V6 (Y1 isD (Z1 2) (m_c .non))) (m_c .non) (U2 (Z0 (m_c (.str "tool")) (Z0 (Z1 2) (Z6))))))))
def g__law_due:List D→PR:=Z6v 3 Z7u
include Fx in
theorem Y3h (K__law_first_bad:Kept P HasW.w K mg base 3 (He.ga K "_law_first_bad") (spP K 1 g__law_first_bad)) (K__law_wrong:Kept P HasW.w K mg base 1 (He.ga K "_law_wrong") (spP K 1 g__law_wrong)) (F:FunD K "_law_due" "_law_due" (defArgs Z2c) (defBody Z2c) (defScope Z2c) dl [] f fd):FnG P HasW.w K mg base 4 f fd ["_law_lines"] (spP K 1 g__law_due):=fnP F Y3p fun cdv A outer s H E gu room=>by
  have h:Here (cxB P HasW.w K mg base Z7q "_law_due" (defScope Z2c) f cdv A outer s H E) (wxE E) 3:=Z0o gu room
  unfold Z7u
  exact Y2 (Q7 (i:=1) Z66 rfl (by first | exact Or.inl rfl | exact Or.inr rfl) (V1 (h.callP K__law_first_bad (by decide)) rfl Fx.g__law_first_bad K__law_first_bad.kp (Z3 (Z4 0) (Y0)))) (Y2 (Z1u (Q9 h.isn (Z4 1) (Z6j)) (X0 (Y9z (Z3 (Y8) (Z3 (Z4 1) (Y0))))) (U5)) (Y2 (Q7 (i:=2) Z66 rfl (by first | exact Or.inl rfl | exact Or.inr rfl) (V1 (h.callP K__law_wrong (by decide)) rfl Fx.g__law_wrong K__law_wrong.kp (Z3 (Z4 0) (Y0)))) (X0 (Q0 (Y16 (Q9 h.is_ (Z4 2) (Z6j)) (Z6j) (Z49 (Z3 (Y8) (Z3 (Z4 2) (Y0)))))))))
def Y89:List Str:=["_law_script", "_law_k", "_law_box", "_law_turn", "_law_lines", "_law_again", "_law_told", "_law_due_here", "_law_at", "_law_form", "_law_words", "_law_spot", "_law_more", "_law_odd", "_law_bent"]
theorem Z3o:Y89.Nodup:=by decide +kernel
theorem X2d:FnScope Y89 ["_law_script"] (defScope Z8q):=⟨rfl,rfl,rfl,Z3o,rfl,by decide +kernel,by decide +kernel⟩
def Y9d:MS:=Y4 (Z4p (.nm 1) (Z4g (Z0 (Z8 (Z0r Z4h) (Z0 (m_c (.int 1)) (Z0 (Z8 (Z0r Z4j) (Z0 (m_c (.int 4)) (Z0 (Z8 Z0u (Z0 (Z1 0) (Z6))) (Z6)))) (Z6)))) (Z6))) (Y4 (W0 2 (Z8 (X6 2 (X7 [] g__law_seed)) (Z0 (Z1 0) (Z0 (Z1 1) (Z6))))) (Z4p (.nm 3) (Z4g (Z0 (m_c (.int 5)) (Z6))) (Y4 (W0 4 (Z1e Z5n (Z8 (X6 1 (X7 [] (callP g__law_tool_text))) (Z0 (Z8 (X6 2 (X7 [] g__law_tool)) (Z0 (Z1 2) (Z0 (m_c (.int 6)) (Z6)))) (Z6))) (m_c (.str "\n")))) (Y4 (Z4p (.nm 5) (Z4g (Z0 (Y1 Z2f (m_c (.int 1)) (Z8 (X6 2 (X7 [] g__law_choose)) (Z0 (Z1 2) (Z0 (m_c (.int 2)) (Z6))))) (Z6))) (Y4 (Z0w 8 9 (Z0 (Z8 (X6 2 (X7 [] g__law_choose)) (Z0 (Z1 2) (Z0 (Z8 Z0u (Z0 (Z1 4) (Z6))) (Z6)))) (Z0 (Z8 (X6 2 (X7 [] g__law_choose)) (Z0 (Z1 2) (Z0 (m_c (.int 6)) (Z6)))) (Z6)))) (Y4 (W0 10 (Z1e Z1q (Q5 (Z1 4) (Z1 8)) (m_c (.str " ")))) (Y4 (W0 11 (Z8 (X6 2 (X7 [] g__law_choose)) (Z0 (Z1 2) (Z0 (Z8 Z0u (Z0 (Z1 10) (Z6))) (Z6))))) (Y4 (W0 12 (Z8 (X6 2 (X7 [] g__law_one_of)) (Z0 (Z1 2) (Z0 (W9 (Z0 (m_c (.str "any")) (Z0 (m_c (.str "good")) (Z0 (m_c (.str "qqqq")) (Z0 (m_c (.str "to")) (Z0 (m_c (.str "")) (Z0 (m_c (.str "same")) (Z0 (m_c (.str "marks")) (Z0 (m_c (.str "take")) (Z6)))))))))) (Z6))))) (Z0l (W7 (V6 (Y1 eqD (Z1 9) (m_c (.int 0)))) (V6 (Y1 gtD (Z8 Z0u (Z0 (Z1 4) (Z6))) (m_c (.int 1))))) (W0 4 (Z6h (Y3 (Z1 4) (Z0s) (Y9 (Z1 8))) (Y3 (Z1 4) (Y9 (Y1 Z2f (Z1 8) (m_c (.int 1)))) (Z0s)))) (Z0l (V6 (Y1 eqD (Z1 9) (m_c (.int 1)))) (W0 4 (Z6h (Y1 Z2f (Y3 (Z1 4) (Z0s) (Y9 (Z1 8))) (Y3 (Z1 4) (Y9 (Z1 8)) (Y9 (Y1 Z2f (Z1 8) (m_c (.int 1)))))) (Y3 (Z1 4) (Y9 (Z1 8)) (Z0s)))) (Z0l (V6 (Y1 eqD (Z1 9) (m_c (.int 2)))) (W0 4 (Z6h (Y1 Z2f (Y3 (Z1 4) (Z0s) (Y9 (Z1 8))) (Y57 (Y3 (Z1 4) (Y9 (Z1 8)) (Y9 (Y1 Z2f (Z1 8) (m_c (.int 2))))))) (Y3 (Z1 4) (Y9 (Y1 Z2f (Z1 8) (m_c (.int 2)))) (Z0s)))) (Z0l (V6 (Y1 eqD (Z1 9) (m_c (.int 3)))) (Y4 (W0 13 (W9 (Z0 (m_c (.str "")) (Z0 (m_c (.str "shown")) (Z0 (m_c (.str "asked good")) (Z0 (m_c (.str "drop qqqq to same")) (Z0 (m_c (.str "give any to good")) (Z0 (m_c (.str "drop any to same")) (Z6))))))))) (W0 4 (Z6h (Y1 Z2f (Y3 (Z1 4) (Z0s) (Y9 (Z1 8))) (W9 (Z0 (Z8 (X6 2 (X7 [] g__law_one_of)) (Z0 (Z1 2) (Z0 (Z1 13) (Z6)))) (Z6)))) (Y3 (Z1 4) (Y9 (Z1 8)) (Z0s))))) (Y4 (W0 14 (Y1 Z2f (Y3 (Z1 10) (Z0s) (Y9 (Z1 11))) (Y3 (W9 (Z0 (Z1 12) (Z6))) (Z0s) (Y9 (Y1 Y84 (m_c (.int 5)) (Z1 9)))))) (Z00 (Z1 4) (Z1 8) (Z1e Z1d (m_c (.str " ")) (Y1 Z2f (Z1 14) (Y3 (Z1 10) (Y9 (Y1 Z2f (Z1 11) (m_c (.int 1)))) (Z0s))))))))))))))) (Y4 (Z0w 6 7 (Z0 (Z8 (X6 1 (X7 [] (callP g__law_heard))) (Z0 (Z1e Z1d (m_c (.str "\n")) (Z1 4)) (Z6))) (Z0 (Z8 (X6 1 (X7 [] (callP g__law_due))) (Z0 (Z1 4) (Z6))) (Z6)))) (Y4 (Z0l (W7 (V6 (Y1 isD (Z1 7) (m_c .non))) (X9 (X5 (Z7f (Z8v "str") [("Row",false),("Tool",false)] (Z1 6))))) (X8 (m_c (.bl false))) (W5)) (Z0l (W7 (V6 (Y1 X1j (Z1 7) (m_c .non))) (V6 (Y1 neD (Z1 6) (Z1 7)))) (X8 (m_c (.bl false))) (W5))))))))) (Y4 (Z0l (V6 (Y1 neD (Z8 (X6 1 (X7 [] (callP g__law_heard))) (Z0 (m_c (.str "")) (Z6))) (U2 (Z0 (m_c (.str "text")) (Z0 (m_c (.int 0)) (Z6)))))) (X8 (m_c (.bl false))) (W5)) (X8 (Y1 eqD (Z8 (X6 1 (X7 [] (callP g__law_heard))) (Z0 (m_c (.str "marks a")) (Z6))) (U2 (Z0 (m_c (.str "text")) (Z0 (m_c (.int 1)) (Z6)))))))
def g_law:List D→PR:=Z6v 15 Y9d
include Fx in
theorem X12 (K__law_seed:Kept P HasW.w K mg base 1 (He.ga K "_law_seed") (spE K 2 g__law_seed)) (K__law_tool_text:Kept P HasW.w K mg base 2 (He.ga K "_law_tool_text") (spP K 1 g__law_tool_text)) (K__law_tool:Kept P HasW.w K mg base 4 (He.ga K "_law_tool") (spE K 2 g__law_tool)) (K__law_choose:Kept P HasW.w K mg base 1 (He.ga K "_law_choose") (spE K 2 g__law_choose)) (K__law_one_of:Kept P HasW.w K mg base 2 (He.ga K "_law_one_of") (spE K 2 g__law_one_of)) (K__law_heard:Kept P HasW.w K mg base 7 (He.ga K "_law_heard") (spP K 1 g__law_heard)) (K__law_due:Kept P HasW.w K mg base 4 (He.ga K "_law_due") (spP K 1 g__law_due)) (F:FunD K "law" "law" (defArgs Z8q) (defBody Z8q) (defScope Z8q) dl [] f fd):FnG P HasW.w K mg base 8 f fd ["_law_script"] (spP K 1 g_law):=fnP F X2d fun cdv A outer s H E gu room=>by
  have h:Here (cxB P HasW.w K mg base Y89 "law" (defScope Z8q) f cdv A outer s H E) (wxE E) 7:=Z0o gu room
  unfold Y9d
  exact Y2 (Z7i Z7k rfl (Z9p rfl Fx.f_range (Z3 (Z0j (call_max2 rfl) X2z rfl Fx.f_max (Z3 (Y7) (Z3 (Z0j (call_min2 rfl) X20 rfl Fx.f_min (Z3 (Y7) (Z3 (Z0j Z25 Z29 rfl Fx.f_len (Z3 (Z4 0) (Y0))) (Y0)))) (Y0)))) (Y0))) (U0 (i:=1) Z3o rfl (by first | exact Or.inl rfl | exact Or.inr rfl)) (Y2 (Q7 (i:=2) Z3o rfl (by first | exact Or.inl rfl | exact Or.inr rfl) (V1 (h.callE K__law_seed (by decide)) rfl Fx.g__law_seed K__law_seed.kp (Z3 (Z4 0) (Z3 (Z4 1) (Y0))))) (X0 (Z7i Z7k rfl (Z9p rfl Fx.f_range (Z3 (Y7) (Y0))) (U0 (i:=3) Z3o rfl (by first | exact Or.inl rfl | exact Or.inr rfl)) (Y2 (Q7 (i:=4) Z3o rfl (by first | exact Or.inl rfl | exact Or.inr rfl) (Y6a (V1 (h.callP K__law_tool_text (by decide)) rfl Fx.g__law_tool_text K__law_tool_text.kp (Z3 (V1 (h.callE K__law_tool (by decide)) rfl Fx.g__law_tool K__law_tool.kp (Z3 (Z4 2) (Z3 (Y7) (Y0)))) (Y0))) (Y8))) (Y2 (Z7i Z7k rfl (Z9p rfl Fx.f_range (Z3 (Z3m h.add (Y7) (V1 (h.callE K__law_choose (by decide)) rfl Fx.g__law_choose K__law_choose.kp (Z3 (Z4 2) (Z3 (Y7) (Y0))))) (Y0))) (U0 (i:=5) Z3o rfl (by first | exact Or.inl rfl | exact Or.inr rfl)) (Y2 (Y4a rfl Z3o (i:=8) (j:=9) rfl rfl (by decide) rfl rfl (Z3 (V1 (h.callE K__law_choose (by decide)) rfl Fx.g__law_choose K__law_choose.kp (Z3 (Z4 2) (Z3 (Z0j Z25 Z29 rfl Fx.f_len (Z3 (Z4 4) (Y0))) (Y0)))) (Z3 (V1 (h.callE K__law_choose (by decide)) rfl Fx.g__law_choose K__law_choose.kp (Z3 (Z4 2) (Z3 (Y7) (Y0)))) (Y0)))) (Y2 (Q7 (i:=10) Z3o rfl (by first | exact Or.inl rfl | exact Or.inr rfl) (Z4t (Z0x (Z4 4) (Z4 8)) (Y8))) (Y2 (Q7 (i:=11) Z3o rfl (by first | exact Or.inl rfl | exact Or.inr rfl) (V1 (h.callE K__law_choose (by decide)) rfl Fx.g__law_choose K__law_choose.kp (Z3 (Z4 2) (Z3 (Z0j Z25 Z29 rfl Fx.f_len (Z3 (Z4 10) (Y0))) (Y0))))) (Y2 (Q7 (i:=12) Z3o rfl (by first | exact Or.inl rfl | exact Or.inr rfl) (V1 (h.callE K__law_one_of (by decide)) rfl Fx.g__law_one_of K__law_one_of.kp (Z3 (Z4 2) (Z3 (Z04 (Z3 (Y8) (Z3 (Y8) (Z3 (Y8) (Z3 (Y8) (Z3 (Y8) (Z3 (Y8) (Z3 (Y8) (Z3 (Y8) (Y0)))))))))) (Y0))))) (X0 (Z1u (Z72 (Z51 (Q9 h.eq (Z4 9) (Y7)) (Z4k (Q9 h.gt (Z0j Z25 Z29 rfl Fx.f_len (Z3 (Z4 4) (Y0))) (Y7))))) (X0 (Q7 (i:=4) Z3o rfl (by first | exact Or.inl rfl | exact Or.inr rfl) (Y06 (V9 (Z4 4) (Z0k) (Q6 (Z4 8))) (V9 (Z4 4) (Q6 (Z3m h.add (Z4 8) (Y7))) (Z0k))))) (X0 (Z1u (Q9 h.eq (Z4 9) (Y7)) (X0 (Q7 (i:=4) Z3o rfl (by first | exact Or.inl rfl | exact Or.inr rfl) (Y06 (Z3m h.add (V9 (Z4 4) (Z0k) (Q6 (Z4 8))) (V9 (Z4 4) (Q6 (Z4 8)) (Q6 (Z3m h.add (Z4 8) (Y7))))) (V9 (Z4 4) (Q6 (Z4 8)) (Z0k))))) (X0 (Z1u (Q9 h.eq (Z4 9) (Y7)) (X0 (Q7 (i:=4) Z3o rfl (by first | exact Or.inl rfl | exact Or.inr rfl) (Y06 (Z3m h.add (V9 (Z4 4) (Z0k) (Q6 (Z4 8))) (X1q (V9 (Z4 4) (Q6 (Z4 8)) (Q6 (Z3m h.add (Z4 8) (Y7)))))) (V9 (Z4 4) (Q6 (Z3m h.add (Z4 8) (Y7))) (Z0k))))) (X0 (Z1u (Q9 h.eq (Z4 9) (Y7)) (Y2 (Q7 (i:=13) Z3o rfl (by first | exact Or.inl rfl | exact Or.inr rfl) (Z04 (Z3 (Y8) (Z3 (Y8) (Z3 (Y8) (Z3 (Y8) (Z3 (Y8) (Z3 (Y8) (Y0))))))))) (X0 (Q7 (i:=4) Z3o rfl (by first | exact Or.inl rfl | exact Or.inr rfl) (Y06 (Z3m h.add (V9 (Z4 4) (Z0k) (Q6 (Z4 8))) (Z04 (Z3 (V1 (h.callE K__law_one_of (by decide)) rfl Fx.g__law_one_of K__law_one_of.kp (Z3 (Z4 2) (Z3 (Z4 13) (Y0)))) (Y0)))) (V9 (Z4 4) (Q6 (Z4 8)) (Z0k)))))) (Y2 (Q7 (i:=14) Z3o rfl (by first | exact Or.inl rfl | exact Or.inr rfl) (Z3m h.add (V9 (Z4 10) (Z0k) (Q6 (Z4 11))) (V9 (Z04 (Z3 (Z4 12) (Y0))) (Z0k) (Q6 (Z3m h.sub (Y7) (Z4 9)))))) (X0 (Y6c (Z4 4) (Z4 8) (Z40 (Y8) (Z3m h.add (Z4 14) (V9 (Z4 10) (Q6 (Z3m h.add (Z4 11) (Y7))) (Z0k)))))))))))))))))))) (Y2 (Y4a rfl Z3o (i:=6) (j:=7) rfl rfl (by decide) rfl rfl (Z3 (V1 (h.callP K__law_heard (by decide)) rfl Fx.g__law_heard K__law_heard.kp (Z3 (Z40 (Y8) (Z4 4)) (Y0))) (Z3 (V1 (h.callP K__law_due (by decide)) rfl Fx.g__law_due K__law_due.kp (Z3 (Z4 4) (Y0))) (Y0)))) (Y2 (Z1u (Z72 (Z51 (Q9 h.is_ (Z4 7) (Z6j)) (Z4k (Z2l (Z0q (Y17 rfl Fx.f_isinstance (Z4 6) (X0p rfl Fx.f_str) Fx.is_str (.ty _))))))) (X0 (Q0 (Z9m))) (U5)) (X0 (Z1u (Z72 (Z51 (Q9 h.isn (Z4 7) (Z6j)) (Z4k (Q9 h.ne (Z4 6) (Z4 7))))) (X0 (Q0 (Z9m))) (U5))))))))))) (Y2 (Z1u (Q9 h.ne (V1 (h.callP K__law_heard (by decide)) rfl Fx.g__law_heard K__law_heard.kp (Z3 (Y8) (Y0))) (Z49 (Z3 (Y8) (Z3 (Y7) (Y0))))) (X0 (Q0 (Z9m))) (U5)) (X0 (Q0 (Z6w h.eq (V1 (h.callP K__law_heard (by decide)) rfl Fx.g__law_heard K__law_heard.kp (Z3 (Y8) (Y0))) (Z49 (Z3 (Y8) (Z3 (Y7) (Y0))))))))
end
end Lw
set_option maxHeartbeats 0
namespace Lw
open PySem PySem.Spec L2 Bv
open PyProof.Rows hiding St
theorem Y12 {K:PySem.W.Frag} {h:Heap} {mg:Str→Option Value} (X:K.In h) (G:h.Ns mainGlobals mg) (c:Y0v tsL dsL K):Facts K mg:=⟨
  Z1w X G (c.test 0 rfl),
  Z1w X G (c.test 1 rfl),
  Z1w X G (c.test 2 rfl),
  Z1w X G (c.test 3 rfl),
  Z1w X G (c.test 4 rfl),
  Z1w X G (c.test 5 rfl),
  Z0a X G (c.test 6 rfl),
  Z0a X G (c.test 7 rfl),
  Z1w X G (c.test 8 rfl),
  Z0a X G (c.test 9 rfl),
  Z0a X G (c.test 10 rfl),
  Z0a X G (c.test 11 rfl),
  Z0a X G (c.test 12 rfl),
  Z0a X G (c.test 13 rfl),
  Z0a X G (c.test 14 rfl),
  Z0a X G (c.test 15 rfl),
  Y01 (c.test 16 rfl),
  X2q (c.test 17 rfl),
  Z0a X G (c.test 18 rfl),
  Y01 (c.test 19 rfl),
  X2q (c.test 20 rfl),
  Z0a X G (c.test 21 rfl),
  c.test 22 rfl,
  Z0a X G (c.test 23 rfl),
  Z1w X G (c.test 24 rfl),
  Z1w X G (c.test 25 rfl),
  Y53 (u:=fun K=>(.type "str")) (c.test 26 rfl),
  Z1w X G (c.test 27 rfl),
  c.test 28 rfl,
  Z0a X G (c.test 29 rfl),
  Y9o X G (c.test 30 rfl),
  X0k X G (c.test 31 rfl),
  Z1w X G (c.test 32 rfl),
  Z0a X G (c.test 33 rfl),
  Z0a X G (c.test 34 rfl),
  X2b (c.test 35 rfl),
  c.test 36 rfl,
  Z0a X G (c.test 37 rfl),
  Y01 (c.test 38 rfl),
  X2b (c.test 39 rfl),
  c.test 40 rfl,
  Z0a X G (c.test 41 rfl),
  Z0a X G (c.test 42 rfl),
  Z0a X G (c.test 43 rfl),
  Y53 (u:=fun K=>(.type "bool")) (c.test 44 rfl),
  Z1w X G (c.test 45 rfl),
  Z5j (c.test 46 rfl),
  Z5j (c.test 47 rfl),
  Z5j (c.test 48 rfl),
  Z5j (c.test 49 rfl),
  Y6b (c.test 50 rfl),
  Z0a X G (c.test 51 rfl),
  X05 (c.test 52 rfl),
  Y9p (c.test 53 rfl),
  Z1w X G (c.test 54 rfl),
  Z0a X G (c.test 55 rfl),
  Z1w X G (c.test 56 rfl),
  Z0a X G (c.test 57 rfl),
  Z0a X G (c.test 58 rfl),
  Y53 (u:=fun K=>(.ref (He.ga K "Row"))) (c.test 59 rfl),
  Z1w X G (c.test 60 rfl),
  Z5j (c.test 61 rfl),
  Z5j (c.test 62 rfl),
  Z5j (c.test 63 rfl),
  Z5j (c.test 64 rfl),
  Z5j (c.test 65 rfl),
  Y6b (c.test 66 rfl),
  Z0a X G (c.test 67 rfl),
  X05 (c.test 68 rfl),
  Z1w X G (c.test 69 rfl),
  str_ok (c.test 70 rfl),
  str_ok (c.test 71 rfl),
  Z0a X G (c.test 72 rfl),
  Z0a X G (c.test 73 rfl),
  Z0a X G (c.test 74 rfl),
  Z0a X G (c.test 75 rfl),
  Z0a X G (c.test 76 rfl),
  Z0a X G (c.test 77 rfl),
  Z0a X G (c.test 78 rfl)⟩
theorem all [HasW] {P:Program} {K:PySem.W.Frag} {h:Heap} {mg:Str→Option Value} {f:Addr} (X:K.In h) (G:h.Ns mainGlobals mg) (cx:Y4t tsL dsL xsL K) (hP:P.main.file=PySem.Challenge.pw_wordingkept_k09_texts_of_no_tool.main.file) (hT:(P.main.scope.names.lookup ("super" : Str)).isSome=false) (hf:mg "law" = some (.ref f)) :
    ∃ fd:FuncData,(∀ (s:Shared) (v:Value),BindsTo s fd ⟨[v],[]⟩ [("_law_script",v)])∧∀ base:Heap,K.In base→base.Ns mainGlobals mg→FnG P HasW.w K mg base 8 f fd ["_law_script"] (spP K 1 g_law):=by
  have c:=cx.toB
  have Fx:=Y12 X G c
  have e0:=hf.symm.trans (Z0a X G (c.test 78 rfl))
  cases e0
  obtain ⟨fd_is_name,F_is_name⟩:=c.fun 0 (d:=Y1y) rfl
  obtain ⟨fd_is_sequence,F_is_sequence⟩:=c.fun 1 (d:=Z7e) rfl
  obtain ⟨fd_are_unlike,F_are_unlike⟩:=c.fun 2 (d:=Z8j) rfl
  obtain ⟨fd_is_word,F_is_word⟩:=c.fun 3 (d:=Y1z) rfl
  obtain ⟨fd_Row_str,F_Row_str⟩:=c.fun 4 (d:=Y1x) rfl
  obtain ⟨fd__law_seed,F__law_seed⟩:=c.fun 5 (d:=Z9b) rfl
  obtain ⟨fd__law_choose,F__law_choose⟩:=c.fun 6 (d:=Z7b) rfl
  obtain ⟨fd__law_row_text,F__law_row_text⟩:=c.fun 7 (d:=Z6c) rfl
  obtain ⟨fd__law_name,F__law_name⟩:=c.fun 8 (d:=Z9a) rfl
  obtain ⟨fd__law_wrong,F__law_wrong⟩:=c.fun 9 (d:=Z8i) rfl
  obtain ⟨fd_Row_init,F_Row_init⟩:=c.fun 10 (d:=Z7w) rfl
  obtain ⟨fd_are_names,F_are_names⟩:=c.fun 11 (d:=Z9d) rfl
  obtain ⟨fd_names_in,F_names_in⟩:=c.fun 12 (d:=Y0g) rfl
  obtain ⟨fd__law_one_of,F__law_one_of⟩:=c.fun 13 (d:=Z7d) rfl
  obtain ⟨fd__law_mixed,F__law_mixed⟩:=c.fun 14 (d:=Z8h) rfl
  obtain ⟨fd__law_tool_text,F__law_tool_text⟩:=c.fun 15 (d:=Z5z) rfl
  obtain ⟨fd__law_is_row,F__law_is_row⟩:=c.fun 16 (d:=Z7c) rfl
  obtain ⟨fd_Tool_init,F_Tool_init⟩:=c.fun 17 (d:=Z65) rfl
  obtain ⟨fd__law_marks,F__law_marks⟩:=c.fun 18 (d:=Z8g) rfl
  obtain ⟨fd__law_row,F__law_row⟩:=c.fun 19 (d:=Y0f) rfl
  obtain ⟨fd__law_first_bad,F__law_first_bad⟩:=c.fun 20 (d:=Z5y) rfl
  obtain ⟨fd_Row_read,F_Row_read⟩:=c.fun 21 (d:=Y0c) rfl
  obtain ⟨fd_Tool_str,F_Tool_str⟩:=c.fun 22 (d:=Y0d) rfl
  obtain ⟨fd__law_tool,F__law_tool⟩:=c.fun 23 (d:=Z9c) rfl
  obtain ⟨fd__law_due,F__law_due⟩:=c.fun 24 (d:=Y0e) rfl
  obtain ⟨fd_Tool_read,F_Tool_read⟩:=c.fun 25 (d:=Z89) rfl
  obtain ⟨fd__law_heard,F__law_heard⟩:=c.fun 26 (d:=Z8f) rfl
  obtain ⟨fd_law,F_law⟩:=c.fun 27 (d:=X06) rfl
  have b0:=F_law.bindsA (ps:=["_law_script"]) fun _ _ _ _ _ _ us hl=>match us,hl with | [_],_=>rfl
  refine ⟨fd_law,fun s v=>b0 s [v] rfl,fun base _ _=>?_⟩
  have X_InvalidText:Xe.ErrOk P K (He.ga K "InvalidText") (Y4x "InvalidText" K) "at" := Y5s (d:=Z31) (b := .ve) Z9z (.inr (.inl rfl)) (cx.seen 0 rfl) (c.test 80 rfl) (c.test 81 rfl) (c.test 82 rfl) hP hT
  have X_InvalidRow:Xe.ErrOk P K (He.ga K "InvalidRow") (Y4x "InvalidRow" K) "word" := Y5s (d:=Z4w) (b := .ve) Y02 (.inl rfl) (cx.seen 1 rfl) (c.test 83 rfl) (c.test 84 rfl) (c.test 85 rfl) hP hT
  have X_InvalidTool:Xe.ErrOk P K (He.ga K "InvalidTool") (Y4x "InvalidTool" K) "word" := Y5s (d:=Z32) (b := .ve) Z90 (.inl rfl) (cx.seen 2 rfl) (c.test 86 rfl) (c.test 87 rfl) (c.test 88 rfl) hP hT
  have K_is_name:=Z3x F_is_name (Y42 (P:=P) (base:=base) Fx  F_is_name) fun _ _ _ _ _ _ us hl=>match us,hl with | [_],_=>rfl
  have K_is_sequence:=Z3x F_is_sequence (Z96 (P:=P) (base:=base) Fx  F_is_sequence) fun _ _ _ _ _ _ us hl=>match us,hl with | [_],_=>rfl
  have K_are_unlike:=Z3x F_are_unlike (Y1e (P:=P) (base:=base) Fx  F_are_unlike) fun _ _ _ _ _ _ us hl=>match us,hl with | [_],_=>rfl
  have K_is_word:=Z3x F_is_word (Y43 (P:=P) (base:=base) Fx  F_is_word) fun _ _ _ _ _ _ us hl=>match us,hl with | [_,_],_=>rfl
  have K_Row_str:=Z3x F_Row_str (Y41 (P:=P) (base:=base) Fx  F_Row_str) fun _ _ _ _ _ _ us hl=>match us,hl with | [_],_=>rfl
  have K__law_seed:=Z3x F__law_seed (Y2e (P:=P) (base:=base) Fx  F__law_seed) fun _ _ _ _ _ _ us hl=>match us,hl with | [_,_],_=>rfl
  have K__law_choose:=Z3x F__law_choose (Z93 (P:=P) (base:=base) Fx  F__law_choose) fun _ _ _ _ _ _ us hl=>match us,hl with | [_,_],_=>rfl
  have K__law_row_text:=Z3x F__law_row_text (Z8t (P:=P) (base:=base) Fx  F__law_row_text) fun _ _ _ _ _ _ us hl=>match us,hl with | [_],_=>rfl
  have K__law_name:=Z3x F__law_name (Y2d (P:=P) (base:=base) Fx  F__law_name) fun _ _ _ _ _ _ us hl=>match us,hl with | [_],_=>rfl
  have K__law_wrong:=Z3x F__law_wrong (Y1d (P:=P) (base:=base) Fx  F__law_wrong) fun _ _ _ _ _ _ us hl=>match us,hl with | [_],_=>rfl
  have K_Row_init:=X1k F_Row_init (Y3e (P:=P) (base:=base) Fx X_InvalidRow K_is_word K_is_name F_Row_init) (by simp [DefB.dvs,Z7w]) fun _ _ _ _ _ _ _ us its hl hi=>match us,its,hl,hi with | [_,_,_,_,_],[_],_,_=>⟨_,rfl,rfl⟩
  have K_are_names:=Z3x F_are_names (Y2g (P:=P) (base:=base) Fx K_is_sequence K_is_name K_are_unlike F_are_names) fun _ _ _ _ _ _ us hl=>match us,hl with | [_],_=>rfl
  have K_names_in:=Z3x F_names_in (Y3j (P:=P) (base:=base) Fx K_is_name F_names_in) fun _ _ _ _ _ _ us hl=>match us,hl with | [_,_],_=>rfl
  have K__law_one_of:=Z3x F__law_one_of (Z95 (P:=P) (base:=base) Fx K__law_choose F__law_one_of) fun _ _ _ _ _ _ us hl=>match us,hl with | [_,_],_=>rfl
  have K__law_mixed:=Z3x F__law_mixed (Y1c (P:=P) (base:=base) Fx K__law_choose F__law_mixed) fun _ _ _ _ _ _ us hl=>match us,hl with | [_,_],_=>rfl
  have K__law_tool_text:=Z3x F__law_tool_text (Z78 (P:=P) (base:=base) Fx K__law_row_text F__law_tool_text) fun _ _ _ _ _ _ us hl=>match us,hl with | [_],_=>rfl
  have K__law_is_row:=Z3x F__law_is_row (Z94 (P:=P) (base:=base) Fx K__law_name F__law_is_row) fun _ _ _ _ _ _ us hl=>match us,hl with | [_],_=>rfl
  have K_Tool_init:=X1k F_Tool_init (Y2b (P:=P) (base:=base) Fx X_InvalidTool K_are_names K_is_sequence F_Tool_init) (by simp [DefB.dvs,Z65]) fun _ _ _ _ _ _ _ us its hl hi=>match us,its,hl,hi with | [_,_,_,_,_],[_],_,_=>⟨_,rfl,rfl⟩
  have K__law_marks:=Z3x F__law_marks (Y1b (P:=P) (base:=base) Fx K__law_mixed K__law_choose F__law_marks) fun _ _ _ _ _ _ us hl=>match us,hl with | [_],_=>rfl
  have K__law_row:=Z3x F__law_row (Y3i (P:=P) (base:=base) Fx K__law_one_of K__law_choose F__law_row) fun _ _ _ _ _ _ us hl=>match us,hl with | [_,_],_=>rfl
  have K__law_first_bad:=Z3x F__law_first_bad (Z77 (P:=P) (base:=base) Fx K__law_name K__law_is_row F__law_first_bad) fun _ _ _ _ _ _ us hl=>match us,hl with | [_],_=>rfl
  have K_Row_read:=Z3x F_Row_read (Y3f (P:=P) (base:=base) Fx X_InvalidText K_Row_init F_Row_read) fun _ _ _ _ _ _ us hl=>match us,hl with | [_,_],_=>rfl
  have K_Tool_str:=Z3x F_Tool_str (Y3g (P:=P) (base:=base) Fx K_Row_str F_Tool_str) fun _ _ _ _ _ _ us hl=>match us,hl with | [_],_=>rfl
  have K__law_tool:=Z3x F__law_tool (Y2f (P:=P) (base:=base) Fx K__law_marks K__law_choose K__law_one_of K__law_row F__law_tool) fun _ _ _ _ _ _ us hl=>match us,hl with | [_,_],_=>rfl
  have K__law_due:=Z3x F__law_due (Y3h (P:=P) (base:=base) Fx K__law_first_bad K__law_wrong F__law_due) fun _ _ _ _ _ _ us hl=>match us,hl with | [_],_=>rfl
  have K_Tool_read:=Z3x F_Tool_read (Y2c (P:=P) (base:=base) Fx X_InvalidText K_names_in K_Row_read K_Tool_init F_Tool_read) fun _ _ _ _ _ _ us hl=>match us,hl with | [_,_],_=>rfl
  have K__law_heard:=Z3x F__law_heard (Y1a (P:=P) (base:=base) Fx K_Tool_read K_Tool_str F__law_heard) fun _ _ _ _ _ _ us hl=>match us,hl with | [_],_=>rfl
  exact X12 (P:=P) (base:=base) Fx K__law_seed K__law_tool_text K__law_tool K__law_choose K__law_one_of K__law_heard K__law_due F_law
end Lw
set_option maxHeartbeats 4000000
namespace Bv
open PySem PySem.Spec L2
open PyProof.Rows hiding St
variable [HasW]
theorem Y03 {t:Tg} {body:MS} (I:Nat→Ev→Sto→Prop):∀ {xs:List X} {k:Nat} {e:Ev} {S:Sto},I k e S→(∀ i x,xs[i]?=some x→∀ e S,I (k + i) e S→∃ e1 e2 S2,t.asg S x e=some e1∧body e1 S = .go (.nx e2) S2∧I (k + i + 1) e2 S2)→∃ e2 S2,Z7x t .free body xs e S = .go (.nx e2) S2∧I (k + xs.length) e2 S2
  | [],k,e,S,h,_=>⟨e,S,by simp [Z7x,Lk.ok],h⟩
  | x :: xs,k,e,S,h,step=>by
    obtain ⟨e1,e2,S2,h1,h2,h3⟩:=step 0 x rfl e S h
    obtain ⟨e3,S3,h4,h5⟩:=Y03 I (xs:=xs) (k:=k + 1) h3 fun i y hy e S hI=>by
      have:=step (i + 1) y (by simpa using hy) e S (by rw [show k + (i + 1)=k + 1 + i by omega]; exact hI)
      rw [show k + (i + 1) + 1=k + 1 + i + 1 by omega] at this
      exact this
    exact ⟨e3,S3,by simp [Z7x,Lk.ok,h1,h2,h4],by rw [List.length_cons,show k + (xs.length + 1)=k + 1 + xs.length by omega]; exact h5⟩
theorem Y4g {t:Tg} {mi:MIt} {body:MS} {e:Ev} {S S1:Sto} {xs:List X} {l:Lk} (h:mi e S = .ok (xs,l) S1):Z4p t mi body e S=Z7x t l body xs e S1:=by
  unfold Z4p
  rw [h]
  rfl
theorem Z6g {ms:MG (List X)} {e:Ev} {S S1:Sto} {n:Int} (h:ms e S = .ok [.d (.int n)] S1) (hs:Z4v n=true):Z4g ms e S = .ok (Bv.upTo 0 n.toNat, .free) S1:=by
  unfold Z4g
  rw [h]
  have e1:Y75 [.d (.int n)]=if Z4v n then some (Bv.upTo 0 n.toNat, .free) else none:=rfl
  show Z2o (Y75 [.d (.int n)]) S1=_
  rw [e1,if_pos hs]
  rfl
theorem Z3f {n:Nat} (h:n < 1000):Z4v n=true:=by
  unfold Z4v
  simp
  omega
theorem Z3k {m1 m2:MS} {e e1:Ev} {S S1:Sto} (h:m1 e S = .go (.nx e1) S1):Y4 m1 m2 e S=m2 e1 S1:=by
  unfold Y4
  rw [h]
  rfl
theorem Y6o {N:Nat} {mb:MS} {xs:List X} {S S1 T:Sto} {e:Ev} (h:mb (ev0 N xs) S = .go (.nx e) S1) (h2:cut S.length S1=some T):Y1f N mb xs S = .ok (.d .non) T:=by
  unfold Y1f
  rw [h]
  show (match Z0y S.length S1 (X.d .non),cut S.length S1 with
    | some y,some T=>R.ok y T
    | _,_=>R.ok (X.d .non) S1)=_
  rw [h2]
  rfl
theorem Y8u {C:Str} {g:List X→Sto→R X} {xs:List X} {S S1 T:Sto} {d:D} (h:g (.r S.length :: xs) (S++[.ins C []]) = .ok (.d .non) S1) (h1:frz S1 S.length=some d) (h2:cut S.length S1=some T):made C mkF g xs S = .ok (.d d) T:=by
  unfold made
  rw [h]
  show (match frz S1 S.length,cut S.length S1 with
    | some d,some T=>R.ok (X.d d) T
    | _,_ => .bad)=_
  rw [h1,h2]
theorem Z9s {N:Nat} {mb:MS} {xs:List X} {S S1 T:Sto} {x y:X} (h:mb (ev0 N xs) S = .go (.rt x) S1) (h1:Z0y S.length S1 x=some y) (h2:cut S.length S1=some T):Y1f N mb xs S = .ok y T:=by
  unfold Y1f
  rw [h]
  show (match Z0y S.length S1 x,cut S.length S1 with
    | some y,some T=>R.ok y T
    | _,_ => .ok x S1)=_
  rw [h1,h2]
def OkS (S:Sto):Prop:=S.all (okO S.length)=true
theorem OkS.cut0 {S:Sto} (h:OkS S):cut S.length S=some S:=by
  unfold cut
  rw [List.take_length,if_pos (show S.all (okO S.length)=true from h)]
theorem Z6t {k j:Nat} (h:k ≤ j) {x:X} (a:okX k x=true):okX j x=true:=by
  cases x with
  | d _=>rfl
  | r n=>exact decide_eq_true (Nat.lt_of_lt_of_le (of_decide_eq_true a) h)
theorem Y70 {k j:Nat} (h:k ≤ j) {o:O} (a:okO k o=true):okO j o=true:=by
  cases o with
  | lst xs=>exact List.all_eq_true.mpr fun x m=>Z6t h (List.all_eq_true.mp (show xs.all (okX k)=true from a) x m)
  | dic kvs=>exact List.all_eq_true.mpr fun x m=>Z6t h (List.all_eq_true.mp (show (kvs.all fun p=>okX k p.2)=true from a) x m)
  | fdc kvs=>exact List.all_eq_true.mpr fun x m=>Z6t h (List.all_eq_true.mp (show (kvs.all fun p=>okX k p.2)=true from a) x m)
  | tdc kvs=>exact List.all_eq_true.mpr fun x m=>Z6t h (List.all_eq_true.mp (show (kvs.all fun p=>okX k p.2)=true from a) x m)
  | tfc kvs=>exact List.all_eq_true.mpr fun x m=>Z6t h (List.all_eq_true.mp (show (kvs.all fun p=>okX k p.2)=true from a) x m)
  | ins C fs=>exact List.all_eq_true.mpr fun x m=>Z6t h (List.all_eq_true.mp (show (fs.all fun p=>okX k p.2)=true from a) x m)
theorem OkS.cut {S T:Sto} (h:OkS S):Bv.cut S.length (S++T)=some S:=by
  unfold Bv.cut
  rw [List.take_left,if_pos (show S.all (okO S.length)=true from h)]
theorem OkS.set {S:Sto} (h:OkS S) {b:Nat} {o:O} (ho:okO S.length o=true):OkS (S.set b o):=by
  unfold OkS
  rw [List.length_set]
  refine List.all_eq_true.mpr fun x m=>?_
  rcases List.mem_or_eq_of_mem_set m with m | m
  · exact List.all_eq_true.mp h x m
  · rw [m]; exact ho
theorem OkS.push {S:Sto} (h:OkS S) {o:O} (ho:okO (S.length + 1) o=true):OkS (S++[o]):=by
  unfold OkS
  refine List.all_eq_true.mpr fun x m=>?_
  rw [List.length_append,List.length_singleton]
  rcases List.mem_append.mp m with m | m
  · exact Y70 (Nat.le_succ _) (List.all_eq_true.mp h x m)
  · rw [List.mem_singleton.mp m]; exact ho
theorem Y09:OkS []:=rfl
theorem Y4y {i j:Int} (h:-(2 ^ 64) < j∧j < 2 ^ 64):Y0o (.int i) (.int j)=some (.int (i * j)):=by
  show (if CMul i j then some (D.int (i * j)) else none)=_
  rw [if_pos (show CMul i j from .inr h)]
theorem Y7x {i j:Int} (h:-(2 ^ 64) < i∧i < 2 ^ 64):Y0o (.int i) (.int j)=some (.int (i * j)):=by
  show (if CMul i j then some (D.int (i * j)) else none)=_
  rw [if_pos (show CMul i j from .inl h)]
theorem Y3a {i j:Int} (h:0 < j):Y29 (.int i) (.int j)=some (.int (i % j)):=by
  show (if 0 < j then some (D.int (i % j)) else none)=_
  rw [if_pos h]
theorem Y8n {i j:Int} (h:0 < j∧j < 1073741824):Y5x (.int i) (.int j)=some (.int (i / j)):=by
  show (if CDiv i j then some (D.int (i / j)) else none)=_
  rw [if_pos (show CDiv i j from h)]
theorem Z1a {i j:Int}:Z2f (.int i) (.int j)=some (.int (i + j)):=rfl
theorem Z1n {i j:Int}:Y84 (.int i) (.int j)=some (.int (i - j)):=rfl
theorem Z4m {i j:Int}:gtD (.int i) (.int j)=some (.bl (decide (j < i))):=rfl
theorem Z4n {i j:Int}:ltD (.int i) (.int j)=some (.bl (decide (i < j))):=rfl
theorem Z4o {i j:Int}:geD (.int i) (.int j)=some (.bl (decide (j ≤ i))):=rfl
theorem Z4y {i j:Int}:leD (.int i) (.int j)=some (.bl (decide (i ≤ j))):=rfl
theorem Z9f {a b:Str}:PyData.eqv (.str a) (.str b)=decide (a=b):=by
  rw [Bool.eq_iff_iff]
  simp [PyData.eqv]
theorem Z53 {a b:Str}:eqD (.str a) (.str b)=some (.bl (decide (a=b))):=by
  have h:eqD (.str a) (.str b)=some (.bl (PyData.eqv (.str a) (.str b))):=rfl
  rw [h,Z9f]
theorem Z74 {a b:Str}:neD (.str a) (.str b)=some (.bl (!decide (a=b))):=by
  have h:neD (.str a) (.str b)=some (.bl (!PyData.eqv (.str a) (.str b))):=rfl
  rw [h,Z9f]
theorem Z6d {i j:Int}:eqD (.int i) (.int j)=some (.bl (decide (i=j))):=by
  have h:eqD (.int i) (.int j)=some (.bl (i == j)):=by
    show some (D.bl (PyData.eqv (.int i) (.int j)))=_
    simp [PyData.eqv]
  rw [h]
  rfl
theorem Z9 {v:D} {S:Sto}:(X.d v).get S=some v:=rfl
theorem Z9y (l:List D):ds? (l.map X.d)=some l:=by
  induction l with
  | nil=>rfl
  | cons d r ih=>simp [ds?,ih]
theorem X0v {α:Type} {l:List α} {i:Int} (h0:0 ≤ i) (h:i < l.length):∃ a,atI l i=some a∧a ∈ l:=by
  have hn:i.toNat < l.length:=by omega
  refine ⟨l[i.toNat],?_,List.getElem_mem hn⟩
  unfold atI ixN
  rw [if_pos h0,if_pos h]
  simp [hn]
theorem Y25 {α:Type} {t:Tg} {mt:MG Bool} {me:M} {e:Ev} {S:Sto} (x:α→X) (f:α→D) (c:α→Bool):∀ {l:List α},(∀ a ∈ l,∃ e1,t.asg S (x a) e=some e1∧mt e1 S = .ok (c a) S∧(c a=true→me e1 S = .ok (.d (f a)) S))→lcL t .free mt me e (l.map x) S = .ok ((l.filter c).map f) S
  | [],_=>by simp [lcL,Lk.ok]
  | a :: l,h=>by
    obtain ⟨e1,h1,h2,h3⟩:=h a (by simp)
    have ih:=Y25 (t:=t) (mt:=mt) (me:=me) (e:=e) (S:=S) x f c (l:=l) fun b hb=>h b (List.mem_cons_of_mem _ hb)
    cases hc:c a with
    | false=>simp [lcL,Lk.ok,h1,h2,hc,R.ne,R.bind,ih]
    | true=>simp [lcL,Lk.ok,h1,h2,hc,h3 hc,R.ne,R.bind,ih]
theorem Z8n {α:Type} {t:Tg} {mi:MIt} {me:M} {vs:List Nat} {e:Ev} {S:Sto} (x:α→X) (f:α→D) {l:List α} (hi:mi e S = .ok (l.map x, .free) S) (hl:l.length ≤ sizeLine) (h:∀ a ∈ l,∃ e1,t.asg S (x a) (Z1v e vs)=some e1∧me e1 S = .ok (.d (f a)) S) :
    Z2u t mi Z0h me vs e S = .ok (.d (.lst (l.map f))) S:=by
  have h1:=Y25 (t:=t) (mt:=Z0h) (me:=me) (e:=Z1v e vs) (S:=S) x f (fun _=>true) (l:=l) fun a ha=>by
    obtain ⟨e1,q1,q2⟩:=h a ha
    exact ⟨e1,q1,rfl,fun _=>q2⟩
  have e0:l.filter (fun _=>true)=l:=List.filter_eq_self.mpr fun _ _=>rfl
  rw [e0] at h1
  unfold Z2u
  rw [hi]
  show (lcL t .free Z0h me (Z1v e vs) (l.map x) S).bind Z8l=_
  rw [h1]
  show Z8l (l.map f) S=_
  unfold Z8l
  rw [if_pos (by rw [List.length_map]; exact hl)]
end Bv
namespace Lw
open PySem PySem.Spec L2 Bv
open PyProof.Rows hiding St
variable [HasW]
def box (g n:Int):O := .lst [.d (.int g), .d (.int n)]
def Z2g (S:Sto) (b:Nat):Prop:=∃ g n:Int,S[b]?=some (box g n)∧0 ≤ g∧0 ≤ n
theorem Z2g.lt {S:Sto} {b:Nat} (h:Z2g S b):b < S.length:=by
  obtain ⟨g,n,e,_⟩:=h
  exact (List.getElem?_eq_some_iff.mp e).1
def Drew (S:Sto) (b:Nat) (S2:Sto):Prop:=∃ g n:Int,S2=S.set b (box g n)∧0 ≤ g∧0 ≤ n
theorem Drew.at_ {S S2:Sto} {b:Nat} (d:Drew S b S2) (h:b < S.length):Z2g S2 b:=by
  obtain ⟨g,n,rfl,hg,hn⟩:=d
  exact ⟨g,n,by rw [List.getElem?_set_self h],hg,hn⟩
theorem Drew.len {S S2:Sto} {b:Nat} (d:Drew S b S2):S2.length=S.length:=by
  obtain ⟨g,n,rfl,hg,hn⟩:=d
  simp
theorem Drew.ok {S S2:Sto} {b:Nat} (d:Drew S b S2) (h:OkS S):OkS S2:=by
  obtain ⟨g,n,rfl,hg,hn⟩:=d
  exact h.set rfl
theorem Drew.trans {S S2 S3:Sto} {b:Nat} (d:Drew S b S2) (d2:Drew S2 b S3):Drew S b S3:=by
  obtain ⟨g,n,rfl,hg,hn⟩:=d
  obtain ⟨g2,n2,rfl,hg2,hn2⟩:=d2
  exact ⟨g2,n2,by rw [List.set_set],hg2,hn2⟩
theorem Z17 {S:Sto} {b:Nat} {m:Int} (hS:OkS S) (hb:Z2g S b) (hm:0 < m∧m < 1073741824):∃ (d:Int) (S2:Sto),g__law_choose [.r b, .d (.int m)] S = .ok (.d (.int d)) S2∧0 ≤ d∧d < m∧Drew S b S2:=by
  obtain ⟨g,n,e,hg,hn⟩:=id hb
  have hl:=hb.lt
  unfold box at e
  have hc:∀ g n:Int,cut S.length (S.set b (.lst [.d (.int g), .d (.int n)]))=some (S.set b (box g n)):=fun g n=>by
    have:=(hS.set (b:=b) (o:=box g n) rfl).cut0
    rw [List.length_set] at this
    exact this
  unfold g__law_choose Y1f Z5k
  by_cases hp:0 < g
  · refine ⟨g % m,_,?_,Int.emod_nonneg _ (by omega),Int.emod_lt_of_pos _ hm.1,g / m,n,rfl,Int.ediv_nonneg hg (by omega),hn⟩
    simp [ev0,Y4,Z0l,W5,V2,W0,Z0t,X8,Z0b,V4,U6,Z1s,Z0w,Z00,Z0c,V6,Y1,Q5,Z1,m_c,Z8,Z0,Z6,W8,U2,W9,V7,W2,Z2z,Y3,Y9,Z0s,Z26,W7,V8,X9,Z0i,Z3j,Z1r,Z4s,X5,V0,R.bind,R.so,RO.then,items,ixO,ixD,Z23,Z2o,op2,X.get,tb,Z03,Z02,Z1b,Z0v,slX,V3,Q4,X6,X7,Z39,Z3z,Z0y,Z3u,Z3g,Z3t,Z3h,Z0u,Z3i,Z4r,Z0r,ints?,Z33,Z4j,Z4h,ds?,gets,callP,X.isD,D.noL,D.noLs,D.noLf,U9,Z01,Z1a,Z1n,Z4m,Z4o,Z4n,Z4y,atI,ixN,e,hp,Y3a hm.1,Y8n hm,trunc,hc]
  · refine ⟨((n * 40014 + 31) % 2147483563 * 2147483647 + (((n * 40014 + 31) % 2147483563 * 40692 + 2777) % 2147483629 + 1)) / 8191 % m,_,?_,Int.emod_nonneg _ (by omega),Int.emod_lt_of_pos _ hm.1,g,((n * 40014 + 31) % 2147483563 * 40692 + 2777) % 2147483629 + 1,rfl,hg,by omega⟩
    have h1:∀ i:Int,Y29 (.int i) (.int 2147483563)=some (.int (i % 2147483563)):=fun i=>Y3a (by decide)
    have h2:∀ i:Int,Y29 (.int i) (.int 2147483629)=some (.int (i % 2147483629)):=fun i=>Y3a (by decide)
    have h3:∀ i:Int,Y0o (.int i) (.int 40014)=some (.int (i * 40014)):=fun i=>Y4y (by decide)
    have h4:∀ i:Int,Y0o (.int i) (.int 40692)=some (.int (i * 40692)):=fun i=>Y4y (by decide)
    have h5:∀ i:Int,Y0o (.int i) (.int 2147483647)=some (.int (i * 2147483647)):=fun i=>Y4y (by decide)
    have h6:∀ i:Int,Y5x (.int i) (.int 8191)=some (.int (i / 8191)):=fun i=>Y8n (by decide)
    have hs:∀ o:O,(S.set b o)[b]?=some o:=fun o=>List.getElem?_set_self hl
    simp [ev0,Y4,Z0l,W5,V2,W0,Z0t,X8,Z0b,V4,U6,Z1s,Z0w,Z00,Z0c,V6,Y1,Q5,Z1,m_c,Z8,Z0,Z6,W8,U2,W9,V7,W2,Z2z,Y3,Y9,Z0s,Z26,W7,V8,X9,Z0i,Z3j,Z1r,Z4s,X5,V0,R.bind,R.so,RO.then,items,ixO,ixD,Z23,Z2o,op2,X.get,tb,Z03,Z02,Z1b,Z0v,slX,V3,Q4,X6,X7,Z39,Z3z,Z0y,Z3u,Z3g,Z3t,Z3h,Z0u,Z3i,Z4r,Z0r,ints?,Z33,Z4j,Z4h,ds?,gets,callP,X.isD,D.noL,D.noLs,D.noLf,U9,Z01,Z1a,Z1n,Z4m,Z4o,Z4n,Z4y,atI,ixN,e,hp,Y3a hm.1,h1,h2,h3,h4,h5,h6,hs,trunc,hc]
theorem Z5b {S:Sto} {b:Nat} {ds:List D} (hS:OkS S) (hb:Z2g S b) (h0:ds ≠ []) (hl:ds.length < 1073741824):∃ (d:D) (S2:Sto),g__law_one_of [.r b, .d (.lst ds)] S = .ok (.d d) S2∧d ∈ ds∧Drew S b S2:=by
  have h1:0 < ds.length:=List.length_pos_iff.mpr h0
  obtain ⟨i,S2,e,i0,i1,dr⟩:=Z17 (m:=ds.length) hS hb (by omega)
  obtain ⟨d,q,hm⟩:=X0v (l:=ds.map X.d) i0 (by rw [List.length_map]; exact i1)
  obtain ⟨d',hm',rfl⟩:=List.mem_map.mp hm
  have hc:=(dr.ok hS).cut0
  rw [dr.len] at hc
  refine ⟨d',S2,?_,hm',dr⟩
  unfold g__law_one_of Y1f Z5m
  simp [ev0,Y4,Z0l,W5,V2,W0,Z0t,X8,Z0b,V4,U6,Z1s,Z0w,Z00,Z0c,V6,Y1,Q5,Z1,m_c,Z8,Z0,Z6,W8,U2,W9,V7,W2,Z2z,Y3,Y9,Z0s,Z26,W7,V8,X9,Z0i,Z3j,Z1r,Z4s,X5,V0,R.bind,R.so,RO.then,items,ixO,ixD,Z23,Z2o,op2,X.get,tb,Z03,Z02,Z1b,Z0v,slX,V3,Q4,X6,X7,Z39,Z3z,Z0y,Z3u,Z3g,Z3t,Z3h,Z0u,Z3i,Z4r,Z0r,ints?,Z33,Z4j,Z4h,ds?,gets,callP,X.isD,D.noL,D.noLs,D.noLf,U9,Z01,Z1a,Z1n,Z4m,Z4o,Z4n,Z4y,e,q,trunc,hc]
end Lw
namespace Lw
open PySem PySem.Spec L2 Bv
open PyProof.Rows hiding St
variable [HasW]
theorem Drew.refl {S:Sto} {b:Nat} (h:Z2g S b):Drew S b S:=by
  obtain ⟨g,n,e,hg,hn⟩:=h
  refine ⟨g,n,?_,hg,hn⟩
  obtain ⟨h1,h2⟩:=List.getElem?_eq_some_iff.mp e
  rw [← h2,List.set_getElem_self]
theorem X32 {S:Sto} {A B:O}:(S++[A,B])[S.length]?=some A:=by rw [List.getElem?_append_right (Nat.le_refl _),Nat.sub_self]; rfl
theorem X3s {S:Sto} {A B:O}:(S++[A,B])[S.length + 1]?=some B:=by simp
theorem X3r {S:Sto} {A B A':O}:(S++[A,B]).set S.length A'=S++[A',B]:=by rw [List.set_append_right _ _ (Nat.le_refl _),Nat.sub_self]; rfl
theorem X3t {S:Sto} {A B B':O}:(S++[A,B]).set (S.length + 1) B'=S++[A,B']:=by simp
theorem Y10 {α β:Type} (f:α→β):∀ (l:List α) (i:Nat),(l.map f).eraseIdx i=(l.eraseIdx i).map f
  | [],_=>rfl
  | _ :: _,0=>rfl
  | a :: l,i + 1=>by simp [List.eraseIdx,Y10 f l i]
theorem Y0h {α:Type}:∀ (l:List α) (i:Nat) (h:i < l.length),(l.eraseIdx i++[l[i]]).Perm l
  | a :: l,0,_=>by simpa using (List.perm_append_comm (l₁:=l) (l₂:=[a]))
  | a :: l,i + 1,h=>by
    have:=Y0h l i (by simpa using h)
    simpa using this.cons a
theorem Z4u {k:Nat} (ds:List D):okO k (.lst (ds.map X.d))=true:=by
  show (ds.map X.d).all (okX k)=true
  rw [List.all_map]
  exact List.all_eq_true.mpr fun _ _=>rfl
theorem OkS.two {S:Sto} (h:OkS S) (l r:List D):OkS (S++[.lst (l.map X.d), .lst (r.map X.d)]):=by
  have:=(h.push (o := .lst (l.map X.d)) (Z4u l)).push (o := .lst (r.map X.d)) (Z4u r)
  rwa [List.append_assoc] at this
def X2t (S:Sto) (b:Nat) (ds:List D) (k:Nat) (e:Ev) (T:Sto):Prop:=∃ (left found:List D) (S1:Sto) (o:Option X),e=[some (.r b),some (.d (.lst ds)),some (.r S.length),some (.r (S.length + 1)),o]∧T=S1++[.lst (left.map X.d), .lst (found.map X.d)] ∧
    Drew S b S1∧left.length + k=ds.length∧found.length=k∧(left++found).Perm ds
def X2w:MS:=V2 (Z2z U9 Z0z (Z1 3) (Z0 (Z2z U9 Z9i (Z1 2) (Z0 (Z8 (X6 2 (X7 [] g__law_choose)) (Z0 (Z1 0) (Z0 (Z8 Z0u (Z0 (Z1 2) (Z6))) (Z6)))) (Z6))) (Z6)))
theorem X15 {d:Int} {n:Nat} (d0:0 ≤ d) (d1:d < n) (hn:n < 1000):(-9223372036854775808:Int) ≤ d∧d < 9223372036854775808:=by omega
theorem Y7u {S:Sto} {b:Nat} {ds:List D} (hS:OkS S) (hb:Z2g S b) (hl:ds.length < 1000) {i:Nat} {x:X} {e:Ev} {T:Sto} (hi:i < ds.length) (hI:X2t S b ds i e T):∃ e1 e2 S2,Tg.asg T (.nm 4) x e=some e1∧X2w e1 T = .go (.nx e2) S2∧X2t S b ds (i + 1) e2 S2:=by
    obtain ⟨left,found,S1,o,he,hT,dr,hlen,hf,hp⟩:=hI
    have hS1:OkS S1:=dr.ok hS
    have hb1:=dr.at_ hb.lt
    have hn:S1.length=S.length:=dr.len
    have hTb:Z2g T b:=by
      obtain ⟨g,n,e1,hg,hn1⟩:=hb1
      exact ⟨g,n,by rw [hT,List.getElem?_append_left (List.getElem?_eq_some_iff.mp e1).1,e1],hg,hn1⟩
    have hTok:OkS T:=by rw [hT]; exact OkS.two hS1 left found
    obtain ⟨d,S2,ec,d0,d1,dr2⟩:=Z17 (m:=left.length) hTok hTb (by omega)
    obtain ⟨g2,n2,e2,hg2,hn2⟩:=dr2
    rw [hT,List.set_append_left _ _ hb1.lt] at e2
    have hlt:d.toNat < left.length:=by omega
    have hix:seqIndex? d left.length=some d.toNat:=by
      unfold seqIndex?
      simp [show ¬ d < 0 by omega,d0,d1]
    have lk2:∀ (A B:O),(S1.set b (box g2 n2)++[A,B])[S.length]?=some A:=fun A B=>by
      have:=X32 (S:=S1.set b (box g2 n2)) (A:=A) (B:=B)
      rwa [List.length_set,hn] at this
    have lk3:∀ (A B:O),(S1.set b (box g2 n2)++[A,B])[S.length + 1]?=some B:=fun A B=>by
      have:=X3s (S:=S1.set b (box g2 n2)) (A:=A) (B:=B)
      rwa [List.length_set,hn] at this
    have st2:∀ (A B A':O),(S1.set b (box g2 n2)++[A,B]).set S.length A'=S1.set b (box g2 n2)++[A',B]:=fun A B A'=>by
      have:=X3r (S:=S1.set b (box g2 n2)) (A:=A) (B:=B) (A':=A')
      rwa [List.length_set,hn] at this
    have st3:∀ (A B A':O),(S1.set b (box g2 n2)++[A,B]).set (S.length + 1) A'=S1.set b (box g2 n2)++[A,A']:=fun A B A'=>by
      have:=X3t (S:=S1.set b (box g2 n2)) (A:=A) (B:=B) (B':=A')
      rwa [List.length_set,hn] at this
    have lk0:T[S.length]?=some (.lst (left.map X.d)):=by rw [hT,← hn]; exact X32
    have lk1:T[S.length + 1]?=some (.lst (found.map X.d)):=by rw [hT,← hn]; exact X3s
    have hget:left[d.toNat]?=some left[d.toNat]:=List.getElem?_eq_getElem hlt
    subst he e2
    refine ⟨[some (.r b),some (.d (.lst ds)),some (.r S.length),some (.r (S.length + 1)),some x],[some (.r b),some (.d (.lst ds)),some (.r S.length),some (.r (S.length + 1)),some x],S1.set b (box g2 n2)++[.lst ((left.eraseIdx d.toNat).map X.d), .lst ((found++[left[d.toNat]]).map X.d)],rfl,?_,left.eraseIdx d.toNat,found++[left[d.toNat]],S1.set b (box g2 n2),some x,rfl,rfl,dr.trans ⟨g2,n2,rfl,hg2,hn2⟩,?_,?_,?_⟩
    · have hfl:(found.map X.d).length < sizeLine:=by rw [List.length_map,sizeLine_eq]; omega
      have h63:=X15 d0 d1 (by omega)
      have em:List.map X.d (left.eraseIdx d.toNat)=(left.map X.d).eraseIdx d.toNat:=(Y10 X.d left d.toNat).symm
      rw [em,List.map_append]
      rw [List.length_map] at hfl
      unfold X2w
      simp [ev0,Y4,Z0l,W5,V2,W0,Z0t,X8,Z0b,V4,U6,Z1s,Z0w,Z00,Z0c,V6,Y1,Q5,Z1,m_c,Z8,Z0,Z6,W8,U2,W9,V7,W2,Z2z,Y3,Y9,Z0s,Z26,W7,V8,X9,Z0i,Z3j,Z1r,Z4s,X5,V0,R.bind,R.so,RO.then,items,ixO,ixD,Z23,Z2o,op2,X.get,tb,Z03,Z02,Z1b,Z0v,slX,V3,Q4,X6,X7,Z39,Z3z,Z0y,Z3u,Z3g,Z3t,Z3h,Z0u,Z3i,Z4r,Z0r,ints?,Z33,Z4j,Z4h,ds?,gets,callP,X.isD,D.noL,D.noLs,D.noLf,U9,Z01,Z1a,Z1n,Z4m,Z4o,Z4n,Z4y,lk0,lk1,ec,Z9i,Z0z,lk2,lk3,st2,st3,hix,hget,h63,hfl]
    · rw [List.length_eraseIdx_of_lt hlt]; omega
    · simp [hf]
    · refine List.Perm.trans ?_ hp
      have h1:=Y0h left d.toNat hlt
      have h2:(left.eraseIdx d.toNat++(found++[left[d.toNat]])).Perm (left.eraseIdx d.toNat++([left[d.toNat]]++found)):=List.Perm.append_left _ List.perm_append_comm
      rw [← List.append_assoc _ [left[d.toNat]]] at h2
      exact h2.trans (h1.append_right found)
theorem Y7v {S:Sto} {b:Nat} {ds:List D} (hS:OkS S) (hb:Z2g S b) (hl:ds.length < 1000):∃ (r:List D) (S2:Sto),g__law_mixed [.r b, .d (.lst ds)] S = .ok (.d (.lst r)) S2∧r.Perm ds∧Drew S b S2:=by
  have start:X2t S b ds 0 [some (.r b),some (.d (.lst ds)),some (.r S.length),some (.r (S.length + 1)),none] (S++[.lst (ds.map X.d), .lst []]):=⟨ds,[],S,none,rfl,rfl,Drew.refl hb,rfl,rfl,by simp⟩
  have loop:=Y03 (t := .nm 4) (body:=X2w) (X2t S b ds) (xs:=Bv.upTo 0 ds.length) (k:=0) start fun i x hx e T hI=>by
    have hi:i < ds.length:=by
      have:=(List.getElem?_eq_some_iff.mp hx).1
      simpa [Bv.upTo] using this
    rw [Nat.zero_add] at hI ⊢
    exact Y7u hS hb hl hi hI
  obtain ⟨e2,T,hl2,left,found,S1,o,he,hT,dr,hlen,hf,hp⟩:=loop
  have hu:(Bv.upTo 0 ds.length).length=ds.length:=by simp [Bv.upTo]
  rw [hu,Nat.zero_add] at hlen
  have h0:left=[]:=List.length_eq_zero_iff.mp (by omega)
  subst h0
  refine ⟨found,S1,?_,by simpa using hp,dr⟩
  have hn:S1.length=S.length:=dr.len
  have hc:cut S.length T=some S1:=by rw [hT,← hn]; exact (dr.ok hS).cut
  have lk1:T[S.length + 1]?=some (.lst (found.map X.d)):=by rw [hT,← hn]; exact X3s
  have hsm:Z4v ds.length=true:=Z3f hl
  have hd:ds.length ≤ sizeLine:=by rw [sizeLine_eq]; omega
  have p1:Z0w 2 3 (Z0 (Z8 Y55 (Z0 (Z1 1) (Z6))) (Z0 (V7 (Z6)) (Z6))) (ev0 5 [.r b, .d (.lst ds)]) S = .go (.nx [some (.r b),some (.d (.lst ds)),some (.r S.length),some (.r (S.length + 1)),none]) (S++[.lst (ds.map X.d), .lst []]):=by
    simp [ev0,Y4,Z0l,W5,V2,W0,Z0t,X8,Z0b,V4,U6,Z1s,Z0w,Z00,Z0c,V6,Y1,Q5,Z1,m_c,Z8,Z0,Z6,W8,U2,W9,V7,W2,Z2z,Y3,Y9,Z0s,Z26,W7,V8,X9,Z0i,Z3j,Z1r,Z4s,X5,V0,R.bind,R.so,RO.then,items,ixO,ixD,Z23,Z2o,op2,X.get,tb,Z03,Z02,Z1b,Z0v,slX,V3,Q4,X6,X7,Z39,Z3z,Z0y,Z3u,Z3g,Z3t,Z3h,Z0u,Z3i,Z4r,Z0r,ints?,Z33,Z4j,Z4h,ds?,gets,callP,X.isD,D.noL,D.noLs,D.noLf,U9,Z01,Z1a,Z1n,Z4m,Z4o,Z4n,Z4y,Y55]
  have p2:Z4g (Z0 (Z8 Z0u (Z0 (Z1 1) (Z6))) (Z6)) [some (.r b),some (.d (.lst ds)),some (.r S.length),some (.r (S.length + 1)),none] (S++[.lst (ds.map X.d), .lst []]) = .ok (Bv.upTo 0 ds.length, .free) (S++[.lst (ds.map X.d), .lst []]):=by
    refine Z6g (n:=ds.length) ?_ hsm
    simp [ev0,Y4,Z0l,W5,V2,W0,Z0t,X8,Z0b,V4,U6,Z1s,Z0w,Z00,Z0c,V6,Y1,Q5,Z1,m_c,Z8,Z0,Z6,W8,U2,W9,V7,W2,Z2z,Y3,Y9,Z0s,Z26,W7,V8,X9,Z0i,Z3j,Z1r,Z4s,X5,V0,R.bind,R.so,RO.then,items,ixO,ixD,Z23,Z2o,op2,X.get,tb,Z03,Z02,Z1b,Z0v,slX,V3,Q4,X6,X7,Z39,Z3z,Z0y,Z3u,Z3g,Z3t,Z3h,Z0u,Z3i,Z4r,Z0r,ints?,Z33,Z4j,Z4h,ds?,gets,callP,X.isD,D.noL,D.noLs,D.noLf,U9,Z01,Z1a,Z1n,Z4m,Z4o,Z4n,Z4y]
  have p3:=(Y4g (t := .nm 4) (body:=X2w) p2).trans hl2
  have p4:Z0t (Z1 3) e2 T = .go (.rt (.r (S.length + 1))) T:=by rw [he]; rfl
  have p6:Z0y S.length T (.r (S.length + 1))=some (.d (.lst found)):=by
    simp [Z0y,X.get,lk1,Z9y,show ¬ (S.length + 1 < S.length) by omega]
  exact Z9s ((Z3k p1).trans ((Z3k p3).trans p4)) p6 hc
end Lw
namespace Lt
open Lw
open PySem PySem.Spec L2 Bv
open PyProof.Rows hiding St
variable [HasW]
theorem Y9j {α:Type} (xs:List α) {h:Int} (h0:0 ≤ h) (h1:h ≤ xs.length):Z3s xs none (some h)=xs.take h.toNat:=by
  have e:HT.sIx xs.length xs.length (some h)=h.toNat:=by
    show (if h < 0 then (h + (xs.length:Int)).toNat else min h.toNat xs.length)=h.toNat
    rw [if_neg (by omega)]
    omega
  unfold Z3s
  rw [e]
  simp [HT.sIx]
theorem cutL_one {α:Type} (x:α) (xs:List α):Z3s (x :: xs) (some 1) none=xs:=by
  unfold Z3s
  simp [HT.sIx]
def Z68:List Str:=["none", "doubt", "good", "old", "a", "ab", "bad", "zzzzz", "give", "marks", "shown", "kept"]
theorem Y58 {S:Sto} {b:Nat} (hS:OkS S) (hb:Z2g S b):∃ (m0:Str) (ms:List Str) (S2:Sto),g__law_marks [.r b] S = .ok (.d (.lst ((m0 :: ms).map D.str))) S2∧(∀ x ∈ m0 :: ms,x ∈ Z68)∧ms.length < 4∧0 < ms.length∧(m0 :: ms).Nodup∧Drew S b S2:=by
  obtain ⟨r,S1,e1,hp,d1⟩:=Y7v (ds:=Z68.map D.str) hS hb (by decide)
  obtain ⟨d,S2,e2,d0,dm,d2⟩:=Z17 (m:=3) (d1.ok hS) (d1.at_ hb.lt) (by decide)
  have hl:r.length=12:=by rw [hp.length_eq]; rfl
  have ht:=Y9j r (h:=2 + d) (by omega) (by omega)
  have hm:∀ x ∈ r,∃ s ∈ Z68,x=D.str s:=fun x hx=>by
    obtain ⟨s,h1,h2⟩:=List.mem_map.mp (hp.mem_iff.mp hx)
    exact ⟨s,h1,h2.symm⟩
  have hstr:∀ l:List D,(∀ x ∈ l,∃ s ∈ Z68,x=D.str s)→∃ ss:List Str,l=ss.map D.str∧∀ x ∈ ss,x ∈ Z68:=fun l=>by
    induction l with
    | nil=>exact fun _=>⟨[],rfl,by simp⟩
    | cons x l ih =>
      intro h
      obtain ⟨s,h1,rfl⟩:=h x (by simp)
      obtain ⟨ss,rfl,h2⟩:=ih fun y hy=>h y (List.mem_cons_of_mem _ hy)
      exact ⟨s :: ss,rfl,fun y hy=>(List.mem_cons.mp hy).elim (fun e=>e ▸ h1) (h2 y)⟩
  obtain ⟨ss,hss,hsm⟩:=hstr (r.take (2 + d).toNat) fun x hx=>hm x (List.mem_of_mem_take hx)
  have hsl:ss.length=(2 + d).toNat:=by
    have:=congrArg List.length hss
    rw [List.length_take,List.length_map] at this
    omega
  cases ss with
  | nil=>simp at hsl; omega
  | cons m0 ms =>
    have hnd:((m0 :: ms).map D.str).Nodup:=by
      rw [← hss]
      have hN:(Z68.map D.str).Nodup:=by
        refine List.Pairwise.map D.str (fun a b h e=>h (by cases e; rfl)) (show Z68.Nodup by decide +kernel)
      exact ((hp.nodup_iff).mpr hN).sublist (List.take_sublist _ _)
    refine ⟨m0,ms,S2,?_,hsm,?_,?_,List.Pairwise.of_map D.str (fun a b h e=>h (by rw [e])) hnd,d1.trans d2⟩
    · have hc:=(d2.ok (d1.ok hS)).cut0
      rw [d2.len,d1.len] at hc
      have hd:(Z68.map D.str).length ≤ sizeLine:=by decide
      have e1':g__law_mixed [.r b, .d (.lst [.str "none", .str "doubt", .str "good", .str "old", .str "a", .str "ab", .str "bad", .str "zzzzz", .str "give", .str "marks", .str "shown", .str "kept"])] S = .ok (.d (.lst r)) S1:=e1
      rw [hss] at ht
      refine Z9s (S1:=S2) (x := .d (.lst ((m0 :: ms).map D.str))) ?_ rfl hc
      have hd':(12:Nat) ≤ sizeLine:=by decide
      unfold Z6a
      simp [ev0,Y4,Z0l,W5,V2,W0,Z0t,X8,Z0b,V4,U6,Z1s,Z0w,Z00,Z0c,V6,Y1,Q5,Z1,m_c,Z8,Z0,Z6,W8,U2,W9,V7,W2,Z2z,Y3,Y9,Z0s,Z26,W7,V8,X9,Z0i,Z3j,Z1r,Z4s,X5,V0,R.bind,R.so,RO.then,items,ixO,ixD,Z23,Z2o,op2,X.get,tb,Z03,Z02,Z1b,Z0v,slX,V3,Q4,X6,X7,Z39,Z3z,Z0y,Z3u,Z3g,Z3t,Z3h,Z0u,Z3i,Z4r,Z0r,ints?,Z33,Z4j,Z4h,ds?,gets,callP,X.isD,D.noL,D.noLs,D.noLf,U9,Z01,Z1a,Z1n,Z4m,Z4o,Z4n,Z4y,e1',e2,ht,hd']
    · simp at hsl; omega
    · simp at hsl; omega
def NAMES:List Str:=Z68++(["carry", "drop", "back", "right", "wrong", "qqqq", "asked"]:List Str)
theorem Y7t {S:Sto} {b:Nat} (hS:OkS S) (hb:Z2g S b):∃ (m0:Str) (ms:List Str) (S2:Sto),g__law_marks [.r b] S = .ok (.d (.lst ((m0 :: ms).map D.str))) S2∧(∀ x ∈ m0 :: ms,x ∈ NAMES)∧ms.length < 4∧0 < ms.length∧(m0 :: ms).Nodup∧Drew S b S2:=by
  obtain ⟨m0,ms,S2,e,hm,r⟩:=Y58 hS hb
  exact ⟨m0,ms,S2,e,fun x hx=>List.mem_append_left _ (hm x hx),r⟩
def HAPS:List Str:=["give", "give", "carry", "carry", "drop", "back", "right", "wrong"]
def Y3u (w o t:Str) (k:Bool):D := .tup [.str w, .str o, .str t, .bl k]
def RowOk (w o t:Str) (k:Bool):Prop:=w ∈ HAPS∧o ∈ ("any" : Str) :: NAMES∧t ∈ ("same" : Str) :: NAMES∧(w ≠ "give" → k=true)
def Z86 (m0:Str) (ms:List Str) (w o t:Str) (k:Bool):Prop:=w ∈ HAPS∧o ∈ ("any" : Str) :: m0 :: ms∧t ∈ ("same" : Str) :: m0 :: ms∧(w ≠ "give" → k=true∧o ∈ ("any" : Str) :: ms)
theorem Z86.ok {m0:Str} {ms:List Str} {w o t:Str} {k:Bool} (hm:∀ x ∈ m0 :: ms,x ∈ NAMES) (h:Z86 m0 ms w o t k):RowOk w o t k :=
  ⟨h.1,(List.mem_cons.mp h.2.1).elim (fun e=>by rw [e]; simp) (fun e=>List.mem_cons_of_mem _ (hm o e)),(List.mem_cons.mp h.2.2.1).elim (fun e=>by rw [e]; simp) (fun e=>List.mem_cons_of_mem _ (hm t e)),fun e=>(h.2.2.2 e).1⟩
theorem row_ok {S:Sto} {b:Nat} {m0:Str} {ms:List Str} (hS:OkS S) (hb:Z2g S b) (hm:∀ x ∈ m0 :: ms,x ∈ NAMES) (hl:ms.length < 4) (hl0:0 < ms.length):∃ (w o t:Str) (k:Bool) (S2:Sto),g__law_row [.r b, .d (.lst ((m0 :: ms).map D.str))] S = .ok (.d (Y3u w o t k)) S2∧Z86 m0 ms w o t k∧Drew S b S2:=by
  obtain ⟨dw,S1,e1,hwD,d1⟩:=Z5b (ds:=HAPS.map D.str) hS hb (by decide) (by decide)
  obtain ⟨w,hw,rfl⟩:=List.mem_map.mp hwD
  have hS1:OkS S1:=d1.ok hS
  have hb1:=d1.at_ hb.lt
  obtain ⟨dO,S2,e2,hoD,d2⟩:=Z5b (ds:=ms.map D.str++[.str "any", .str "any"]) hS1 hb1 (by simp) (by simp; omega)
  have hoE:∃ o,dO = .str o∧o ∈ ("any" : Str) :: ms:=by
    rcases List.mem_append.mp hoD with h | h
    · obtain ⟨o,h1,rfl⟩:=List.mem_map.mp h
      exact ⟨o,rfl,List.mem_cons_of_mem _ h1⟩
    · exact ⟨"any",by simpa using h,by simp⟩
  obtain ⟨o,rfl,ho⟩:=hoE
  have hS2:OkS S2:=d2.ok hS1
  have hb2:=d2.at_ hb1.lt
  have hz:∀ n:Nat,n < 1000→n ≤ sizeLine:=fun n h=>by rw [sizeLine_eq]; omega
  have hz1:(ms.map D.str).length + 2 ≤ sizeLine:=hz _ (by simp; omega)
  have hz2:(ms.map D.str).length + 1 + 1 ≤ sizeLine:=hz _ (by simp; omega)
  have e1':g__law_one_of [.r b, .d (.lst [.str "give", .str "give", .str "carry", .str "carry", .str "drop", .str "back", .str "right", .str "wrong"])] S = .ok (.d (.str w)) S1:=e1
  have h8:(8:Nat) ≤ sizeLine:=hz _ (by decide)
  have h2:(2:Nat) ≤ sizeLine:=hz _ (by decide)
  have h1:(1:Nat) ≤ sizeLine:=hz _ (by decide)
  have h4:(4:Nat) ≤ sizeLine:=hz _ (by decide)
  have ha1:Z2f (.lst (ms.map D.str)) (.lst [.str "any", .str "any"])=some (.lst (ms.map D.str++[.str "any", .str "any"])):=if_pos hz1
  have ha2:Z2f (.lst (D.str m0 :: ms.map D.str)) (.lst [.str "same"])=some (.lst (D.str m0 :: (ms.map D.str++[.str "same"]))):=if_pos hz2
  have hcut:Z3s (D.str m0 :: ms.map D.str) (some 1) none=ms.map D.str:=cutL_one _ _
  have last:∀ (T:Sto) (o:Str) (k:Bool),OkS T→Z2g T b→Drew S b T→o ∈ ("any" : Str) :: m0 :: ms→(w ≠ "give" → k=true∧o ∈ ("any" : Str) :: ms)→∃ (t:Str) (T2:Sto),g__law_one_of [.r b, .d (.lst (D.str m0 :: (ms.map D.str++[.str "same"])))] T = .ok (.d (.str t)) T2∧Z86 m0 ms w o t k∧Drew S b T2:=fun T o k hT hbT dT ho hk=>by
    obtain ⟨dt,T2,e5,htD,d5⟩:=Z5b (ds:=D.str m0 :: ms.map D.str++[.str "same"]) hT hbT (by simp) (by simp; omega)
    have htE:∃ t,dt = .str t∧t ∈ ("same" : Str) :: m0 :: ms:=by
      rcases List.mem_append.mp htD with h | h
      · obtain ⟨t,h1,rfl⟩:=List.mem_map.mp (show dt ∈ (m0 :: ms).map D.str from h)
        exact ⟨t,rfl,List.mem_cons_of_mem _ h1⟩
      · exact ⟨"same",by simpa using h,by simp⟩
    obtain ⟨t,rfl,ht⟩:=htE
    exact ⟨t,T2,e5,⟨hw,ho,ht,hk⟩,dT.trans d5⟩
  have dS2:Drew S b S2:=d1.trans d2
  by_cases hg:w = "give"
  · obtain ⟨c,S3,e3,c0,c1,d3⟩:=Z17 (m:=4) hS2 hb2 (by decide)
    have hS3:OkS S3:=d3.ok hS2
    have hb3:=d3.at_ hb2.lt
    obtain ⟨c2,S4,e4,c20,c21,d4⟩:=Z17 (m:=4) hS3 hb3 (by decide)
    have hS4:OkS S4:=d4.ok hS3
    have hb4:=d4.at_ hb3.lt
    have dS4:Drew S b S4:=(dS2.trans d3).trans d4
    obtain ⟨t,T2,e5,hr,d5⟩:=last S4 (if c=0 then m0 else o) (decide (0 < c2)) hS4 hb4 dS4 (by
      split
      · simp
      · exact (List.mem_cons.mp ho).elim (fun e=>by rw [e]; simp) fun e=>List.mem_cons_of_mem _ (List.mem_cons_of_mem _ e)) (fun h=>absurd hg h)
    refine ⟨w,_,t,_,T2,?_,hr,d5⟩
    have hc:=(d5.ok hS).cut0
    rw [d5.len] at hc
    subst hg
    refine Z9s (S1:=T2) (x := .d (Y3u "give" (if c=0 then m0 else o) t (decide (0 < c2)))) ?_ rfl hc
    have q0:eqD (.int c) (.int 0)=some (.bl (decide (c=0))):=Z6d
    unfold Z6r
    by_cases hc0:c=0
    · simp [ev0,Y4,Z0l,W5,V2,W0,Z0t,X8,Z0b,V4,U6,Z1s,Z0w,Z00,Z0c,V6,Y1,Q5,Z1,m_c,Z8,Z0,Z6,W8,U2,W9,V7,W2,Z2z,Y3,Y9,Z0s,Z26,W7,V8,X9,Z0i,Z3j,Z1r,Z4s,X5,V0,R.bind,R.so,RO.then,items,ixO,ixD,Z23,Z2o,op2,X.get,tb,Z03,Z02,Z1b,Z0v,slX,V3,Q4,X6,X7,Z39,Z3z,Z0y,Z3u,Z3g,Z3t,Z3h,Z0u,Z3i,Z4r,Z0r,ints?,Z33,Z4j,Z4h,ds?,gets,callP,X.isD,D.noL,D.noLs,D.noLf,U9,Z01,Z1a,Z1n,Z4m,Z4o,Z4n,Z4y,e1',e2,e3,e4,h8,h2,h1,h4,ha1,ha2,hcut,Z53,Z74,Z6d,hc0,Y3u,atI,ixN,e5]
    · simp [ev0,Y4,Z0l,W5,V2,W0,Z0t,X8,Z0b,V4,U6,Z1s,Z0w,Z00,Z0c,V6,Y1,Q5,Z1,m_c,Z8,Z0,Z6,W8,U2,W9,V7,W2,Z2z,Y3,Y9,Z0s,Z26,W7,V8,X9,Z0i,Z3j,Z1r,Z4s,X5,V0,R.bind,R.so,RO.then,items,ixO,ixD,Z23,Z2o,op2,X.get,tb,Z03,Z02,Z1b,Z0v,slX,V3,Q4,X6,X7,Z39,Z3z,Z0y,Z3u,Z3g,Z3t,Z3h,Z0u,Z3i,Z4r,Z0r,ints?,Z33,Z4j,Z4h,ds?,gets,callP,X.isD,D.noL,D.noLs,D.noLf,U9,Z01,Z1a,Z1n,Z4m,Z4o,Z4n,Z4y,e1',e2,e3,e4,h8,h2,h1,h4,ha1,ha2,hcut,Z53,Z74,Z6d,hc0,Y3u,atI,ixN,e5]
  · obtain ⟨t,T2,e5,hr,d5⟩:=last S2 o true hS2 hb2 dS2 ((List.mem_cons.mp ho).elim (fun e=>by rw [e]; simp) fun e=>List.mem_cons_of_mem _ (List.mem_cons_of_mem _ e)) (fun _=>⟨rfl,ho⟩)
    refine ⟨w,o,t,true,T2,?_,hr,d5⟩
    have hc:=(d5.ok hS).cut0
    rw [d5.len] at hc
    refine Z9s (S1:=T2) (x := .d (Y3u w o t true)) ?_ rfl hc
    unfold Z6r
    simp [ev0,Y4,Z0l,W5,V2,W0,Z0t,X8,Z0b,V4,U6,Z1s,Z0w,Z00,Z0c,V6,Y1,Q5,Z1,m_c,Z8,Z0,Z6,W8,U2,W9,V7,W2,Z2z,Y3,Y9,Z0s,Z26,W7,V8,X9,Z0i,Z3j,Z1r,Z4s,X5,V0,R.bind,R.so,RO.then,items,ixO,ixD,Z23,Z2o,op2,X.get,tb,Z03,Z02,Z1b,Z0v,slX,V3,Q4,X6,X7,Z39,Z3z,Z0y,Z3u,Z3g,Z3t,Z3h,Z0u,Z3i,Z4r,Z0r,ints?,Z33,Z4j,Z4h,ds?,gets,callP,X.isD,D.noL,D.noLs,D.noLf,U9,Z01,Z1a,Z1n,Z4m,Z4o,Z4n,Z4y,e1',e2,h8,h2,h1,h4,ha1,ha2,hcut,Z53,Z74,hg,Y3u,e5]
end Lt
namespace Bv
open PySem PySem.Spec L2
open PyProof.Rows hiding St
variable [HasW]
section
variable {X:Cx} {Wx:WX} {k:Nat}
end
section
variable {X:Cx} {Wx:WX} {pos p:Pos} {x:Str} {C:Str} {g:List Bv.X→Sto→R Bv.X}
end
end Bv
namespace Bv
open PySem PySem.Spec L2
open PyProof.Rows hiding St
variable [HasW]
section
variable {X:Cx} {Wx:WX} {pos:Pos} {a b c:Expr} {ms:MG (List Bv.X)}
end
end Bv
namespace Bv
open PySem PySem.Spec L2
open PyProof.Rows hiding St
variable [HasW]
end Bv
namespace Bv
open PySem PySem.Spec L2
open PyProof.Rows hiding St
variable [HasW]
section
variable {e e1:Ev} {S S1 S2 S3 S4:Sto} {m ma mb mc mo mi mb':M} {ms:MG (List X)} {mt mt2:MG Bool} {x y z:X} {xs ys:List X} {d d1 d2:D} {r:R X} {rb:R Bool} {ro:RO} {b c:Bool} {i:Nat}
theorem Z5 (h:e[i]?=some (some x)):Z1 i e S = .ok x S:=by
  unfold Z1
  rw [h]
theorem W1:m_c d e S = .ok (.d d) S:=rfl
theorem Y5:Z6 e S = .ok [] S:=rfl
theorem Z7 (h1:m e S = .ok x S1) (h2:ms e S1 = .ok xs S2):Z0 m ms e S = .ok (x :: xs) S2:=by
  unfold Z0
  rw [h1]
  show (ms e S1).bind _=_
  rw [h2]
  rfl
theorem Z9h (h1:m e S = .ok x S1) (hi:items S1 x=some ys) (h2:ms e S1 = .ok xs S2):W8 m ms e S = .ok (ys++xs) S2:=by
  unfold W8
  rw [h1]
  show (match items S1 x with
    | some ys=>(ms e S1).bind fun xs S2=>R.ok (ys++xs) S2
    | none => .bad)=_
  rw [hi]
  show (ms e S1).bind _=_
  rw [h2]
  rfl
theorem Y6 {f:D→D→Option D} (h1:ma e S = .ok x S1) (h2:mb e S1 = .ok y S2) (h3:x.get S2=some d1) (h4:y.get S2=some d2) (h:f d1 d2=some d):Y1 f ma mb e S = .ok (.d d) S2:=by
  unfold Y1
  rw [h1]
  show (mb e S1).bind _=_
  rw [h2]
  show op2 f S2 x y=_
  unfold op2
  rw [h3,h4]
  show (match f d1 d2 with
    | some d=>R.ok (X.d d) S2
    | none => .bad)=_
  rw [h]
theorem X4 {g:List X→Sto→R X} (h1:ms e S = .ok xs S1) (h:g xs S1=r):Z8 g ms e S=r:=by
  unfold Z8
  rw [h1]
  exact h
theorem U4 {n:Nat} {g:List X→Sto→R X} (hl:xs.length=n) (h:g xs S=r):X6 n (X7 [] g) xs S=r:=by
  unfold X6 X7
  rw [if_pos (decide_eq_true hl),List.map_nil,List.append_nil]
  exact h
theorem Y5z:∀ ds:List D,gets S (ds.map X.d)=some ds
  | []=>rfl
  | d :: ds=>by
    show (match (X.d d).get S,gets S (ds.map X.d) with
      | some d,some l=>some (d :: l)
      | _,_=>none)=_
    rw [Y5z ds]
    rfl
theorem Y8q:∀ ds:List D,(ds.map X.d).all X.isD=true
  | []=>rfl
  | d :: ds=>by
    rw [List.map_cons,List.all_cons,Y8q ds]
    rfl
theorem X3w {g:List D→PR} {ds:List D} (hx:xs=ds.map X.d) (h:g ds = .ok d):callP g xs S = .ok (.d d) S:=by
  subst hx
  unfold callP
  rw [Y5z,Y8q]
  show (match g ds with
    | .ok d=>if true || d.noL then R.ok (X.d d) S else .bad
    | .err C fs=>if true || D.noLf fs then .err C fs S else .bad
    | .bad => .bad)=_
  rw [h]
  rfl
theorem Z47 {g:List D→PR} (h:g [d1] = .ok d):callP g [.d d1] S = .ok (.d d) S:=X3w (ds:=[d1]) rfl h
theorem Y4v {g:List D→PR} (h:g [d1,d2] = .ok d):callP g [.d d1, .d d2] S = .ok (.d d) S:=X3w (ds:=[d1,d2]) rfl h
theorem Y9k {g:List D→PR} {ds:List D} (hx:gets S xs=some ds) (h:g ds = .ok d) (hn:d.noL=true):callP g xs S = .ok (.d d) S:=by
  unfold callP
  rw [hx]
  show (match g ds with
    | .ok d=>if xs.all X.isD || d.noL then R.ok (X.d d) S else .bad
    | .err C fs=>if xs.all X.isD || D.noLf fs then .err C fs S else .bad
    | .bad => .bad)=_
  rw [h]
  show (if xs.all X.isD || d.noL then R.ok (X.d d) S else .bad)=_
  rw [hn,Bool.or_true]
  rfl
theorem X1a {g:List D→PR} {ds:List D} {C:Str} {fs:List (Str × D)} (hx:gets S xs=some ds) (h:g ds = .err C fs) (hn:D.noLf fs=true):callP g xs S = .err C fs S:=by
  unfold callP
  rw [hx]
  show (match g ds with
    | .ok d=>if xs.all X.isD || d.noL then R.ok (X.d d) S else .bad
    | .err C fs=>if xs.all X.isD || D.noLf fs then .err C fs S else .bad
    | .bad => .bad)=_
  rw [h]
  show (if xs.all X.isD || D.noLf fs then R.err C fs S else .bad)=_
  rw [hn,Bool.or_true]
  rfl
theorem Z0n {j:Int} (h1:ma e S = .ok x S1) (h2:mb e S1 = .ok (.d (.int j)) S2) (h:ixO S2 x j=some z):Q5 ma mb e S = .ok z S2:=by
  unfold Q5
  rw [h1]
  show (mb e S1).bind _=_
  rw [h2]
  show Z2o ((Z23 (.d (.int j))).bind (ixO S2 x)) S2=_
  show Z2o (ixO S2 x j) S2=_
  rw [h]
  rfl
theorem Z4b {Cs:List Str} {f:Str} (h1:m e S = .ok x S1) (h:Z0v Cs f S1 x=some z):W2 Cs f m e S = .ok z S1:=by
  unfold W2
  rw [h1]
  show Z2o (Z0v Cs f S1 x) S1=_
  rw [h]
  rfl
theorem Y7l:∀ ds:List D,ds? (ds.map X.d)=some ds
  | []=>rfl
  | d :: ds=>by
    show (match X.d d,ds? (ds.map X.d) with
      | .d v,some l=>some (v :: l)
      | _,_=>none)=_
    rw [Y7l ds]
theorem Z6f {ds:List D} (h1:ms e S = .ok xs S1) (hd:ds? xs=some ds) (hl:ds.length ≤ sizeLine):U2 ms e S = .ok (.d (.tup ds)) S1:=by
  unfold U2
  rw [h1]
  show Z03 xs S1=_
  unfold Z03
  rw [hd]
  show (if ds.length ≤ sizeLine then _ else _)=_
  rw [if_pos hl]
theorem Z27 {ds:List D} (h1:ms e S = .ok xs S1) (hd:ds? xs=some ds) (hl:ds.length ≤ sizeLine):W9 ms e S = .ok (.d (.lst ds)) S1:=by
  unfold W9
  rw [h1]
  show Z02 xs S1=_
  unfold Z02
  rw [hd]
  show (if ds.length ≤ sizeLine then _ else _)=_
  rw [if_pos hl]
theorem Y5u (h1:ms e S = .ok xs S1) (hl:xs.length ≤ sizeLine):V7 ms e S = .ok (.r S1.length) (S1++[.lst xs]):=by
  unfold V7
  rw [h1]
  show Z1b xs S1=_
  unfold Z1b
  rw [if_pos hl]
theorem Z4x:Z0s e S = .ok none S:=rfl
theorem Z1c {j:Int} (h:m e S = .ok (.d (.int j)) S1):Y9 m e S = .ok (some j) S1:=by
  unfold Y9
  rw [h]
  rfl
theorem Z0p {ml mh:MG (Option Int)} {lo hi:Option Int} (h1:m e S = .ok x S1) (h2:ml e S1 = .ok lo S2) (h3:mh e S2 = .ok hi S3) (h:slX S3 x lo hi=some z):Y3 m ml mh e S = .ok z S3:=by
  unfold Y3
  rw [h1]
  show (ml e S1).bind _=_
  rw [h2]
  show (mh e S2).bind _=_
  rw [h3]
  show Z2o (slX S3 x lo hi) S3=_
  rw [h]
  rfl
theorem X1b {ty:Sto→X→Bool} {g:X→List X→Sto→R X} (h1:mo e S = .ok x S1) (ht:ty S1 x=true) (h2:ms e S1 = .ok xs S2) (h:g x xs S2=r):Z2z ty g mo ms e S=r:=by
  unfold Z2z
  rw [h1]
  show (if ty S1 x then (ms e S1).bind fun xs S2=>g x xs S2 else .bad)=_
  rw [ht,h2]
  exact h
theorem Z6e {g:Str→X→Sto→R X} {a:Str} (h1:mo e S = .ok (.d (.str a)) S1) (h2:m e S1 = .ok y S2) (h:g a y S2=r):Z1e g mo m e S=r:=by
  unfold Z1e
  rw [h1]
  show (m e S1).bind _=_
  rw [h2]
  exact h
theorem Z80 {C:Str} {g:List X→Sto→R X} (h1:mo e S = .ok (.d (.gl C)) S1) (h2:ms e S1 = .ok xs S2) (h:g (.d (.gl C) :: xs) S2=r):Z4z C g mo ms e S=r:=by
  unfold Z4z
  rw [h1]
  show (if decide (C=C) then (ms e S1).bind fun xs S2=>g (.d (.gl C) :: xs) S2 else .bad)=_
  rw [if_pos (decide_eq_true rfl),h2]
  exact h
theorem Y11 (h1:mt e S = .ok true S1) (h:ma e S1=r):Z26 mt ma mb e S=r:=by
  unfold Z26
  rw [h1]
  exact h
theorem Y0i (h1:mt e S = .ok false S1) (h:mb e S1=r):Z26 mt ma mb e S=r:=by
  unfold Z26
  rw [h1]
  exact h
theorem W4 (h:m e S = .ok (.d (.bl b)) S1):V6 m e S = .ok b S1:=by
  unfold V6
  rw [h]
  rfl
theorem V5 (h:m e S = .ok x S1) (ht:V3 S1 x=some b):X5 m e S = .ok b S1:=by
  unfold X5
  rw [h]
  show (match V3 S1 x with
    | some b=>R.ok b S1
    | none => .bad)=_
  rw [ht]
theorem Y5v (h:mt e S = .ok b S1):X9 mt e S = .ok (!b) S1:=by
  unfold X9
  rw [h]
  rfl
theorem Z1p (h:mt e S = .ok true S1):X9 mt e S = .ok false S1:=Y5v h
theorem Z4c (h:mt e S = .ok false S1):X9 mt e S = .ok true S1:=Y5v h
theorem Z12 (h:mt e S = .ok true S1) (h2:mt2 e S1=rb):W7 mt mt2 e S=rb:=by
  unfold W7
  rw [h]
  exact h2
theorem Z4a (h:mt e S = .ok false S1):W7 mt mt2 e S = .ok false S1:=by
  unfold W7
  rw [h]
  rfl
theorem Z50 (h:mt e S = .ok true S1):V8 mt mt2 e S = .ok true S1:=by
  unfold V8
  rw [h]
  rfl
theorem Z1x (h:mt e S = .ok false S1) (h2:mt2 e S1=rb):V8 mt mt2 e S=rb:=by
  unfold V8
  rw [h]
  exact h2
theorem Z0e {m1 m2:MS} (h1:m1 e S = .go (.nx e1) S1) (h2:m2 e1 S1=ro):Y4 m1 m2 e S=ro:=by
  unfold Y4
  rw [h1]
  exact h2
theorem Z28:W5 e S = .go (.nx e) S:=rfl
theorem Z8r (h:m e S = .ok x S1):W0 i m e S = .go (.nx (e.set i (some x))) S1:=by
  unfold W0
  rw [h]
  rfl
theorem Y6u (h:m e S = .ok x S1):V2 m e S = .go (.nx e) S1:=by
  unfold V2
  rw [h]
  rfl
theorem Z6n (h:m e S = .ok x S1) (hg:x.get S1=some d):X8 m e S = .go (.rp d) S1:=by
  unfold X8
  rw [h]
  show (match x.get S1 with
    | some d=>RO.go (.rp d) S1
    | none => .bad)=_
  rw [hg]
theorem X0c {ds:List D} (h:ms e S = .ok xs S1) (hg:gets S1 xs=some ds) (hl:ds.length ≤ sizeLine):U6 ms e S = .go (.rp (.tup ds)) S1:=by
  unfold U6
  rw [h]
  show (match gets S1 xs with
    | some ds=>if ds.length ≤ sizeLine then RO.go (.rp (.tup ds)) S1 else .bad
    | none => .bad)=_
  rw [hg]
  show (if ds.length ≤ sizeLine then _ else _)=_
  rw [if_pos hl]
theorem Z2e {m1 m2:MS} (h:mt e S = .ok true S1) (h1:m1 e S1=ro):Z0l mt m1 m2 e S=ro:=by
  unfold Z0l
  rw [h]
  exact h1
theorem Z2p {m1 m2:MS} (h:mt e S = .ok false S1) (h1:m2 e S1=ro):Z0l mt m1 m2 e S=ro:=by
  unfold Z0l
  rw [h]
  exact h1
theorem X2j {i j:Nat} (h:ms e S = .ok [x,y] S1):Z0w i j ms e S = .go (.nx ((e.set i (some x)).set j (some y))) S1:=by
  unfold Z0w
  rw [h]
  rfl
theorem Z7n {Cs:List Str} {f:Str} (h1:m e S = .ok y S1) (h2:mo e S1 = .ok x S2) (h:Z3g Cs f S2 x y=some S3):Z0c Cs f mo m e S = .go (.nx e) S3:=by
  unfold Z0c
  rw [h1]
  show (mo e S1).so e _=_
  rw [h2]
  show (match Z3g Cs f S2 x y with
    | some S3=>RO.go (.nx e) S3
    | none => .bad)=_
  rw [h]
theorem X2k (h1:m e S = .ok z S1) (h2:mo e S1 = .ok x S2) (h3:mi e S2 = .ok y S3) (h:Z3u S3 x y z=some S4):Z00 mo mi m e S = .go (.nx e) S4:=by
  unfold Z00
  rw [h1]
  show (mo e S1).so e _=_
  rw [h2]
  show (mi e S2).so e _=_
  rw [h3]
  show (match Z3u S3 x y z with
    | some S4=>RO.go (.nx e) S4
    | none => .bad)=_
  rw [h]
theorem Z2y {l:Lk} (h:m e S = .ok x S1) (hw:Z6y S1 x=some (xs,l)):Q8 m e S = .ok (xs,l) S1:=by
  unfold Q8
  rw [h]
  show Z2o (Z6y S1 x) S1=_
  rw [hw]
  rfl
theorem X2i {t:Tg} {mt:MIt} {body:MS} {l:Lk} (h:mt e S = .ok (xs,l) S1) (h2:Z7x t l body xs e S1=ro):Z4p t mt body e S=ro:=by
  unfold Z4p
  rw [h]
  exact h2
theorem Y9m {t:Tg} {body:MS} {l:Lk} (h:l.ok S=true):Z7x t l body [] e S = .go (.nx e) S:=by
  unfold Z7x
  rw [if_pos h]
theorem Z9g (h:ma e S = .ok x S1) (ht:V3 S1 x=some true) (h2:mb e S1=r):Z0i ma mb e S=r:=by
  unfold Z0i
  rw [h]
  show (match V3 S1 x with
    | some true=>mb e S1
    | some false => .ok x S1
    | none => .bad)=_
  rw [ht]
  exact h2
theorem Z8y (h:ma e S = .ok x S1) (ht:V3 S1 x=some false):Z0i ma mb e S = .ok x S1:=by
  unfold Z0i
  rw [h]
  show (match V3 S1 x with
    | some true=>mb e S1
    | some false => .ok x S1
    | none => .bad)=_
  rw [ht]
theorem Z8z {C:Str} {g:List X→Sto→R X} (h:ms ((some (.d (.gl C)) :: e)) S = .ok xs S1) (h2:g xs S1=r):Z7z 0 C g ms (some (.d (.gl C)) :: e) S=r:=by
  have q:Z7z 0 C g ms (some (.d (.gl C)) :: e) S=if decide (C=C) then (ms (some (.d (.gl C)) :: e) S).bind g else .bad:=rfl
  rw [q,if_pos (decide_eq_true rfl),h]
  exact h2
theorem Y4k {tab:List (Str × Bool)} {mb:MS} {C2 p:Str} {mx:Ev→SX} {o:Out} (h:mb e S = .go o S1):Z7m tab mb i C2 p mx e S = .go o S1:=by
  unfold Z7m
  rw [h]
theorem Y4j {tab:List (Str × Bool)} {mb:MS} {C C2 p:Str} {fs:List (Str × D)} {mx:Ev→SX} {v:D} (h:mb e S = .err C fs e1 S1) (ht:tab.lookup C=some true) (hx:mx (e1.set i none) C fs=some v) (hi:i < e1.length):Z7m tab mb i C2 p mx e S = .err C2 [(p,v)] (e1.set i none) S1:=by
  unfold Z7m
  rw [h]
  show (match tab.lookup C with
    | some true=>(match mx (e1.set i none) C fs with
      | some f=>if i < e1.length then RO.err C2 [(p,f)] (e1.set i none) S1 else .bad
      | none => .bad)
    | some false => .err C fs e1 S1
    | none => .bad)=_
  rw [ht]
  show (match mx (e1.set i none) C fs with
      | some f=>if i < e1.length then RO.err C2 [(p,f)] (e1.set i none) S1 else .bad
      | none => .bad)=_
  rw [hx]
  exact if_pos hi
theorem X1c (h:ma e S = .ok x S1) (ht:V3 S1 x=some true):Z3j ma mb e S = .ok x S1:=by
  unfold Z3j
  rw [h]
  show (match V3 S1 x with
    | some true=>R.ok x S1
    | some false=>mb e S1
    | none => .bad)=_
  rw [ht]
theorem Y9l (h:ma e S = .ok x S1) (ht:V3 S1 x=some false) (h2:mb e S1=r):Z3j ma mb e S=r:=by
  unfold Z3j
  rw [h]
  show (match V3 S1 x with
    | some true=>R.ok x S1
    | some false=>mb e S1
    | none => .bad)=_
  rw [ht]
  exact h2
theorem Y5w {p q:Bool} (h:ma e S = .ok (.d (.bl p)) S) (h2:mb e S = .ok (.d (.bl q)) S):Z3j ma mb e S = .ok (.d (.bl (p || q))) S:=by
  cases p with
  | true=>exact X1c h rfl
  | false=>exact Y9l h rfl h2
theorem Y7m {p q:Bool} (h:ma e S = .ok (.d (.bl p)) S) (h2:mb e S = .ok (.d (.bl q)) S):Z0i ma mb e S = .ok (.d (.bl (p && q))) S:=by
  cases p with
  | true=>exact Z9g h rfl h2
  | false=>exact Z8y h rfl
theorem Y32 {tab:List (String × Bool)} {own:List (Str × Bool)} (h:m e S = .ok x S1) (hi:isX tab own S1 x=some b):Z7f tab own m e S = .ok (.d (.bl b)) S1:=by
  unfold Z7f
  rw [h]
  show Z2o ((isX tab own S1 x).map fun b=>X.d (.bl b)) S1=_
  rw [hi]
  rfl
theorem Y6p {N:Nat} {mb:MS} {ds:List D} (h:mb (ev0 N (ds.map .d)) [] = .go (.rp d) S):Z6v N mb ds = .ok d:=by
  unfold Z6v
  rw [h]
  rfl
theorem Y1g {N:Nat} {mb:MS} {ds:List D} {C:Str} {fs:List (Str × D)} (h:mb (ev0 N (ds.map .d)) [] = .err C fs e S):Z6v N mb ds = .err C fs:=by
  unfold Z6v
  rw [h]
  rfl
section
variable {C p:Str} {fs:List (Str × D)} {v:D} {tab:List (Str × Bool)} {mb:MS} {j:Nat} {sx:SX}
theorem Y31 (h:m e S = .err C fs S1):Z0 m ms e S = .err C fs S1:=by
  unfold Z0
  rw [h]
  rfl
theorem Y7n {g:List X→Sto→R X} (h:ms e S = .err C fs S1):Z8 g ms e S = .err C fs S1:=by
  unfold Z8
  rw [h]
  rfl
theorem Z15 (h:ms e S = .ok [.d v] S1):Z0g C p ms e S = .err C [(p,v)] e S1:=by
  unfold Z0g
  rw [h]
  rfl
theorem Z2w {m1 m2:MS} (h:m1 e S = .err C fs e1 S1):Y4 m1 m2 e S = .err C fs e1 S1:=by
  unfold Y4
  rw [h]
  rfl
theorem Z5v {m1 m2:MS} {d:D} (h:m1 e S = .go (.rp d) S1):Y4 m1 m2 e S = .go (.rp d) S1:=by
  unfold Y4
  rw [h]
  rfl
theorem Y8c (h:m e S = .err C fs S1):V2 m e S = .err C fs e S1:=by
  unfold V2
  rw [h]
  rfl
theorem X0d (h:m e S = .err C fs S1):W0 i m e S = .err C fs e S1:=by
  unfold W0
  rw [h]
  rfl
theorem Y4i (h:m e S = .err C fs S1):X8 m e S = .err C fs e S1:=by
  unfold X8
  rw [h]
  rfl
end
end
section
variable {e e1:Ev} {S S1 S2 S3 S4:Sto} {m ma mb mo mi mx:M} {ms:MG (List X)} {x y z:X} {xs:List X} {d k:D} {i:Nat} {r:R X}
end
end Bv
namespace Lw
open PySem PySem.Spec L2 Bv
open PyProof.Rows hiding St
variable [HasW]
def NAMES:List Str:=["none", "doubt", "good", "old", "a", "ab", "bad", "zzzzz", "give", "marks", "shown", "kept"]
def HAPS:List Str:=["give", "give", "carry", "carry", "drop", "back", "right", "wrong"]
def Y3u (w o t:Str) (k:Bool):D := .tup [.str w, .str o, .str t, .bl k]
def RowOk (w o t:Str) (k:Bool):Prop:=w ∈ HAPS∧o ∈ ("any" : Str) :: NAMES∧t ∈ ("same" : Str) :: NAMES∧(w ≠ "give" → k=true)
end Lw
namespace Lw
open PySem PySem.Spec L2 Bv
open PyProof.Rows hiding St
variable [HasW]
theorem Y3l:X3f (.int 10) (.int 18)=some (.int 1000000000000000000):=by
  show (if CPow 10 18 then some (D.int (10 ^ (18:Int).toNat)) else none)=_
  rw [if_pos (by unfold CPow; decide)]
  rfl
theorem X2x {i:Int}:Z33 [i]=some (if i < 0 then -i else i):=rfl
theorem X0b {S:Sto} {ns:List Int} {k:Nat} (hS:OkS S) (hk:k < 4) (hk2:k < ns.length ∨ k=0):∃ S2,g__law_seed [.d (.scr ns), .d (.int k)] S = .ok (.r S.length) S2∧OkS S2∧S2.length=S.length + 1∧Z2g S2 S.length:=by
  have hp:∀ g n:Int,0 ≤ g→0 ≤ n→∃ S2,S2=S++[box g n]∧OkS S2∧S2.length=S.length + 1∧Z2g S2 S.length:=fun g n hg hn =>
    ⟨_,rfl,hS.push rfl,by simp,g,n,by simp,hg,hn⟩
  have h1:∀ i:Int,Y0o (.int 7411) (.int i)=some (.int (7411 * i)):=fun i=>Y7x (by decide)
  have h3:∀ i:Int,Y29 (.int i) (.int 2147483629)=some (.int (i % 2147483629)):=fun i=>Y3a (by decide)
  have h4:∀ i:Int,Y0o (.int i) (.int 48271)=some (.int (i * 48271)):=fun i=>Y4y (by decide)
  have h5:∀ i:Int,Y0o (.int 31013) (.int i)=some (.int (31013 * i)):=fun i=>Y7x (by decide)
  have h2:(2:Nat) ≤ sizeLine:=by decide
  by_cases hl:k < ns.length
  · have hv:atI ns (k:Int)=some ns[k]:=by
      unfold atI ixN
      rw [if_pos (by omega),if_pos (by omega)]
      simp [hl]
    by_cases hg:(1000000000000000000:Int) ≤ (if ns[k] < 0 then -ns[k] else ns[k])
    · obtain ⟨S2,rfl,r⟩:=hp (if ns[k] < 0 then -ns[k] else ns[k]) (((if ns[k] < 0 then -ns[k] else ns[k]) % 2147483629 * 48271 + 31013 * k) % 2147483629 + 1) (by omega) (by omega)
      refine ⟨_,?_,r⟩
      unfold g__law_seed Y78 Z11
      simp [ev0,Y4,Z0l,W5,V2,W0,Z0t,X8,Z0b,V4,U6,Z1s,Z0w,Z00,Z0c,V6,Y1,Q5,Z1,m_c,Z8,Z0,Z6,W8,U2,W9,V7,W2,Z2z,Y3,Y9,Z0s,Z26,W7,V8,X9,Z0i,Z3j,Z1r,Z4s,X5,V0,R.bind,R.so,RO.then,items,ixO,ixD,Z23,Z2o,op2,X.get,tb,Z03,Z02,Z1b,Z0v,slX,V3,Q4,X6,X7,Z39,Z3z,Z0y,Z3u,Z3g,Z3t,Z3h,Z0u,Z3i,Z4r,Z0r,ints?,Z33,Z4j,Z4h,ds?,gets,callP,X.isD,D.noL,D.noLs,D.noLf,U9,Z01,Z1a,Z1n,Z4m,Z4o,Z4n,Z4y,h1,hl,hv,Y3l,hg,h3,h4,h5,h2,box]
    · obtain ⟨S2,rfl,r⟩:=hp 0 (((if ns[k] < 0 then -ns[k] else ns[k]) % 2147483629 * 48271 + 31013 * k) % 2147483629 + 1) (by decide) (by omega)
      refine ⟨_,?_,r⟩
      unfold g__law_seed Y78 Z11
      simp [ev0,Y4,Z0l,W5,V2,W0,Z0t,X8,Z0b,V4,U6,Z1s,Z0w,Z00,Z0c,V6,Y1,Q5,Z1,m_c,Z8,Z0,Z6,W8,U2,W9,V7,W2,Z2z,Y3,Y9,Z0s,Z26,W7,V8,X9,Z0i,Z3j,Z1r,Z4s,X5,V0,R.bind,R.so,RO.then,items,ixO,ixD,Z23,Z2o,op2,X.get,tb,Z03,Z02,Z1b,Z0v,slX,V3,Q4,X6,X7,Z39,Z3z,Z0y,Z3u,Z3g,Z3t,Z3h,Z0u,Z3i,Z4r,Z0r,ints?,Z33,Z4j,Z4h,ds?,gets,callP,X.isD,D.noL,D.noLs,D.noLf,U9,Z01,Z1a,Z1n,Z4m,Z4o,Z4n,Z4y,h1,hl,hv,Y3l,hg,h3,h4,h5,h2,box]
  · have hk0:k=0:=by omega
    have hn:ns=[]:=List.length_eq_zero_iff.mp (by omega)
    subst hk0 hn
    obtain ⟨S2,rfl,r⟩:=hp 0 ((37 % 2147483629 * 48271 + 31013 * 0) % 2147483629 + 1) (by decide) (by decide)
    refine ⟨_,?_,r⟩
    unfold g__law_seed Y78 Z11
    simp [ev0,Y4,Z0l,W5,V2,W0,Z0t,X8,Z0b,V4,U6,Z1s,Z0w,Z00,Z0c,V6,Y1,Q5,Z1,m_c,Z8,Z0,Z6,W8,U2,W9,V7,W2,Z2z,Y3,Y9,Z0s,Z26,W7,V8,X9,Z0i,Z3j,Z1r,Z4s,X5,V0,R.bind,R.so,RO.then,items,ixO,ixD,Z23,Z2o,op2,X.get,tb,Z03,Z02,Z1b,Z0v,slX,V3,Q4,X6,X7,Z39,Z3z,Z0y,Z3u,Z3g,Z3t,Z3h,Z0u,Z3i,Z4r,Z0r,ints?,Z33,Z4j,Z4h,ds?,gets,callP,X.isD,D.noL,D.noLs,D.noLf,U9,Z01,Z1a,Z1n,Z4m,Z4o,Z4n,Z4y,h1,Y3l,h3,h4,h5,h2,box]
end Lw
namespace Le
open Lw
open PySem PySem.Spec L2 Bv
open PyProof.Rows hiding St
variable [HasW]
abbrev SIX:List Str:=["give", "carry", "drop", "back", "right", "wrong"]
abbrev HAPT:D := .tup (SIX.map D.str)
abbrev TAKT:D := .tup [.str "keep", .str "take"]
def MORE:List Str:=["any", "to", "take", "keep", "same", "", "marks", "shown", "asked"]
def BW:List Str:=Lt.HAPS++("any" : Str) :: Lt.NAMES++MORE
def okPR:PR→D→Bool
  | .ok d,e=>decide (d=e)
  | _,_=>false
theorem okPR_ok {p:PR} {d:D} (h:okPR p d=true):p = .ok d:=by
  cases p with
  | ok e=>rw [of_decide_eq_true h]
  | _=>cases h
theorem hz4 {n:Nat} (h:n < 2000):n ≤ sizeLine:=by rw [sizeLine_eq]; omega
def nm (s:Str):Bool:=okPR (g_is_name [.str s]) (.bl true)
theorem words_tab:(BW.all fun s=>okPR (g_is_word [.str s,HAPT]) (.bl (decide (s ∈ SIX))) && (decide (Z8s (.str s) HAPT=some (.bl (!decide (s ∈ SIX)))) && decide (inD (.str s) TAKT=some (.bl (decide (s = "take" ∨ s = "keep")))) && decide (Z8s (.str s) (.tup [.str "take", .str "keep"])=some (.bl (!decide (s = "take" ∨ s = "keep"))))))=true:=by kernel_rfl
theorem names_tab:(BW.all fun s=>okPR (g_is_name [.str s]) (.bl (nm s)) && okPR (g__law_name [.str s]) (.bl (nm s)))=true:=by kernel_rfl
theorem plain_tab:(BW.all fun x=>decide (x.length ≤ 7) && (decide ((32:Nat) ∉ x.cps.toList) && PyData.strOk x))=true:=by kernel_rfl
section
variable {s:Str} (h:s ∈ BW)
include h
theorem bw_word:g_is_word [.str s,HAPT] = .ok (.bl (decide (s ∈ SIX))):=okPR_ok (Bool.and_eq_true_iff.mp (List.all_eq_true.mp words_tab s h)).1
theorem bw_nin:Z8s (.str s) HAPT=some (.bl (!decide (s ∈ SIX))):=of_decide_eq_true (Bool.and_eq_true_iff.mp (Bool.and_eq_true_iff.mp (Bool.and_eq_true_iff.mp (List.all_eq_true.mp words_tab s h)).2).1).1
theorem bw_tak:inD (.str s) TAKT=some (.bl (decide (s = "take" ∨ s = "keep"))):=of_decide_eq_true (Bool.and_eq_true_iff.mp (Bool.and_eq_true_iff.mp (Bool.and_eq_true_iff.mp (List.all_eq_true.mp words_tab s h)).2).1).2
theorem bw_ntak:Z8s (.str s) (.tup [.str "take", .str "keep"])=some (.bl (!decide (s = "take" ∨ s = "keep"))):=of_decide_eq_true (Bool.and_eq_true_iff.mp (Bool.and_eq_true_iff.mp (List.all_eq_true.mp words_tab s h)).2).2
theorem bw_name:g_is_name [.str s] = .ok (.bl (nm s)):=okPR_ok (Bool.and_eq_true_iff.mp (List.all_eq_true.mp names_tab s h)).1
theorem bw_lname:g__law_name [.str s] = .ok (.bl (nm s)):=okPR_ok (Bool.and_eq_true_iff.mp (List.all_eq_true.mp names_tab s h)).2
theorem bw_plain:s.length ≤ 7∧(32:Nat) ∉ s.cps.toList∧PyData.strOk s=true:=by
  have q:=List.all_eq_true.mp plain_tab s h
  simp only [Bool.and_eq_true,decide_eq_true_eq] at q
  exact q
end
structure Ws (ws:List Str):Prop where
  ne:ws ≠ []
  len:ws.length ≤ 6
  mem:∀ z ∈ ws,z ∈ BW
def txt (ws:List Str):Str:=Str.join " " ws
def tls (l:List Str):D := .lst (l.map D.str)
theorem join_le {a:Str} {k:Nat}:∀ {l:List Str},(∀ z ∈ l,z.length ≤ k)→(Str.join a l).length ≤ l.length * (k + a.length)
  | [],_=>by
    have e:(Str.join a []).length=0:=by first | rfl | (unfold Str.join; decide +kernel)
    rw [e]; exact Nat.zero_le _
  | [x],h=>by
    have:=h x (by simp)
    show x.length ≤ 1 * _
    omega
  | x :: y :: r,h=>by
    have ih:=join_le (a:=a) (k:=k) (l:=y :: r) fun z hz=>h z (List.mem_cons_of_mem _ hz)
    have hx:=h x (by simp)
    have e:Str.join a (x :: y :: r)=x++a++Str.join a (y :: r):=rfl
    have l2:∀ a b:Str,(a++b).length=a.length + b.length:=fun a b=>by
      show (a.cps++b.cps).size=_
      rw [Array.size_append]
      rfl
    rw [e,l2,l2]
    simp only [List.length_cons] at ih ⊢
    have:(r.length + 1 + 1) * (k + a.length)=(r.length + 1) * (k + a.length) + (k + a.length):=by rw [Nat.succ_mul]
    omega
theorem sp1:(" " : Str).length=1:=by decide +kernel
section
variable {ws:List Str} {T:Sto}
theorem Ws.txtLen (h:Ws ws):(txt ws).length ≤ 48:=by
  have q:=join_le (a := " ") (k:=7) (l:=ws) fun z hz=>(bw_plain (h.mem z hz)).1
  rw [sp1] at q
  have:=h.len
  show (Str.join " " ws).length ≤ 48
  omega
theorem Ws.split (h:Ws ws):Txt.split (txt ws) " " = ws:=by
  have hj:txt ws=Txt.join " " ws:=(StrLaws.glued_eq_join ..).symm
  rw [hj]
  exact TL.split_join (s:=32) (S:=[]) (by decide +kernel) (by decide +kernel) h.ne fun p hp=>(bw_plain (h.mem p hp)).2.1
theorem Ws.gsplit (h:Ws ws):Z1q (txt ws) (.d (.str " ")) T = .ok (.d (tls ws)) T:=by
  have b1:((" " : Str).length == 0)=false:=by decide +kernel
  have b2:decide ((txt ws).length + 2 ≤ sizeLine)=true:=decide_eq_true (by have:=h.txtLen; rw [sizeLine_eq]; omega)
  have b3:Z5a ws=true:=List.all_eq_true.mpr fun z hz=>(bw_plain (h.mem z hz)).2.2
  unfold Z1q
  show (if !((" " : Str).length == 0) && decide ((txt ws).length + 2 ≤ sizeLine) && Z5a (Txt.split (txt ws) " ") then R.ok (X.d (.lst ((Txt.split (txt ws) " ").map .str))) T else .bad)=_
  rw [h.split,b1,b2,b3]
  rfl
theorem strOk_txt (h:Ws ws):PyData.strOk (txt ws)=true:=Z8b (by decide +kernel) fun z hz=>(bw_plain (h.mem z hz)).2.2
end
def tailQ:List Str→Bool
  | [a,b,c,d]=>decide (c = "to") && (decide (a ∈ SIX) && ((nm b || decide (b = "any")) && (nm d || decide (d = "same"))))
  | _=>false
def rowB (a:Str):List Str→Bool
  | [b,c,d,e]=>decide (c = "take" ∨ c = "keep") && tailQ [a,b,d,e]
  | _=>false
def rowQ:List Str→Bool
  | []=>false
  | a :: l=>if a = "give" then rowB a l else tailQ (a :: l)
theorem rowB_no {a:Str} {l:List Str} (h:l.length ≠ 4):rowB a l=false:=by
  match l with
  | []=>rfl
  | [_]=>rfl
  | [_,_]=>rfl
  | [_,_,_]=>rfl
  | [_,_,_,_]=>exact absurd rfl h
  | _ :: _ :: _ :: _ :: _ :: _=>rfl
end Le
namespace Le
open Lw
open PySem PySem.Spec L2 Bv
open PyProof.Rows hiding St
variable [HasW]
def lr_0:MS:=(W0 1 (Z1e Z1q (Z1 0) (m_c (.str " "))))
def lr_1C:MG Bool:=(V6 (Y1 eqD (Q5 (Z1 1) (m_c (.int 0))) (m_c (.str "give"))))
def lr_1T_0C:MG Bool:=(V8 (V6 (Y1 neD (Z8 Z0u (Z0 (Z1 1) (Z6))) (m_c (.int 5)))) (V6 (Y1 Z8s (Q5 (Z1 1) (m_c (.int 2))) (U2 (Z0 (m_c (.str "take")) (Z0 (m_c (.str "keep")) (Z6)))))))
def lr_1T_0T:MS:=(X8 (m_c (.bl false)))
def lr_1T_0:MS:=(Z0l lr_1T_0C lr_1T_0T W5)
def lr_1T_1:MS:=(W0 1 (Y1 Z2f (Y3 (Z1 1) (Z0s) (Y9 (m_c (.int 2)))) (Y3 (Z1 1) (Y9 (m_c (.int 3))) (Z0s))))
def lr_1T:MS:=(Y4 lr_1T_0 lr_1T_1)
def lr_1:MS:=(Z0l lr_1C lr_1T W5)
def lr_2C:MG Bool:=(V8 (V6 (Y1 neD (Z8 Z0u (Z0 (Z1 1) (Z6))) (m_c (.int 4)))) (V8 (V6 (Y1 Z8s (Q5 (Z1 1) (m_c (.int 0))) (U2 (Z0 (m_c (.str "give")) (Z0 (m_c (.str "carry")) (Z0 (m_c (.str "drop")) (Z0 (m_c (.str "back")) (Z0 (m_c (.str "right")) (Z0 (m_c (.str "wrong")) (Z6)))))))))) (V6 (Y1 neD (Q5 (Z1 1) (m_c (.int 2))) (m_c (.str "to"))))))
def lr_2T:MS:=(X8 (m_c (.bl false)))
def lr_2:MS:=(Z0l lr_2C lr_2T W5)
def lr_3:MS:=(X8 (Z0i (Z3j (Z8 (X6 1 (X7 [] (callP g__law_name))) (Z0 (Q5 (Z1 1) (m_c (.int 1))) (Z6))) (Y1 eqD (Q5 (Z1 1) (m_c (.int 1))) (m_c (.str "any")))) (Z3j (Z8 (X6 1 (X7 [] (callP g__law_name))) (Z0 (Q5 (Z1 1) (m_c (.int 3))) (Z6))) (Y1 eqD (Q5 (Z1 1) (m_c (.int 3))) (m_c (.str "same"))))))
def lr:MS:=(Y4 lr_0 (Y4 lr_1 (Y4 lr_2 lr_3)))
theorem lr_is:Z5l=lr:=by kernel_rfl
section
variable {ws l:List Str} {S T:Sto} {t:D}
theorem four {l:List Str} (h:l.length=4):∃ a b c d,l=[a,b,c,d]:=by
  match l,h with
  | [a,b,c,d],_=>exact ⟨a,b,c,d,rfl⟩
theorem tailQ_no {l:List Str} (h:l.length ≠ 4):tailQ l=false:=by
  match l with
  | []=>rfl
  | [_]=>rfl
  | [_,_]=>rfl
  | [_,_,_]=>rfl
  | [_,_,_,_]=>exact absurd rfl h
  | _ :: _ :: _ :: _ :: _ :: _=>rfl
theorem len_tls {l:List Str}:Z0u [.d (tls l)] T = .ok (.d (.int l.length)) T:=by
  show Z0u [.d (.lst (l.map D.str))] T=_
  simp [Z0u,Z3i,items]
theorem nei_t {i j:Int} (h:i ≠ j):neD (.int i) (.int j)=some (.bl true):=by
  have e:neD (.int i) (.int j)=some (.bl (!(i == j))):=by
    show some (D.bl (!PyData.eqv (.int i) (.int j)))=_
    simp [PyData.eqv]
  rw [e,beq_false_of_ne h]
  rfl
theorem nei_f {i:Int}:neD (.int i) (.int i)=some (.bl false):=by
  have e:neD (.int i) (.int i)=some (.bl (!(i == i))):=by
    show some (D.bl (!PyData.eqv (.int i) (.int i)))=_
    simp [PyData.eqv]
  rw [e,beq_self_eq_true]
  rfl
abbrev evL (t:D) (l:List Str):Ev:=[some (.d t),some (.d (tls l))]
theorem tail_law (hm:∀ z ∈ l,z ∈ BW) (hl:l.length ≤ 6):Y4 lr_2 lr_3 (evL t l) S = .go (.rp (.bl (tailQ l))) S:=by
  by_cases h4:l.length=4
  · obtain ⟨a,b,c,d,rfl⟩:=four h4
    have ma:=hm a (by simp)
    have n0:=bw_nin ma
    have n1:=bw_lname (hm b (by simp))
    have n3:=bw_lname (hm d (by simp))
    have eto:neD (.str c) (.str "to")=some (.bl (!decide (c = "to"))):=Z74
    have eany:eqD (.str b) (.str "any")=some (.bl (decide (b = "any"))):=Z53
    have esame:eqD (.str d) (.str "same")=some (.bl (decide (d = "same"))):=Z53
    have l4:neD (.int 4) (.int 4)=some (.bl false):=nei_f
    show _=RO.go (.rp (.bl (decide (c = "to") && (decide (a ∈ SIX) && ((nm b || decide (b = "any")) && (nm d || decide (d = "same"))))))) S
    by_cases h0:a ∈ SIX
    · rw [decide_eq_true h0] at n0 ⊢
      by_cases h2:c = "to"
      · rw [decide_eq_true h2] at eto ⊢
        have p2:lr_2 (evL t [a,b,c,d]) S = .go (.nx (evL t [a,b,c,d])) S:=by
          exact (Z2p (Z1x (W4 (Y6 (X4 (Z7 (Z5 rfl) Y5) (rfl)) W1 (Z9) (Z9) (l4))) (Z1x (W4 (Y6 (Z0n (Z5 rfl) W1 (rfl)) (Z6f (Z7 W1 (Z7 W1 (Z7 W1 (Z7 W1 (Z7 W1 (Z7 W1 Y5)))))) (rfl) (hz4 (by decide))) (Z9) (Z9) (n0))) (W4 (Y6 (Z0n (Z5 rfl) W1 (rfl)) W1 (Z9) (Z9) (eto))))) Z28)
        refine Z0e p2 ?_
        exact (Z6n (Y7m (Y5w (X4 (Z7 (Z0n (Z5 rfl) W1 (rfl)) Y5) (U4 rfl (Z47 (n1)))) (Y6 (Z0n (Z5 rfl) W1 (rfl)) W1 (Z9) (Z9) (eany))) (Y5w (X4 (Z7 (Z0n (Z5 rfl) W1 (rfl)) Y5) (U4 rfl (Z47 (n3)))) (Y6 (Z0n (Z5 rfl) W1 (rfl)) W1 (Z9) (Z9) (esame)))) (Z9))
      · rw [decide_eq_false h2] at eto ⊢
        exact Z5v (Z2e (Z1x (W4 (Y6 (X4 (Z7 (Z5 rfl) Y5) (rfl)) W1 (Z9) (Z9) (l4))) (Z1x (W4 (Y6 (Z0n (Z5 rfl) W1 (rfl)) (Z6f (Z7 W1 (Z7 W1 (Z7 W1 (Z7 W1 (Z7 W1 (Z7 W1 Y5)))))) (rfl) (hz4 (by decide))) (Z9) (Z9) (n0))) (W4 (Y6 (Z0n (Z5 rfl) W1 (rfl)) W1 (Z9) (Z9) (eto))))) (Z6n W1 (Z9)))
    · rw [decide_eq_false h0] at n0 ⊢
      simp only [Bool.false_and,Bool.and_false]
      exact Z5v (Z2e (Z1x (W4 (Y6 (X4 (Z7 (Z5 rfl) Y5) (rfl)) W1 (Z9) (Z9) (l4))) (Z50 (W4 (Y6 (Z0n (Z5 rfl) W1 (rfl)) (Z6f (Z7 W1 (Z7 W1 (Z7 W1 (Z7 W1 (Z7 W1 (Z7 W1 Y5)))))) (rfl) (hz4 (by decide))) (Z9) (Z9) (n0))))) (Z6n W1 (Z9)))
  · rw [tailQ_no h4]
    have l4:neD (.int l.length) (.int 4)=some (.bl true):=nei_t (by omega)
    exact Z5v (Z2e (Z50 (W4 (Y6 (X4 (Z7 (Z5 rfl) Y5) (len_tls)) W1 (Z9) (Z9) (l4)))) (Z6n W1 (Z9)))
theorem is_row_ok (h:Ws ws):g__law_is_row [.str (txt ws)] = .ok (.bl (rowQ ws)):=by
  have sp:=h.gsplit (T:=[])
  have p0:lr_0 [some (.d (.str (txt ws))),none] [] = .go (.nx (evL (.str (txt ws)) ws)) []:=by
    exact (Z8r (Z6e (Z5 rfl) W1 (sp)))
  have hm:=h.mem
  have hl:=h.len
  have hne:=h.ne
  unfold g__law_is_row
  rw [lr_is]
  refine Y6p (S:=[]) (Z0e p0 ?_)
  match ws with
  | a :: l =>
    have eg:eqD (.str a) (.str "give")=some (.bl (decide (a = "give"))):=Z53
    have i0:ixO ([]:Sto) (.d (tls (a :: l))) 0=some (.d (.str a)):=by simp [tls,ixO,ixD,items,atI,ixN]
    by_cases hg:a = "give"
    · rw [decide_eq_true hg] at eg
      by_cases h5:l.length=4
      · obtain ⟨b,c,d,e,rfl⟩:=four h5
        have nt:=bw_ntak (hm c (by simp))
        have l5:neD (.int 5) (.int 5)=some (.bl false):=nei_f
        show _=RO.go (.rp (.bl (rowQ [a,b,c,d,e]))) []
        have eq1:rowQ [a,b,c,d,e]=(decide (c = "take" ∨ c = "keep") && tailQ [a,b,d,e]):=if_pos hg
        rw [eq1]
        by_cases ht:c = "take" ∨ c = "keep"
        · rw [decide_eq_true ht] at nt ⊢
          have ad0:∀ xs ys:List D,xs.length + ys.length ≤ sizeLine→Z2f (.lst xs) (.lst ys)=some (.lst (xs++ys)):=fun xs ys h=>if_pos h
          have ad:=ad0 [.str a, .str b] [.str d, .str e] (hz4 (by simp))
          have p1:lr_1 (evL (.str (txt [a,b,c,d,e])) [a,b,c,d,e]) [] = .go (.nx (evL (.str (txt [a,b,c,d,e])) [a,b,d,e])) []:=by
            exact (Z2e (W4 (Y6 (Z0n (Z5 rfl) W1 (i0)) W1 (Z9) (Z9) (eg))) (Z0e (Z2p (Z1x (W4 (Y6 (X4 (Z7 (Z5 rfl) Y5) (rfl)) W1 (Z9) (Z9) (l5))) (W4 (Y6 (Z0n (Z5 rfl) W1 (rfl)) (Z6f (Z7 W1 (Z7 W1 Y5)) (rfl) (hz4 (by decide))) (Z9) (Z9) (nt)))) Z28) (Z8r (Y6 (Z0p (Z5 rfl) Z4x (Z1c W1) (rfl)) (Z0p (Z5 rfl) (Z1c W1) Z4x (rfl)) (Z9) (Z9) (ad)))))
          rw [Bool.true_and]
          exact Z0e p1 (tail_law (fun z hz=>hm z (by simp only [List.mem_cons,List.not_mem_nil,or_false] at hz ⊢; rcases hz with h | h | h | h <;> simp [h])) (by simp))
        · rw [decide_eq_false ht] at nt ⊢
          exact Z5v (Z2e (W4 (Y6 (Z0n (Z5 rfl) W1 (i0)) W1 (Z9) (Z9) (eg))) (Z5v (Z2e (Z1x (W4 (Y6 (X4 (Z7 (Z5 rfl) Y5) (rfl)) W1 (Z9) (Z9) (l5))) (W4 (Y6 (Z0n (Z5 rfl) W1 (rfl)) (Z6f (Z7 W1 (Z7 W1 Y5)) (rfl) (hz4 (by decide))) (Z9) (Z9) (nt)))) (Z6n W1 (Z9)))))
      · have eq1:rowQ (a :: l)=false:=(if_pos hg).trans (rowB_no h5)
        have l5:neD (.int (a :: l).length) (.int 5)=some (.bl true):=nei_t (by simp only [List.length_cons]; omega)
        rw [eq1]
        exact Z5v (Z2e (W4 (Y6 (Z0n (Z5 rfl) W1 (i0)) W1 (Z9) (Z9) (eg))) (Z5v (Z2e (Z50 (W4 (Y6 (X4 (Z7 (Z5 rfl) Y5) (len_tls)) W1 (Z9) (Z9) (l5)))) (Z6n W1 (Z9)))))
    · rw [decide_eq_false hg] at eg
      have eq1:rowQ (a :: l)=tailQ (a :: l):=if_neg hg
      have p1:lr_1 (evL (.str (txt (a :: l))) (a :: l)) [] = .go (.nx (evL (.str (txt (a :: l))) (a :: l))) []:=by
        exact (Z2p (W4 (Y6 (Z0n (Z5 rfl) W1 (i0)) W1 (Z9) (Z9) (eg))) Z28)
      rw [eq1]
      exact Z0e p1 (tail_law hm hl)
end
end Le
namespace Le
open Lw
open PySem PySem.Spec L2 Bv
open PyProof.Rows hiding St
variable [HasW]
def ri_0C:MG Bool:=(X9 (X5 (Z8 (X6 2 (X7 [] (callP g_is_word))) (Z0 (Z1 1) (Z0 (m_c (.tup ((["give", "carry", "drop", "back", "right", "wrong"]:List Str).map D.str))) (Z6))))))
def ri_0T:MS:=(Z0g "InvalidRow" "word" (Z0 (m_c (.str "word")) (Z6)))
def ri_0:MS:=(Z0l ri_0C ri_0T W5)
def ri_1C:MG Bool:=(W7 (V6 (Y1 neD (Z1 2) (m_c (.str "any")))) (X9 (X5 (Z8 (X6 1 (X7 [] (callP g_is_name))) (Z0 (Z1 2) (Z6))))))
def ri_1T:MS:=(Z0g "InvalidRow" "word" (Z0 (m_c (.str "old")) (Z6)))
def ri_1:MS:=(Z0l ri_1C ri_1T W5)
def ri_2C:MG Bool:=(W7 (V6 (Y1 neD (Z1 3) (m_c (.str "same")))) (X9 (X5 (Z8 (X6 1 (X7 [] (callP g_is_name))) (Z0 (Z1 3) (Z6))))))
def ri_2T:MS:=(Z0g "InvalidRow" "word" (Z0 (m_c (.str "then")) (Z6)))
def ri_2:MS:=(Z0l ri_2C ri_2T W5)
def ri_3C:MG Bool:=(V8 (X9 (X5 (Z7f (Z8v "bool") [("Row" ,false),("Tool" ,false)] (Z1 4)))) (W7 (V6 (Y1 neD (Z1 1) (m_c (.str "give")))) (X9 (X5 (Z1 4)))))
def ri_3T:MS:=(Z0g "InvalidRow" "word" (Z0 (m_c (.str "take")) (Z6)))
def ri_3:MS:=(Z0l ri_3C ri_3T W5)
def ri_4:MS:=(Z0c ["Row"] "word" (Z1 0) (Z1 1))
def ri_5:MS:=(Z0c ["Row"] "old" (Z1 0) (Z1 2))
def ri_6:MS:=(Z0c ["Row"] "then" (Z1 0) (Z1 3))
def ri_7:MS:=(Z0c ["Row"] "take" (Z1 0) (Z1 4))
def ri:MS:=(Y4 ri_0 (Y4 ri_1 (Y4 ri_2 (Y4 ri_3 (Y4 ri_4 (Y4 ri_5 (Y4 ri_6 ri_7)))))))
theorem ri_is:Z6q=ri:=by kernel_rfl
def rd_0:MS:=(W0 2 (Z1e Z1q (Z1 1) (m_c (.str " "))))
def rd_1:MS:=(W0 3 (m_c (.bl true)))
def rd_2C:MG Bool:=(W7 (V6 (Y1 eqD (Q5 (Z1 2) (m_c (.int 0))) (m_c (.str "give")))) (W7 (V6 (Y1 eqD (Z8 Z0u (Z0 (Z1 2) (Z6))) (m_c (.int 5)))) (V6 (Y1 inD (Q5 (Z1 2) (m_c (.int 2))) (m_c (.tup ((["keep", "take"]:List Str).map D.str)))))))
def rd_2T_0:MS:=(W0 3 (Y1 eqD (Q5 (Z1 2) (m_c (.int 2))) (m_c (.str "take"))))
def rd_2T_1:MS:=(W0 2 (W9 (W8 (Y3 (Z1 2) (Z0s) (Y9 (m_c (.int 2)))) (W8 (Y3 (Z1 2) (Y9 (m_c (.int 3))) (Z0s)) (Z6)))))
def rd_2T:MS:=(Y4 rd_2T_0 rd_2T_1)
def rd_2EC:MG Bool:=(V6 (Y1 eqD (Q5 (Z1 2) (m_c (.int 0))) (m_c (.str "give"))))
def rd_2ET:MS:=(Z0g "InvalidText" "at" (Z0 (m_c (.int 0)) (Z6)))
def rd_2E:MS:=(Z0l rd_2EC rd_2ET W5)
def rd_2:MS:=(Z0l rd_2C rd_2T rd_2E)
def rd_3C:MG Bool:=(V8 (V6 (Y1 neD (Z8 Z0u (Z0 (Z1 2) (Z6))) (m_c (.int 4)))) (V6 (Y1 neD (Q5 (Z1 2) (m_c (.int 2))) (m_c (.str "to")))))
def rd_3T:MS:=(Z0g "InvalidText" "at" (Z0 (m_c (.int 0)) (Z6)))
def rd_3:MS:=(Z0l rd_3C rd_3T W5)
def rd_4B:MS:=(X8 (Z7z 0 "Row" (X6 4 (X7 [] (made "Row" mkF Z3a))) (Z0 (Q5 (Z1 2) (m_c (.int 0))) (Z0 (Q5 (Z1 2) (m_c (.int 1))) (Z0 (Q5 (Z1 2) (m_c (.int 3))) (Z0 (Z1 3) (Z6)))))))
def rd_4:MS:=(Z7m [("InvalidRow" ,true),("InvalidTool" ,false),("InvalidText" ,false)] rd_4B 4 "InvalidText" "at" (fun lv=>x_c (.int 0)))
def rd:MS:=(Y4 rd_0 (Y4 rd_1 (Y4 rd_2 (Y4 rd_3 rd_4))))
theorem rd_is:Z7s=rd:=by kernel_rfl
section
variable {a b c d:Str} {k:Bool} {S T:Sto} {n:Nat}
abbrev evI (n:Nat) (v0 v1 v2:Str) (v3:Bool):Ev:=[some (.r n),some (.d (.str v0)),some (.d (.str v1)),some (.d (.str v2)),some (.d (.bl v3))]
abbrev rowE (z:Str) (e:Ev) (T:Sto):RO := .err "InvalidRow" [("word", .str z)] e T
abbrev rowD (v0 v1 v2:Str) (v3:Bool):D := .obj "Row" [("word", .str v0),("old", .str v1),("then", .str v2),("take", .bl v3)]
def fourQ (a b d:Str):Bool:=decide (a ∈ SIX) && ((nm b || decide (b = "any")) && (nm d || decide (d = "same")))
theorem isx_bl:isX (Z8v "bool") [("Row",false)] T (.d (.bl k))=some true:=by
  show (Z8v "bool").lookup "bool" = some true
  decide +kernel
theorem fld_ok {f:Str} {y:X} {fs:List (Str × X)} (h:fs.length < 1000):Z3g ["Row"] f (S++[.ins "Row" fs]) (.r S.length) y=some (S++[.ins "Row" (Z3t f y fs)]):=by
  have c:(["Row"]:List Str).contains ("Row" : Str)=true:=by rfl
  have g:(S++[O.ins "Row" fs])[S.length]?=some (.ins "Row" fs):=by simp
  unfold Z3g
  simp only [g]
  simp [c,hz4 (show fs.length < 2000 by omega)]
  omega
theorem made_err {C D:Str} {g:List X→Sto→R X} {xs:List X} {S S1 T:Sto} {fs:List (Str × Bv.D)} (h:g (.r S.length :: xs) (S++[.ins C []]) = .err D fs S1) (h2:cut S.length S1=some T):made C mkF g xs S = .err D fs T:=by
  unfold made
  rw [h]
  show (match cut S.length S1 with
    | some T=>R.err D fs T
    | none => .err D fs S1)=_
  rw [h2]
theorem runE_err {N:Nat} {mb:MS} {xs:List X} {S S1 T:Sto} {e:Ev} {C:Str} {fs:List (Str × D)} (h:mb (ev0 N xs) S = .err C fs e S1) (h2:cut S.length S1=some T):Y1f N mb xs S = .err C fs T:=by
  unfold Y1f
  rw [h]
  show (match cut S.length S1 with
    | some T=>R.err C fs T
    | none => .err C fs S1)=_
  rw [h2]
theorem init_ok (ma:a ∈ BW) (mb:b ∈ BW) (md:d ∈ BW) (hk:a = "give" ∨ k=true):Z6q (evI S.length a b d k) (S++[.ins "Row" []])=if fourQ a b d then .go (.nx (evI S.length a b d k)) (S++[.ins "Row" [("word", .d (.str a)),("old", .d (.str b)),("then", .d (.str d)),("take", .d (.bl k))]])
    else rowE (if a ∈ SIX then if nm b || decide (b = "any") then "then" else "old" else "word") (evI S.length a b d k) (S++[.ins "Row" []]):=by
  have w:=bw_word ma
  have n1:=bw_name mb
  have n2:=bw_name md
  have e1:neD (.str b) (.str "any")=some (.bl (!decide (b = "any"))):=Z74
  have e2:neD (.str d) (.str "same")=some (.bl (!decide (d = "same"))):=Z74
  have eg:neD (.str a) (.str "give")=some (.bl (!decide (a = "give"))):=Z74
  have bl:=isx_bl (k:=k) (T:=S++[.ins "Row" []])
  rw [ri_is]
  unfold fourQ
  by_cases h0:a ∈ SIX
  · rw [if_pos h0,decide_eq_true h0]
    rw [decide_eq_true h0] at w
    have p0:ri_0 (evI S.length a b d k) (S++[.ins "Row" []]) = .go (.nx (evI S.length a b d k)) (S++[.ins "Row" []]):=by
      exact (Z2p (Z1p (V5 (X4 (Z7 (Z5 rfl) (Z7 W1 Y5)) (U4 rfl (Y4v (w)))) (rfl))) Z28)
    refine Z0e p0 ?_
    cases h1:nm b || decide (b = "any") with
    | false =>
      obtain ⟨q1,q2⟩:=Bool.or_eq_false_iff.mp h1
      rw [q1] at n1
      rw [q2] at e1
      exact Z2w (Z2e (Z12 (W4 (Y6 (Z5 rfl) W1 (Z9) (Z9) (e1))) (Z4c (V5 (X4 (Z7 (Z5 rfl) Y5) (U4 rfl (Z47 (n1)))) (rfl)))) (Z15 (Z7 W1 Y5)))
    | true =>
      have p1:ri_1 (evI S.length a b d k) (S++[.ins "Row" []]) = .go (.nx (evI S.length a b d k)) (S++[.ins "Row" []]):=by
        cases q:decide (b = "any") with
        | true =>
          rw [q] at e1
          exact (Z2p (Z4a (W4 (Y6 (Z5 rfl) W1 (Z9) (Z9) (e1)))) Z28)
        | false =>
          rw [q] at h1 e1
          have q2:nm b=true:=by simpa using h1
          rw [q2] at n1
          exact (Z2p (Z12 (W4 (Y6 (Z5 rfl) W1 (Z9) (Z9) (e1))) (Z1p (V5 (X4 (Z7 (Z5 rfl) Y5) (U4 rfl (Z47 (n1)))) (rfl)))) Z28)
      refine Z0e p1 ?_
      cases h2:nm d || decide (d = "same") with
      | false =>
        obtain ⟨q1,q2⟩:=Bool.or_eq_false_iff.mp h2
        rw [q1] at n2
        rw [q2] at e2
        exact Z2w (Z2e (Z12 (W4 (Y6 (Z5 rfl) W1 (Z9) (Z9) (e2))) (Z4c (V5 (X4 (Z7 (Z5 rfl) Y5) (U4 rfl (Z47 (n2)))) (rfl)))) (Z15 (Z7 W1 Y5)))
      | true =>
        have p2:ri_2 (evI S.length a b d k) (S++[.ins "Row" []]) = .go (.nx (evI S.length a b d k)) (S++[.ins "Row" []]):=by
          cases q:decide (d = "same") with
          | true =>
            rw [q] at e2
            exact (Z2p (Z4a (W4 (Y6 (Z5 rfl) W1 (Z9) (Z9) (e2)))) Z28)
          | false =>
            rw [q] at h2 e2
            have q2:nm d=true:=by simpa using h2
            rw [q2] at n2
            exact (Z2p (Z12 (W4 (Y6 (Z5 rfl) W1 (Z9) (Z9) (e2))) (Z1p (V5 (X4 (Z7 (Z5 rfl) Y5) (U4 rfl (Z47 (n2)))) (rfl)))) Z28)
        have p3:ri_3 (evI S.length a b d k) (S++[.ins "Row" []]) = .go (.nx (evI S.length a b d k)) (S++[.ins "Row" []]):=by
          by_cases g:a = "give"
          · rw [decide_eq_true g] at eg
            exact (Z2p (Z1x (Z1p (V5 (Y32 (Z5 rfl) (bl)) (rfl))) (Z4a (W4 (Y6 (Z5 rfl) W1 (Z9) (Z9) (eg))))) Z28)
          · rw [decide_eq_false g] at eg
            have hk2:k=true:=hk.resolve_left g
            subst hk2
            exact (Z2p (Z1x (Z1p (V5 (Y32 (Z5 rfl) (bl)) (rfl))) (Z12 (W4 (Y6 (Z5 rfl) W1 (Z9) (Z9) (eg))) (Z1p (V5 (Z5 rfl) (rfl))))) Z28)
        have f0:ri_4 (evI S.length a b d k) (S++[.ins "Row" []]) = .go (.nx (evI S.length a b d k)) (S++[.ins "Row" [("word", .d (.str a))]]):=(Z7n (Z5 rfl) (Z5 rfl) (fld_ok (by simp)))
        have f1:ri_5 (evI S.length a b d k) (S++[.ins "Row" [("word", .d (.str a))]]) = .go (.nx (evI S.length a b d k)) (S++[.ins "Row" [("word", .d (.str a)),("old", .d (.str b))]]):=(Z7n (Z5 rfl) (Z5 rfl) (fld_ok (by simp)))
        have f2:ri_6 (evI S.length a b d k) (S++[.ins "Row" [("word", .d (.str a)),("old", .d (.str b))]]) = .go (.nx (evI S.length a b d k)) (S++[.ins "Row" [("word", .d (.str a)),("old", .d (.str b)),("then", .d (.str d))]]):=(Z7n (Z5 rfl) (Z5 rfl) (fld_ok (by simp)))
        have f3:ri_7 (evI S.length a b d k) (S++[.ins "Row" [("word", .d (.str a)),("old", .d (.str b)),("then", .d (.str d))]]) = .go (.nx (evI S.length a b d k)) (S++[.ins "Row" [("word", .d (.str a)),("old", .d (.str b)),("then", .d (.str d)),("take", .d (.bl k))]]):=(Z7n (Z5 rfl) (Z5 rfl) (fld_ok (by simp)))
        exact Z0e p2 (Z0e p3 (Z0e f0 (Z0e f1 (Z0e f2 f3))))
  · rw [if_neg h0,decide_eq_false h0]
    rw [decide_eq_false h0] at w
    exact Z2w (Z2e (Z4c (V5 (X4 (Z7 (Z5 rfl) (Z7 W1 Y5)) (U4 rfl (Y4v (w)))) (rfl))) (Z15 (Z7 W1 Y5)))
theorem made_row (hS:OkS S) (ma:a ∈ BW) (mb:b ∈ BW) (md:d ∈ BW) (hk:a = "give" ∨ k=true) (hq:fourQ a b d=true):made "Row" mkF Z3a [.d (.str a), .d (.str b), .d (.str d), .d (.bl k)] S = .ok (.d (rowD a b d k)) S:=by
  have all:=init_ok (S:=S) ma mb md hk
  rw [hq,if_pos rfl] at all
  have l0:(S++[O.ins "Row" []]).length=S.length + 1:=by simp
  have c2:cut (S++[O.ins "Row" []]).length (S++[.ins "Row" [("word", .d (.str a)),("old", .d (.str b)),("then", .d (.str d)),("take", .d (.bl k))]])=some (S++[.ins "Row" [("word", .d (.str a)),("old", .d (.str b)),("then", .d (.str d)),("take", .d (.bl k))]]):=by
    have:=(hS.push (o := .ins "Row" [("word", .d (.str a)),("old", .d (.str b)),("then", .d (.str d)),("take", .d (.bl k))]) rfl).cut0
    rw [List.length_append] at this
    rw [l0]
    exact this
  have run:Z3a [.r S.length, .d (.str a), .d (.str b), .d (.str d), .d (.bl k)] (S++[.ins "Row" []]) = .ok (.d .non) (S++[.ins "Row" [("word", .d (.str a)),("old", .d (.str b)),("then", .d (.str d)),("take", .d (.bl k))]]):=Y6o all c2
  have fz:frz (S++[.ins "Row" [("word", .d (.str a)),("old", .d (.str b)),("then", .d (.str d)),("take", .d (.bl k))]]) S.length=some (rowD a b d k):=by
    have g:(S++[O.ins "Row" [("word", .d (.str a)),("old", .d (.str b)),("then", .d (.str d)),("take", .d (.bl k))]])[S.length]?=some (.ins "Row" [("word", .d (.str a)),("old", .d (.str b)),("then", .d (.str d)),("take", .d (.bl k))]):=by simp
    unfold frz
    rw [g]
    rfl
  exact Y8u run fz hS.cut
theorem made_no (hS:OkS S) (ma:a ∈ BW) (mb:b ∈ BW) (md:d ∈ BW) (hk:a = "give" ∨ k=true) (hq:fourQ a b d=false):∃ z,made "Row" mkF Z3a [.d (.str a), .d (.str b), .d (.str d), .d (.bl k)] S = .err "InvalidRow" [("word", .str z)] S:=by
  have all:=init_ok (S:=S) ma mb md hk
  rw [hq] at all
  refine ⟨_,made_err (runE_err all (T:=S++[.ins "Row" []]) ?_) hS.cut⟩
  exact (hS.push (o := .ins "Row" []) rfl).cut0
end
end Le
namespace Le
open Lw
open PySem PySem.Spec L2 Bv
open PyProof.Rows hiding St
variable [HasW]
section
variable {a b c d e:Str} {k:Bool} {ws l:List Str} {S T:Sto} {t:D}
abbrev evR (t:D) (l:List Str) (k:Bool):Ev:=[some (.d (.gl "Row")),some (.d t),some (.d (tls l)),some (.d (.bl k)),none]
def readQ (l:List Str) (k:Bool):PR:=if tailQ l then (match l with
  | [a,b,_,d] => .ok (rowD a b d k)
  | _ => .bad) else .err "InvalidText" [("at", .int 0)]
theorem tail_read (hm:∀ z ∈ l,z ∈ BW) (hk:∀ a r,l=a :: r→a = "give" ∨ k=true):∃ ev T2,Y4 rd_3 rd_4 (evR t l k) []=(match readQ l k with
    | .ok x => .go (.rp x) T2
    | .err C fs => .err C fs ev T2
    | .bad => .bad):=by
  by_cases h4:l.length=4
  · obtain ⟨a,b,c,d,rfl⟩:=four h4
    have ma:=hm a (by simp)
    have mb:=hm b (by simp)
    have md:=hm d (by simp)
    have hk:=hk a _ rfl
    have eto:neD (.str c) (.str "to")=some (.bl (!decide (c = "to"))):=Z74
    have l4:neD (.int 4) (.int 4)=some (.bl false):=nei_f
    have eq1:readQ [a,b,c,d] k=if decide (c = "to") && fourQ a b d then .ok (rowD a b d k) else .err "InvalidText" [("at", .int 0)]:=rfl
    rw [eq1]
    by_cases h2:c = "to"
    · rw [decide_eq_true h2] at eto ⊢
      have p3:rd_3 (evR t [a,b,c,d] k) [] = .go (.nx (evR t [a,b,c,d] k)) []:=by
        exact (Z2p (Z1x (W4 (Y6 (X4 (Z7 (Z5 rfl) Y5) (rfl)) W1 (Z9) (Z9) (l4))) (W4 (Y6 (Z0n (Z5 rfl) W1 (rfl)) W1 (Z9) (Z9) (eto)))) Z28)
      cases hq:fourQ a b d with
      | true =>
        have mk:=made_row Y09 ma mb md hk hq
        have body:rd_4B (evR t [a,b,c,d] k) [] = .go (.rp (rowD a b d k)) []:=by
          exact (Z6n (Z8z (Z7 (Z0n (Z5 rfl) W1 (rfl)) (Z7 (Z0n (Z5 rfl) W1 (rfl)) (Z7 (Z0n (Z5 rfl) W1 (rfl)) (Z7 (Z5 rfl) Y5)))) (U4 rfl (mk))) (Z9))
        exact ⟨[],[],Z0e p3 (Y4k body)⟩
      | false =>
        obtain ⟨z,mk⟩:=made_no Y09 ma mb md hk hq
        have body:rd_4B (evR t [a,b,c,d] k) [] = .err "InvalidRow" [("word", .str z)] (evR t [a,b,c,d] k) []:=by
          exact Y4i (Z8z (Z7 (Z0n (Z5 rfl) W1 rfl) (Z7 (Z0n (Z5 rfl) W1 rfl) (Z7 (Z0n (Z5 rfl) W1 rfl) (Z7 (Z5 rfl) Y5)))) (U4 rfl mk))
        exact ⟨_,[],Z0e p3 (Y4j body rfl rfl (by show 4 < 5; decide))⟩
    · rw [decide_eq_false h2] at eto ⊢
      exact ⟨_,[],Z2w (Z2e (Z1x (W4 (Y6 (X4 (Z7 (Z5 rfl) Y5) (rfl)) W1 (Z9) (Z9) (l4))) (W4 (Y6 (Z0n (Z5 rfl) W1 (rfl)) W1 (Z9) (Z9) (eto)))) (Z15 (Z7 W1 Y5)))⟩
  · have l4:neD (.int l.length) (.int 4)=some (.bl true):=nei_t (by omega)
    have eq1:readQ l k = .err "InvalidText" [("at", .int 0)]:=by
      unfold readQ
      rw [tailQ_no h4]
      rfl
    rw [eq1]
    exact ⟨_,[],Z2w (Z2e (Z50 (W4 (Y6 (X4 (Z7 (Z5 rfl) Y5) (len_tls)) W1 (Z9) (Z9) (l4)))) (Z15 (Z7 W1 Y5)))⟩
def outQ (ws:List Str):PR:=if rowQ ws then (match ws with
  | [a,b,c,_,d] => .ok (rowD a b d (decide (c = "take")))
  | [a,b,_,d] => .ok (rowD a b d true)
  | _ => .bad) else .err "InvalidText" [("at", .int 0)]
theorem runP_of {N:Nat} {mb:MS} {ds:List D} {p:PR} {ev:Ev} {T2:Sto} (h:mb (ev0 N (ds.map .d)) []=(match p with
    | .ok x => .go (.rp x) T2
    | .err C fs => .err C fs ev T2
    | .bad => .bad)) (hb:p ≠ .bad):Z6v N mb ds=p:=by
  cases p with
  | ok x=>exact Y6p h
  | err C fs=>exact Y1g h
  | bad=>exact absurd rfl hb
theorem read_ok (h:Ws ws):Z18 [.gl "Row", .str (txt ws)]=outQ ws∧outQ ws ≠ .bad:=by
  have sp:=h.gsplit (T:=[])
  have hm:=h.mem
  have hne:=h.ne
  have p0:rd_0 (ev0 5 ([D.gl "Row", .str (txt ws)].map .d)) [] = .go (.nx [some (.d (.gl "Row")),some (.d (.str (txt ws))),some (.d (tls ws)),none,none]) []:=by
    exact (Z8r (Z6e (Z5 rfl) W1 (sp)))
  have p1:rd_1 [some (.d (.gl "Row")),some (.d (.str (txt ws))),some (.d (tls ws)),none,none] [] = .go (.nx (evR (.str (txt ws)) ws true)) []:=by
    exact (Z8r W1)
  have nb:∀ {l k},readQ l k ≠ .bad:=fun {l k}=>by
    unfold readQ
    split
    · rename_i q
      split
      · exact fun z=>nomatch z
      · rename_i no
        by_cases h4:l.length=4
        · obtain ⟨a,b,c,d,rfl⟩:=four h4
          exact absurd rfl (no a b c d)
        · rw [tailQ_no h4] at q; cases q
    · exact fun z=>nomatch z
  unfold Z18
  rw [rd_is]
  match ws with
  | a :: l =>
    have eg:eqD (.str a) (.str "give")=some (.bl (decide (a = "give"))):=Z53
    have i0:ixO ([]:Sto) (.d (tls (a :: l))) 0=some (.d (.str a)):=by simp [tls,ixO,ixD,items,atI,ixN]
    by_cases hg:a = "give"
    · rw [decide_eq_true hg] at eg
      by_cases h5:l.length=4
      · obtain ⟨b,c,d,e,rfl⟩:=four h5
        have nt:=bw_tak (hm c (by simp))
        have l5:eqD (.int 5) (.int 5)=some (.bl true):=by rw [Z6d]; rfl
        have eq2:rowQ [a,b,c,d,e]=(decide (c = "take" ∨ c = "keep") && tailQ [a,b,d,e]):=if_pos hg
        by_cases ht:c = "take" ∨ c = "keep"
        · rw [decide_eq_true ht] at nt eq2
          rw [Bool.true_and] at eq2
          have ek:eqD (.str c) (.str "take")=some (.bl (decide (c = "take"))):=Z53
          have p2:rd_2 (evR (.str (txt [a,b,c,d,e])) [a,b,c,d,e] true) [] = .go (.nx (evR (.str (txt [a,b,c,d,e])) [a,b,d,e] (decide (c = "take")))) []:=by
            exact (Z2e (Z12 (W4 (Y6 (Z0n (Z5 rfl) W1 (i0)) W1 (Z9) (Z9) (eg))) (Z12 (W4 (Y6 (X4 (Z7 (Z5 rfl) Y5) (rfl)) W1 (Z9) (Z9) (l5))) (W4 (Y6 (Z0n (Z5 rfl) W1 (rfl)) W1 (Z9) (Z9) (nt))))) (Z0e (Z8r (Y6 (Z0n (Z5 rfl) W1 (rfl)) W1 (Z9) (Z9) (ek))) (Z8r (Z27 (Z9h (Z0p (Z5 rfl) Z4x (Z1c W1) (rfl)) (rfl) (Z9h (Z0p (Z5 rfl) (Z1c W1) Z4x (rfl)) (rfl) Y5)) (rfl) (hz4 (by simp))))))
          obtain ⟨ev,T2,q⟩:=tail_read (t := .str (txt [a,b,c,d,e])) (l:=[a,b,d,e]) (k:=decide (c = "take")) (fun z hz=>hm z (by simp only [List.mem_cons,List.not_mem_nil,or_false] at hz ⊢; rcases hz with h | h | h | h <;> simp [h])) fun x r z=>by cases z; exact .inl hg
          have eo:outQ [a,b,c,d,e]=readQ [a,b,d,e] (decide (c = "take")):=by
            unfold outQ readQ
            rw [eq2]
          rw [eo]
          exact ⟨runP_of (Z0e p0 (Z0e p1 (Z0e p2 q))) nb,nb⟩
        · rw [decide_eq_false ht] at nt eq2
          have eo:outQ [a,b,c,d,e] = .err "InvalidText" [("at", .int 0)]:=by
            unfold outQ
            rw [eq2]
            rfl
          rw [eo]
          have c1:rd_2C (evR (.str (txt [a,b,c,d,e])) [a,b,c,d,e] true) [] = .ok false []:=by
            exact (Z12 (W4 (Y6 (Z0n (Z5 rfl) W1 (i0)) W1 (Z9) (Z9) (eg))) (Z12 (W4 (Y6 (X4 (Z7 (Z5 rfl) Y5) (rfl)) W1 (Z9) (Z9) (l5))) (W4 (Y6 (Z0n (Z5 rfl) W1 (rfl)) W1 (Z9) (Z9) (nt)))))
          exact ⟨Y1g (Z0e p0 (Z0e p1 (Z2w (Z2p c1 (Z2e (W4 (Y6 (Z0n (Z5 rfl) W1 (i0)) W1 (Z9) (Z9) (eg))) (Z15 (Z7 W1 Y5))))))),fun z=>nomatch z⟩
      · have eq1:rowQ (a :: l)=false:=(if_pos hg).trans (rowB_no h5)
        have eo:outQ (a :: l) = .err "InvalidText" [("at", .int 0)]:=by
          unfold outQ
          rw [eq1]
          rfl
        have l5:eqD (.int (a :: l).length) (.int 5)=some (.bl false):=by
          rw [Z6d,decide_eq_false (by simp only [List.length_cons]; omega)]
        rw [eo]
        have c1:rd_2C (evR (.str (txt (a :: l))) (a :: l) true) [] = .ok false []:=by
          exact (Z12 (W4 (Y6 (Z0n (Z5 rfl) W1 (i0)) W1 (Z9) (Z9) (eg))) (Z4a (W4 (Y6 (X4 (Z7 (Z5 rfl) Y5) (len_tls)) W1 (Z9) (Z9) (l5)))))
        exact ⟨Y1g (Z0e p0 (Z0e p1 (Z2w (Z2p c1 (Z2e (W4 (Y6 (Z0n (Z5 rfl) W1 (i0)) W1 (Z9) (Z9) (eg))) (Z15 (Z7 W1 Y5))))))),fun z=>nomatch z⟩
    · rw [decide_eq_false hg] at eg
      have eq1:rowQ (a :: l)=tailQ (a :: l):=if_neg hg
      have c1:rd_2C (evR (.str (txt (a :: l))) (a :: l) true) [] = .ok false []:=by
        exact (Z4a (W4 (Y6 (Z0n (Z5 rfl) W1 (i0)) W1 (Z9) (Z9) (eg))))
      have p2:rd_2 (evR (.str (txt (a :: l))) (a :: l) true) [] = .go (.nx (evR (.str (txt (a :: l))) (a :: l) true)) []:=Z2p c1 (Z2p (W4 (Y6 (Z0n (Z5 rfl) W1 (i0)) W1 (Z9) (Z9) (eg))) Z28)
      obtain ⟨ev,T2,q⟩:=tail_read (t := .str (txt (a :: l))) (l:=a :: l) (k:=true) hm fun x r z => .inr rfl
      have eo:outQ (a :: l)=readQ (a :: l) true:=by
        unfold outQ readQ
        rw [eq1]
        by_cases h4:(a :: l).length=4
        · obtain ⟨a2,b,c,d,e⟩:=four h4
          rw [e]
        · rw [tailQ_no h4]
          rfl
      rw [eo]
      exact ⟨runP_of (Z0e p0 (Z0e p1 (Z0e p2 q))) nb,nb⟩
end
end Le
namespace Le
open Lw
open PySem PySem.Spec L2 Bv
open PyProof.Rows hiding St
variable [HasW]
def wordsR (w o t:Str) (k:Bool):List Str:=if w = "give" then [w,o,if k then "take" else "keep", "to",t] else [w,o, "to",t]
section
variable {a b c d e w o t:Str} {k:Bool} {ws l:List Str} {S T:Sto}
end
end Le
namespace Lt
open Lw
open PySem PySem.Spec L2 Bv
open PyProof.Rows hiding St
variable [HasW]
theorem Y7k {α:Type} (xs:List α) {h:Int} (h0:0 ≤ h):Z3s xs none (some h)=xs.take h.toNat:=by
  have e:HT.sIx xs.length xs.length (some h)=min h.toNat xs.length:=by
    show (if h < 0 then (h + (xs.length:Int)).toNat else min h.toNat xs.length)=_
    rw [if_neg (by omega)]
  unfold Z3s
  rw [e]
  show (xs.drop 0).take (min h.toNat xs.length - 0)=_
  rw [List.drop_zero,Nat.sub_zero]
  by_cases z:h.toNat ≤ xs.length
  · rw [Nat.min_eq_left z]
  · rw [Nat.min_eq_right (by omega),List.take_of_length_le (Nat.le_refl _),List.take_of_length_le (by omega)]
abbrev RowQ:=Str × Str × Str × Bool
def Z8d (r:RowQ):D:=Y3u r.1 r.2.1 r.2.2.1 r.2.2.2
structure ToolOk (m0:Str) (ms sh as:List Str) (rows:List RowQ):Prop where
  names:∀ x ∈ m0 :: ms,x ∈ NAMES
  few:ms.length < 4
  nd:(m0 :: ms).Nodup
  sh:sh.Sublist ms
  as:as.Sublist (m0 :: ms)
  len:rows.length ≤ 20
  rows:∀ r ∈ rows,Z86 m0 ms r.1 r.2.1 r.2.2.1 r.2.2.2
def Y0b (m0:Str) (ms sh as:List Str) (rows:List RowQ):D := .tup [.lst ((m0 :: ms).map D.str), .lst (sh.map D.str), .lst (as.map D.str), .lst (rows.map Z8d)]
theorem Y6l {b:Nat} {q:Int} (hq:0 < q∧q < 1000) {e:Ev} (h0:e[0]?=some (some (.r b))) (h8:e.length=8):∀ {l:List Str} {S:Sto},OkS S→Z2g S b →
    ∃ (l':List Str) (S2:Sto),lcL (.nm 7) .free (V6 (Y1 eqD (Z8 (X6 2 (X7 [] g__law_choose)) (Z0 (Z1 0) (Z0 (m_c (.int q)) (Z6)))) (m_c (.int 0)))) (Z1 7) e (l.map fun s=>X.d (.str s)) S = .ok (l'.map D.str) S2∧l'.Sublist l∧Drew S b S2
  | [],S,hS,hb=>⟨[],S,by simp [lcL,Lk.ok],List.Sublist.refl _,Drew.refl hb⟩
  | s :: l,S,hS,hb=>by
    obtain ⟨d,S1,e1,d0,d1,dr⟩:=Z17 (m:=q) hS hb (by omega)
    obtain ⟨l',S2,e2,hs,dr2⟩:=Y6l hq h0 h8 (l:=l) (dr.ok hS) (dr.at_ hb.lt)
    have g0:(e.set 7 (some (X.d (.str s))))[0]?=some (some (.r b)):=by rw [List.getElem?_set_ne (by decide)]; exact h0
    have g7:(e.set 7 (some (X.d (.str s))))[7]?=some (some (X.d (.str s))):=List.getElem?_set_self (by omega)
    have ht:(V6 (Y1 eqD (Z8 (X6 2 (X7 [] g__law_choose)) (Z0 (Z1 0) (Z0 (m_c (.int q)) (Z6)))) (m_c (.int 0)))) (e.set 7 (some (X.d (.str s)))) S = .ok (decide (d=0)) S1:=by
      simp [ev0,Y4,Z0l,W5,V2,W0,Z0t,X8,Z0b,V4,U6,Z1s,Z0w,Z00,Z0c,V6,Y1,Q5,Z1,m_c,Z8,Z0,Z6,W8,U2,W9,V7,W2,Z2z,Y3,Y9,Z0s,Z26,W7,V8,X9,Z0i,Z3j,Z1r,Z4s,X5,V0,R.bind,R.so,RO.then,items,ixO,ixD,Z23,Z2o,op2,X.get,tb,Z03,Z02,Z1b,Z0v,slX,V3,Q4,X6,X7,Z39,Z3z,Z0y,Z3u,Z3g,Z3t,Z3h,Z0u,Z3i,Z4r,Z0r,ints?,Z33,Z4j,Z4h,ds?,gets,callP,X.isD,D.noL,D.noLs,D.noLf,U9,Z01,Z1a,Z1n,Z4m,Z4o,Z4n,Z4y,g0,e1,Z6d]
    have hv:Z1 7 (e.set 7 (some (X.d (.str s)))) S1 = .ok (.d (.str s)) S1:=by
      unfold Z1
      rw [g7]
    by_cases hd:d=0
    · refine ⟨s :: l',S2,?_,hs.cons₂ s,dr.trans dr2⟩
      rw [decide_eq_true hd] at ht
      simp only [List.map_cons,lcL,Lk.ok,if_true,Tg.asg,ht,R.ne,R.bind,hv,e2]
    · refine ⟨l',S2,?_,hs.cons s,dr.trans dr2⟩
      rw [decide_eq_false hd] at ht
      simp only [List.map_cons,lcL,Lk.ok,if_true,Tg.asg,ht,R.ne,R.bind,Bool.false_eq_true,if_false,e2]
theorem Y6m {b:Nat} {q:Int} (hq:0 < q∧q < 1000) {mi:MIt} {e:Ev} {S:Sto} {l:List Str} (h0:e[0]?=some (some (.r b))) (h8:e.length=8) (hS:OkS S) (hb:Z2g S b) (hl:l.length < 1000) (hi:mi e S = .ok (l.map fun s=>X.d (.str s), .free) S) :
    ∃ (l':List Str) (S2:Sto),Z2u (.nm 7) mi (V6 (Y1 eqD (Z8 (X6 2 (X7 [] g__law_choose)) (Z0 (Z1 0) (Z0 (m_c (.int q)) (Z6)))) (m_c (.int 0)))) (Z1 7) [7] e S = .ok (.d (.lst (l'.map D.str))) S2∧l'.Sublist l∧Drew S b S2:=by
  have w0:(Z1v e [7])[0]?=some (some (.r b)):=by
    show (e.set 7 none)[0]?=_
    rw [List.getElem?_set_ne (by decide)]; exact h0
  have w8:(Z1v e [7]).length=8:=by rw [Z3r]; exact h8
  obtain ⟨l',S2,e1,hs,dr⟩:=Y6l hq w0 w8 (l:=l) hS hb
  refine ⟨l',S2,?_,hs,dr⟩
  unfold Z2u
  rw [hi]
  show (lcL (.nm 7) .free _ (Z1 7) (Z1v e [7]) (l.map fun s=>X.d (.str s)) S).bind Z8l=_
  rw [e1]
  show Z8l (l'.map D.str) S2=_
  unfold Z8l
  have:=hs.length_le
  rw [if_pos (by rw [List.length_map,sizeLine_eq]; omega)]
end Lt
namespace Lt
open Lw
open PySem PySem.Spec L2 Bv
open PyProof.Rows hiding St
variable [HasW]
def rowB:MS:=W0 5 (Y1 Z2f (W9 (Z0 (Z8 (X6 2 (X7 [] g__law_row)) (Z0 (Z1 0) (Z0 (Z1 2) (Z6)))) (Z6))) (Z1 5))
def ev8 (b:Nat) (m0:Str) (ms sh as:List Str) (x5 o6 o7:Option X):Ev:=[some (.r b),some (.d (.int 6)),some (.d (.lst (D.str m0 :: ms.map D.str))),some (.d (.lst (sh.map D.str))),some (.d (.lst (as.map D.str))),x5,o6,o7]
def Z45 (n:Nat) (T:Sto) (x:X) (rows:List RowQ):Prop:=(x = .d (.lst (rows.map Z8d))) ∨ (x = .r n∧T[n]?=some (.lst ((rows.map Z8d).map X.d)))
theorem Z45.get {n:Nat} {T:Sto} {x:X} {rows:List RowQ} (h:Z45 n T x rows):x.get T=some (.lst (rows.map Z8d)):=by
  rcases h with rfl | ⟨rfl,e⟩
  · rfl
  · have h:=Z9y (rows.map Z8d)
    simp only [X.get,e,h,Option.map_some]
theorem Z45.sl {n:Nat} {T:Sto} {x:X} {rows:List RowQ} (h:Z45 n T x rows):slX T x none (some 6)=some (.d (.lst ((rows.take 6).map Z8d))):=by
  have c1:Z3s (rows.map Z8d) none (some 6)=(rows.take 6).map Z8d:=by rw [Y7k _ (by decide),List.map_take]; rfl
  rcases h with rfl | ⟨rfl,e⟩
  · show some (X.d (.lst (Z3s (rows.map Z8d) none (some 6))))=_
    rw [c1]
  · have c2:Z3s ((rows.map Z8d).map X.d) none (some 6)=((rows.take 6).map Z8d).map X.d:=by rw [Y5o,c1]
    have h:=Z9y ((rows.take 6).map Z8d)
    simp only [slX,e,c2,h,Option.map_some]
structure RowI (S:Sto) (b:Nat) (m0:Str) (ms sh as:List Str) (e:Ev) (T:Sto):Prop where
  ex:∃ (rows:List RowQ) (S1:Sto) (q:List D) (x:X) (o6 o7:Option X),e=ev8 b m0 ms sh as (some x) o6 o7∧T=S1++[.lst (q.map X.d)]∧Drew S b S1∧Z45 S.length T x rows∧(∀ r ∈ rows,Z86 m0 ms r.1 r.2.1 r.2.2.1 r.2.2.2)∧rows.length ≤ 1000
theorem ok1 {S:Sto} (h:OkS S) (q:List D):OkS (S++[.lst (q.map X.d)]):=h.push (Z4u q)
theorem X2u {S:Sto} {b:Nat} (h:Z2g S b) (o:O):Z2g (S++[o]) b:=by
  obtain ⟨g,n,e,hg,hn⟩:=h
  exact ⟨g,n,by rw [List.getElem?_append_left (List.getElem?_eq_some_iff.mp e).1]; exact e,hg,hn⟩
theorem _root_.Lw.Drew.app {S S2:Sto} {b:Nat} {o:O} (hb:b < S.length) (d:Drew (S++[o]) b S2):∃ S3,S2=S3++[o]∧Drew S b S3:=by
  obtain ⟨g,n,rfl,hg,hn⟩:=d
  exact ⟨S.set b (box g n),by rw [List.set_append_left _ _ hb],g,n,rfl,hg,hn⟩
theorem Z45.keep {S S1 S3:Sto} {o:O} {x:X} {rows:List RowQ} (h1:S1.length=S.length) (h3:S3.length=S.length) (h:Z45 S.length (S1++[o]) x rows):Z45 S.length (S3++[o]) x rows:=by
  rcases h with h | ⟨h,e⟩
  · exact .inl h
  · refine .inr ⟨h,?_⟩
    rw [← h1] at e
    rw [← h3]
    rw [List.getElem?_append_right (Nat.le_refl _),Nat.sub_self] at e ⊢
    exact e
theorem Y77 {S:Sto} {b:Nat} {m0:Str} {ms sh as:List Str} {e:Ev} {T:Sto} {x:X} (hS:OkS S) (hb:Z2g S b) (hm:∀ x ∈ m0 :: ms,x ∈ NAMES) (hl:ms.length < 4) (hl0:0 < ms.length) {n:Nat}
    (hI:∃ (rows:List RowQ) (S1:Sto) (q:List D) (y:X) (o6 o7:Option X),e=ev8 b m0 ms sh as (some y) o6 o7∧T=S1++[.lst (q.map X.d)]∧Drew S b S1∧Z45 S.length T y rows∧(∀ r ∈ rows,Z86 m0 ms r.1 r.2.1 r.2.2.1 r.2.2.2)∧rows.length ≤ n) (hn:n < 1000) :
    ∃ e1 e2 S2,Tg.asg T (.nm 6) x e=some e1∧rowB e1 T = .go (.nx e2) S2∧∃ (rows:List RowQ) (S1:Sto) (q:List D) (y:X) (o6 o7:Option X),e2=ev8 b m0 ms sh as (some y) o6 o7∧S2=S1++[.lst (q.map X.d)]∧Drew S b S1∧Z45 S.length S2 y rows∧(∀ r ∈ rows,Z86 m0 ms r.1 r.2.1 r.2.2.1 r.2.2.2)∧rows.length ≤ n + 1:=by
  obtain ⟨rows,S1,q,y,o6,o7,he,hT,dr,hr,hin,hlen⟩:=hI
  have hS1:OkS S1:=dr.ok hS
  have hb1:=dr.at_ hb.lt
  have hTo:OkS T:=by rw [hT]; exact ok1 hS1 q
  have hTb:Z2g T b:=by rw [hT]; exact X2u hb1 _
  obtain ⟨w,o,t,k,S2,e2,hri,d2⟩:=row_ok (m0:=m0) (ms:=ms) hTo hTb hm hl hl0
  rw [hT] at d2
  obtain ⟨S3,hS2,d3⟩:=d2.app hb1.lt
  have e2':g__law_row [.r b, .d (.lst (D.str m0 :: ms.map D.str))] T = .ok (.d (Y3u w o t k)) S2:=e2
  have hr2:Z45 S.length S2 y rows:=by
    rw [hT] at hr
    rw [hS2]
    exact hr.keep dr.len (d3.len.trans dr.len)
  have hg:=hr2.get
  have z1:(1:Nat) ≤ sizeLine:=by rw [sizeLine_eq]; omega
  have za:Z2f (.lst [Y3u w o t k]) (.lst (rows.map Z8d))=some (.lst (Y3u w o t k :: rows.map Z8d)):=by
    refine if_pos ?_
    rw [List.length_map,sizeLine_eq]
    simp
    omega
  refine ⟨ev8 b m0 ms sh as (some y) (some x) o7,ev8 b m0 ms sh as (some (.d (.lst (((w,o,t,k) :: rows).map Z8d)))) (some x) o7,S2,by rw [he]; rfl,?_,(w,o,t,k) :: rows,S3,q,_,some x,o7,rfl,hS2,dr.trans d3, .inl rfl,?_,by simp; omega⟩
  · unfold rowB ev8
    simp [ev0,Y4,Z0l,W5,V2,W0,Z0t,X8,Z0b,V4,U6,Z1s,Z0w,Z00,Z0c,V6,Y1,Q5,Z1,m_c,Z8,Z0,Z6,W8,U2,W9,V7,W2,Z2z,Y3,Y9,Z0s,Z26,W7,V8,X9,Z0i,Z3j,Z1r,Z4s,X5,V0,R.bind,R.so,RO.then,items,ixO,ixD,Z23,Z2o,op2,Z9,tb,Z03,Z02,Z1b,Z0v,slX,V3,Q4,X6,X7,Z39,Z3z,Z0y,Z3u,Z3g,Z3t,Z3h,Z0u,Z3i,Z4r,Z0r,ints?,Z33,Z4j,Z4h,ds?,gets,callP,X.isD,D.noL,D.noLs,D.noLf,U9,Z01,Z1a,Z1n,Z4m,Z4o,Z4n,Z4y,e2',z1,hg,za,Z8d]
  · intro r hm
    rcases List.mem_cons.mp hm with rfl | hm
    · exact hri
    · exact hin r hm
end Lt
namespace Lt
open Lw
open PySem PySem.Spec L2 Bv
open PyProof.Rows hiding St
variable [HasW]
def t0:MS:=(W0 2 (Z8 (X6 1 (X7 [] g__law_marks)) (Z0 (Z1 0) (Z6))))
def t1:MS:=(W0 3 (Z2u (.nm 7) (Q8 (Y3 (Z1 2) (Y9 (m_c (.int 1))) (Z0s))) (V6 (Y1 eqD (Z8 (X6 2 (X7 [] g__law_choose)) (Z0 (Z1 0) (Z0 (m_c (.int 2)) (Z6)))) (m_c (.int 0)))) (Z1 7) [7]))
def t2:MS:=(W0 4 (Z2u (.nm 7) (Q8 (Z1 2)) (V6 (Y1 eqD (Z8 (X6 2 (X7 [] g__law_choose)) (Z0 (Z1 0) (Z0 (m_c (.int 3)) (Z6)))) (m_c (.int 0)))) (Z1 7) [7]))
def t3:MS:=(W0 5 (V7 (Z6)))
def t4:MS:=(Z0l (V6 (Y1 gtD (Z8 (X6 2 (X7 [] g__law_choose)) (Z0 (Z1 0) (Z0 (m_c (.int 4)) (Z6)))) (m_c (.int 0)))) (Y4 (V2 (Z2z U9 Z0z (Z1 5) (Z0 (U2 (Z0 (m_c (.str "give")) (Z0 (m_c (.str "any")) (Z0 (Q5 (Z1 2) (Y26 (m_c (.int 1)))) (Z0 (m_c (.bl true)) (Z6)))))) (Z6)))) (V2 (Z2z U9 Z0z (Z1 5) (Z0 (U2 (Z0 (m_c (.str "carry")) (Z0 (m_c (.str "any")) (Z0 (Z8 (X6 2 (X7 [] g__law_one_of)) (Z0 (Z1 0) (Z0 (Y1 Z2f (Y3 (Z1 2) (Y9 (m_c (.int 1))) (Z0s)) (W9 (Z0 (m_c (.str "same")) (Z6)))) (Z6)))) (Z0 (m_c (.bl true)) (Z6)))))) (Z6))))) (W5))
def t5:MS:=(Z4p (.nm 6) (Z4g (Z0 (Z8 (X6 2 (X7 [] g__law_choose)) (Z0 (Z1 0) (Z0 (Y1 Y84 (Z1 1) (m_c (.int 1))) (Z6)))) (Z6))) (W0 5 (Y1 Z2f (W9 (Z0 (Z8 (X6 2 (X7 [] g__law_row)) (Z0 (Z1 0) (Z0 (Z1 2) (Z6)))) (Z6))) (Z1 5))))
def t6:MS:=(Z0t (U2 (Z0 (Z1 2) (Z0 (Z1 3) (Z0 (Z1 4) (Z0 (Y3 (Z1 5) (Z0s) (Y9 (Z1 1))) (Z6)))))))
theorem X0j:Z64=Y4 t0 ( Y4 t1 ( Y4 t2 ( Y4 t3 ( Y4 t4 ( Y4 t5 (t6)))))):=by kernel_rfl
theorem Y9u {m0:Str} {ms:List Str} {S:Sto}:∃ z ∈ m0 :: ms,ixO S (.d (.lst (D.str m0 :: ms.map D.str))) (-1)=some (.d (.str z)):=by
  have hl:((m0 :: ms).map fun s=>X.d (.str s)).length=ms.length + 1:=by simp
  refine ⟨(m0 :: ms)[ms.length]'(by simp),List.getElem_mem _,?_⟩
  have e1:items S (.d (.lst (D.str m0 :: ms.map D.str)))=some ((m0 :: ms).map fun s=>X.d (.str s)):=by simp [items]
  unfold ixO
  rw [e1]
  show atI ((m0 :: ms).map fun s=>X.d (.str s)) (-1)=_
  unfold atI ixN
  rw [hl,if_neg (by omega),if_pos (by omega)]
  show ((m0 :: ms).map fun s=>X.d (.str s))[((-1:Int) + ((ms.length + 1:Nat):Int)).toNat]?=_
  rw [show ((-1:Int) + ((ms.length + 1:Nat):Int)).toNat=ms.length by omega,List.getElem?_map,List.getElem?_eq_getElem (by simp)]
  rfl
theorem Y48 {i:Int} (h0:0 ≤ i) (h:i < 1000):Z4v i=true:=by
  have:=Z3f (n:=i.toNat) (by omega)
  rwa [Int.toNat_of_nonneg h0] at this
theorem Y4w {S:Sto} {b:Nat} {m0:Str} {ms sh as:List Str} {o6 o7:Option X} (hS:OkS S) (hb:Z2g S b) (hl:ms.length < 4):∃ (rows:List RowQ) (S1:Sto),t4 (ev8 b m0 ms sh as (some (.r S.length)) o6 o7) (S++[.lst []]) = .go (.nx (ev8 b m0 ms sh as (some (.r S.length)) o6 o7)) (S1++[.lst ((rows.map Z8d).map X.d)])∧Drew S b S1∧(∀ r ∈ rows,Z86 m0 ms r.1 r.2.1 r.2.2.1 r.2.2.2)∧rows.length ≤ 2:=by
  obtain ⟨d,T1,e1,d0,dm,d1⟩:=Z17 (m:=4) (ok1 hS []) (X2u hb (.lst [])) (by decide)
  obtain ⟨S1,hT1,d1'⟩:=d1.app hb.lt
  have hS1:OkS S1:=d1'.ok hS
  have hb1:=d1'.at_ hb.lt
  have e1':g__law_choose [.r b, .d (.int 4)] (S++[.lst []]) = .ok (.d (.int d)) T1:=e1
  by_cases hd:0 < d
  · obtain ⟨z,hz,hix⟩:=Y9u (m0:=m0) (ms:=ms) (S:=S1++[.lst []])
    have n1:S1.length=S.length:=d1'.len
    let r1:RowQ:=("give", "any",z,true)
    have sizes:∀ n:Nat,n < 1000→n ≤ sizeLine:=fun n h=>by rw [sizeLine_eq]; omega
    have g1:∀ o:O,(S1++[o])[S.length]?=some o:=fun o=>by rw [← n1]; simp
    have s1:∀ o o':O,(S1++[o]).set S.length o'=S1++[o']:=fun o o'=>by rw [← n1]; simp
    obtain ⟨dt,T2,e2,ht,d2⟩:=Z5b (S:=S1++[.lst [.d (Z8d r1)]]) (b:=b) (ds:=ms.map D.str++[.str "same"]) (ok1 hS1 [Z8d r1]) (X2u hb1 _) (by simp) (by simp; omega)
    obtain ⟨S2,hT2,d2'⟩:=d2.app hb1.lt
    have htE:∃ t,dt = .str t∧t ∈ ("same" : Str) :: m0 :: ms:=by
      rcases List.mem_append.mp ht with h | h
      · obtain ⟨t,h1,rfl⟩:=List.mem_map.mp h
        exact ⟨t,rfl,List.mem_cons_of_mem _ (List.mem_cons_of_mem _ h1)⟩
      · exact ⟨"same",by simpa using h,by simp⟩
    obtain ⟨t,rfl,htm⟩:=htE
    let r2:RowQ:=("carry", "any",t,true)
    have n2:S2.length=S.length:=d2'.len.trans n1
    have g2:∀ o:O,(S2++[o])[S.length]?=some o:=fun o=>by rw [← n2]; simp
    have s2:∀ o o':O,(S2++[o]).set S.length o'=S2++[o']:=fun o o'=>by rw [← n2]; simp
    have hcut:Z3s (D.str m0 :: ms.map D.str) (some 1) none=ms.map D.str:=cutL_one _ _
    have ha:Z2f (.lst (ms.map D.str)) (.lst [.str "same"])=some (.lst (ms.map D.str++[.str "same"])):=if_pos (sizes _ (by simp; omega))
    have z1:=sizes 1 (by decide)
    have z4:=sizes 4 (by decide)
    have z0:0 < sizeLine:=by have:=sizes 1 (by decide); omega
    have z1':1 < sizeLine:=by have:=sizes 2 (by decide); omega
    refine ⟨[r1,r2],S2,?_,d1'.trans d2',?_,by simp⟩
    · have e2':g__law_one_of [.r b, .d (.lst (ms.map D.str++[.str "same"]))] (S1++[.lst [.d (.tup [.str "give", .str "any", .str z, .bl true])]]) = .ok (.d (.str t)) T2:=e2
      rw [hT1] at e1'
      rw [hT2] at e2'
      have hixd:∀ S:Sto,ixO S (.d (.lst (D.str m0 :: ms.map D.str))) (-1)=some (.d (.str z)):=fun S=>by rw [← hix]; rfl
      unfold t4 ev8
      simp [Y4,Z0l,W5,V2,V6,Y1,Q5,Z1,m_c,Z8,Z0,Z6,U2,W9,Z2z,Y3,Y9,Z0s,Y26,R.bind,R.so,RO.then,Z23,Z2o,op2,Z9,tb,Z03,Z02,slX,X6,X7,ds?,U9,Z01,Z4m,e1',hd,hixd,g1,s1,g2,s2,e2',hcut,ha,z1,z4,z0,z1',Z0z,Z8d,Y3u,r1,r2]
    · have hg:("give" : Str) ∈ HAPS∧("carry" : Str) ∈ HAPS∧¬ (("carry" : Str) = "give"):=by decide +kernel
      intro r hr
      rcases List.mem_cons.mp hr with rfl | hr
      · exact ⟨hg.1,List.mem_cons_self,List.mem_cons_of_mem _ hz,fun h=>absurd rfl h⟩
      · rcases List.mem_cons.mp hr with rfl | hr
        · exact ⟨hg.2.1,List.mem_cons_self,htm,fun _=>⟨rfl,List.mem_cons_self⟩⟩
        · cases hr
  · refine ⟨[],S1,?_,d1',by simp,by simp⟩
    rw [hT1] at e1'
    unfold t4 ev8
    simp [ev0,Y4,Z0l,W5,V2,W0,Z0t,X8,Z0b,V4,U6,Z1s,Z0w,Z00,Z0c,V6,Y1,Q5,Z1,m_c,Z8,Z0,Z6,W8,U2,W9,V7,W2,Z2z,Y3,Y9,Z0s,Z26,W7,V8,X9,Z0i,Z3j,Z1r,Z4s,X5,V0,R.bind,R.so,RO.then,items,ixO,ixD,Z23,Z2o,op2,X.get,tb,Z03,Z02,Z1b,Z0v,slX,V3,Q4,X6,X7,Z39,Z3z,Z0y,Z3u,Z3g,Z3t,Z3h,Z0u,Z3i,Z4r,Z0r,ints?,Z33,Z4j,Z4h,ds?,gets,callP,X.isD,D.noL,D.noLs,D.noLf,U9,Z01,Z1a,Z1n,Z4m,Z4o,Z4n,Z4y,e1',hd]
theorem Y8g (lo:Int) (n:Nat):(Bv.upTo lo n).length=n:=by simp [Bv.upTo]
theorem tool_ok {S:Sto} {b:Nat} (hS:OkS S) (hb:Z2g S b):∃ (m0:Str) (ms sh as:List Str) (rows:List RowQ) (S2:Sto),g__law_tool [.r b, .d (.int 6)] S = .ok (.d (Y0b m0 ms sh as rows)) S2∧(ToolOk m0 ms sh as rows∧rows.length ≤ 6)∧Drew S b S2:=by
  obtain ⟨m0,ms,S1,e1,hm,hl,hl0,hnd,d1⟩:=Y7t hS hb
  have e1':g__law_marks [.r b] S = .ok (.d (.lst (D.str m0 :: ms.map D.str))) S1:=e1
  have p0:t0 (ev0 8 [.r b, .d (.int 6)]) S = .go (.nx [some (.r b),some (.d (.int 6)),some (.d (.lst (D.str m0 :: ms.map D.str))),none,none,none,none,none]) S1:=by
    unfold t0
    simp [ev0,Y4,Z0l,W5,V2,W0,Z0t,X8,Z0b,V4,U6,Z1s,Z0w,Z00,Z0c,V6,Y1,Q5,Z1,m_c,Z8,Z0,Z6,W8,U2,W9,V7,W2,Z2z,Y3,Y9,Z0s,Z26,W7,V8,X9,Z0i,Z3j,Z1r,Z4s,X5,V0,R.bind,R.so,RO.then,items,ixO,ixD,Z23,Z2o,op2,X.get,tb,Z03,Z02,Z1b,Z0v,slX,V3,Q4,X6,X7,Z39,Z3z,Z0y,Z3u,Z3g,Z3t,Z3h,Z0u,Z3i,Z4r,Z0r,ints?,Z33,Z4j,Z4h,ds?,gets,callP,X.isD,D.noL,D.noLs,D.noLf,U9,Z01,Z1a,Z1n,Z4m,Z4o,Z4n,Z4y,e1']
  have hcut:Z3s (D.str m0 :: ms.map D.str) (some 1) none=ms.map D.str:=cutL_one _ _
  obtain ⟨sh,S2,e2,hs,d2⟩:=Y6m (b:=b) (q:=2) (by decide) (mi:=Q8 (Y3 (Z1 2) (Y9 (m_c (.int 1))) (Z0s))) (e:=[some (.r b),some (.d (.int 6)),some (.d (.lst (D.str m0 :: ms.map D.str))),none,none,none,none,none]) (l:=ms) rfl rfl (d1.ok hS) (d1.at_ hb.lt) (by omega) (by
    unfold Q8
    simp [ev0,Y4,Z0l,W5,V2,W0,Z0t,X8,Z0b,V4,U6,Z1s,Z0w,Z00,Z0c,V6,Y1,Q5,Z1,m_c,Z8,Z0,Z6,W8,U2,W9,V7,W2,Z2z,Y3,Y9,Z0s,Z26,W7,V8,X9,Z0i,Z3j,Z1r,Z4s,X5,V0,R.bind,R.so,RO.then,items,ixO,ixD,Z23,Z2o,op2,X.get,tb,Z03,Z02,Z1b,Z0v,slX,V3,Q4,X6,X7,Z39,Z3z,Z0y,Z3u,Z3g,Z3t,Z3h,Z0u,Z3i,Z4r,Z0r,ints?,Z33,Z4j,Z4h,ds?,gets,callP,X.isD,D.noL,D.noLs,D.noLf,U9,Z01,Z1a,Z1n,Z4m,Z4o,Z4n,Z4y,hcut,Z6y])
  have p1:t1 [some (.r b),some (.d (.int 6)),some (.d (.lst (D.str m0 :: ms.map D.str))),none,none,none,none,none] S1 = .go (.nx [some (.r b),some (.d (.int 6)),some (.d (.lst (D.str m0 :: ms.map D.str))),some (.d (.lst (sh.map D.str))),none,none,none,none]) S2:=by
    unfold t1 W0
    rw [e2]
    rfl
  obtain ⟨as,S3,e3,ha,d3⟩:=Y6m (b:=b) (q:=3) (by decide) (mi:=Q8 (Z1 2)) (e:=[some (.r b),some (.d (.int 6)),some (.d (.lst (D.str m0 :: ms.map D.str))),some (.d (.lst (sh.map D.str))),none,none,none,none]) (l:=m0 :: ms) rfl rfl (d2.ok (d1.ok hS)) (d2.at_ (d1.at_ hb.lt).lt) (by simp; omega) (by
    unfold Q8
    simp [ev0,Y4,Z0l,W5,V2,W0,Z0t,X8,Z0b,V4,U6,Z1s,Z0w,Z00,Z0c,V6,Y1,Q5,Z1,m_c,Z8,Z0,Z6,W8,U2,W9,V7,W2,Z2z,Y3,Y9,Z0s,Z26,W7,V8,X9,Z0i,Z3j,Z1r,Z4s,X5,V0,R.bind,R.so,RO.then,items,ixO,ixD,Z23,Z2o,op2,X.get,tb,Z03,Z02,Z1b,Z0v,slX,V3,Q4,X6,X7,Z39,Z3z,Z0y,Z3u,Z3g,Z3t,Z3h,Z0u,Z3i,Z4r,Z0r,ints?,Z33,Z4j,Z4h,ds?,gets,callP,X.isD,D.noL,D.noLs,D.noLf,U9,Z01,Z1a,Z1n,Z4m,Z4o,Z4n,Z4y,Z6y])
  have p2:t2 [some (.r b),some (.d (.int 6)),some (.d (.lst (D.str m0 :: ms.map D.str))),some (.d (.lst (sh.map D.str))),none,none,none,none] S2 = .go (.nx [some (.r b),some (.d (.int 6)),some (.d (.lst (D.str m0 :: ms.map D.str))),some (.d (.lst (sh.map D.str))),some (.d (.lst (as.map D.str))),none,none,none]) S3:=by
    unfold t2 W0
    rw [e3]
    rfl
  have dS3:Drew S b S3:=(d1.trans d2).trans d3
  have hS3:OkS S3:=dS3.ok hS
  have hb3:=dS3.at_ hb.lt
  have n3:S3.length=S.length:=dS3.len
  have z0:0 ≤ sizeLine:=Nat.zero_le _
  have p3:t3 [some (.r b),some (.d (.int 6)),some (.d (.lst (D.str m0 :: ms.map D.str))),some (.d (.lst (sh.map D.str))),some (.d (.lst (as.map D.str))),none,none,none] S3 = .go (.nx (ev8 b m0 ms sh as (some (.r S3.length)) none none)) (S3++[.lst []]):=by
    unfold t3 ev8
    simp [ev0,Y4,Z0l,W5,V2,W0,Z0t,X8,Z0b,V4,U6,Z1s,Z0w,Z00,Z0c,V6,Y1,Q5,Z1,m_c,Z8,Z0,Z6,W8,U2,W9,V7,W2,Z2z,Y3,Y9,Z0s,Z26,W7,V8,X9,Z0i,Z3j,Z1r,Z4s,X5,V0,R.bind,R.so,RO.then,items,ixO,ixD,Z23,Z2o,op2,X.get,tb,Z03,Z02,Z1b,Z0v,slX,V3,Q4,X6,X7,Z39,Z3z,Z0y,Z3u,Z3g,Z3t,Z3h,Z0u,Z3i,Z4r,Z0r,ints?,Z33,Z4j,Z4h,ds?,gets,callP,X.isD,D.noL,D.noLs,D.noLf,U9,Z01,Z1a,Z1n,Z4m,Z4o,Z4n,Z4y]
  obtain ⟨rows0,S4,p4,d4,hr0,hl2⟩:=Y4w (m0:=m0) (ms:=ms) (sh:=sh) (as:=as) (o6:=none) (o7:=none) hS3 hb3 hl
  have hS4:OkS S4:=d4.ok hS3
  have hb4:=d4.at_ hb3.lt
  obtain ⟨d,T5,e5,d0,dm,d5⟩:=Z17 (m:=5) (ok1 hS4 (rows0.map Z8d)) (X2u hb4 _) (by decide)
  obtain ⟨S5,hT5,d5'⟩:=d5.app hb4.lt
  have dS5:Drew S b S5:=(dS3.trans d4).trans d5'
  have n5:S5.length=S.length:=dS5.len
  have it5:Z4g (Z0 (Z8 (X6 2 (X7 [] g__law_choose)) (Z0 (Z1 0) (Z0 (Y1 Y84 (Z1 1) (m_c (.int 1))) (Z6)))) (Z6)) (ev8 b m0 ms sh as (some (.r S3.length)) none none) (S4++[.lst ((rows0.map Z8d).map X.d)]) = .ok (Bv.upTo 0 d.toNat, .free) T5:=by
    refine Z6g (n:=d) ?_ (Y48 d0 (by omega))
    unfold ev8
    simp [ev0,Y4,Z0l,W5,V2,W0,Z0t,X8,Z0b,V4,U6,Z1s,Z0w,Z00,Z0c,V6,Y1,Q5,Z1,m_c,Z8,Z0,Z6,W8,U2,W9,V7,W2,Z2z,Y3,Y9,Z0s,Z26,W7,V8,X9,Z0i,Z3j,Z1r,Z4s,X5,V0,R.bind,R.so,RO.then,items,ixO,ixD,Z23,Z2o,op2,Z9,tb,Z03,Z02,Z1b,Z0v,slX,V3,Q4,X6,X7,Z39,Z3z,Z0y,Z3u,Z3g,Z3t,Z3h,Z0u,Z3i,Z4r,Z0r,ints?,Z33,Z4j,Z4h,ds?,gets,callP,X.isD,D.noL,D.noLs,D.noLf,U9,Z01,Z1a,Z1n,Z4m,Z4o,Z4n,Z4y,e5,show ((6:Int) - 1)=5 from rfl,-List.map_map]
  have start:∃ (rows:List RowQ) (S1:Sto) (q:List D) (y:X) (o6 o7:Option X),ev8 b m0 ms sh as (some (.r S3.length)) none none=ev8 b m0 ms sh as (some y) o6 o7∧T5=S1++[.lst (q.map X.d)]∧Drew S b S1∧Z45 S.length T5 y rows∧(∀ r ∈ rows,Z86 m0 ms r.1 r.2.1 r.2.2.1 r.2.2.2)∧rows.length ≤ 2 + 0 :=
    ⟨rows0,S5,rows0.map Z8d,_,none,none,rfl,hT5,dS5, .inr ⟨by rw [n3],by rw [hT5,← n5]; simp⟩,hr0,hl2⟩
  obtain ⟨e6,T6,p5,rows,S6,q,y,o6,o7,he6,hT6,d6,hr6,hin,hlen⟩:=Y03 (t := .nm 6) (body:=rowB) (fun k e T=>∃ (rows:List RowQ) (S1:Sto) (q:List D) (y:X) (o6 o7:Option X),e=ev8 b m0 ms sh as (some y) o6 o7∧T=S1++[.lst (q.map X.d)]∧Drew S b S1∧Z45 S.length T y rows∧(∀ r ∈ rows,Z86 m0 ms r.1 r.2.1 r.2.2.1 r.2.2.2)∧rows.length ≤ 2 + k) (xs:=Bv.upTo 0 d.toNat) (k:=0) start fun i x hx e T hI=>by
    have hi:i < d.toNat:=by
      have:=(List.getElem?_eq_some_iff.mp hx).1
      rwa [Y8g] at this
    have:=Y77 (x:=x) hS hb hm hl hl0 hI (by omega)
    rw [show 2 + (0 + i + 1)=2 + (0 + i) + 1 by omega]
    exact this
  have p5':t5 (ev8 b m0 ms sh as (some (.r S3.length)) none none) (S4++[.lst ((rows0.map Z8d).map X.d)]) = .go (.nx e6) T6:=(Y4g (t := .nm 6) (body:=rowB) it5).trans p5
  have hsl:=hr6.sl
  have z4:4 ≤ sizeLine:=by rw [sizeLine_eq]; omega
  have p6:t6 e6 T6 = .go (.rt (.d (Y0b m0 ms sh as (rows.take 6)))) T6:=by
    rw [he6]
    unfold t6 ev8
    simp only [Z0t,U2,Z0,Z1,Z6,Y3,Z0s,Y9,R.bind,R.so,Z23,Z2o,Option.map_some,List.getElem?_cons_zero,List.getElem?_cons_succ]
    rw [hsl]
    simp [Z03,ds?,z4,Y0b]
  have hc:cut S.length T6=some S6:=by rw [hT6,← d6.len]; exact (d6.ok hS).cut
  refine ⟨m0,ms,sh,as,rows.take 6,S6,?_,⟨⟨hm,hl,hnd,hs,ha,?_,?_⟩,by rw [List.length_take]; omega⟩,d6⟩
  · refine Z9s (S1:=T6) (x := .d (Y0b m0 ms sh as (rows.take 6))) ?_ rfl hc
    rw [X0j]
    exact (Z3k p0).trans ((Z3k p1).trans ((Z3k p2).trans ((Z3k p3).trans ((Z3k p4).trans ((Z3k p5').trans p6)))))
  · rw [List.length_take]; omega
  · exact fun r hr=>hin r (List.mem_of_mem_take hr)
end Lt
namespace Lt
open Lw
open PySem PySem.Spec L2 Bv
open PyProof.Rows hiding St
variable [HasW]
def HAPT:D := .tup ((["give", "carry", "drop", "back", "right", "wrong"]:List Str).map D.str)
def X11 (w o t:Str) (k:Bool):D := .obj "Row" [("word", .str w),("old", .str o),("then", .str t),("take", .bl k)]
def okPR:PR→D→Bool
  | .ok d,e=>decide (d=e)
  | _,_=>false
theorem okPR_ok {p:PR} {d:D} (h:okPR p d=true):p = .ok d:=by
  cases p with
  | ok e=>rw [of_decide_eq_true h]
  | _=>cases h
def X39 (w:Str):Bool:=okPR (g_is_name [.str w]) (.bl true)
theorem Y4b:(NAMES.all X39)=true:=by kernel_rfl
def Y8y (x:Str):Bool:=decide (x.length ≤ 5) && (decide ((32:Nat) ∉ x.cps.toList) && (decide ((reprText x).length ≤ 50) && (PyData.strOk (reprText x) && PyData.strOk x)))
def Y5h:List Str:=HAPS++("any" : Str) :: NAMES++("same" : Str) :: NAMES++(["take", "keep", "to"]:List Str)
theorem Y74:(Y5h.all Y8y)=true:=by kernel_rfl
theorem Z3p {x:Str} (h:x ∈ Y5h):x.length ≤ 5∧(32:Nat) ∉ x.cps.toList∧(reprText x).length ≤ 50∧PyData.strOk (reprText x)=true∧PyData.strOk x=true:=by
  have h:=List.all_eq_true.mp Y74 x h
  unfold Y8y at h
  simp only [Bool.and_eq_true,decide_eq_true_eq] at h
  exact h
theorem Y60 (a b:Str):(a++b).length=a.length + b.length:=by
  show (a.cps++b.cps).size=_
  rw [Array.size_append]
  rfl
def wordsR (w o t:Str) (k:Bool):List Str:=if w = "give" then [w,o,if k then "take" else "keep", "to",t] else [w,o, "to",t]
theorem RowOk.in_ {w o t:Str} {k:Bool} (h:RowOk w o t k):w ∈ Y5h∧o ∈ Y5h∧t ∈ Y5h:=by
  obtain ⟨h1,h2,h3,_⟩:=h
  unfold Y5h
  simp only [List.mem_append]
  exact ⟨.inl (.inl (.inl h1)), .inl (.inl (.inr h2)), .inl (.inr h3)⟩
theorem Y67 {w o t:Str} {k:Bool} (h:RowOk w o t k):∀ x ∈ wordsR w o t k,x ∈ Y5h:=by
  obtain ⟨h1,h2,h3⟩:=h.in_
  have h4:("take" : Str) ∈ Y5h∧("keep" : Str) ∈ Y5h∧("to" : Str) ∈ Y5h:=by decide +kernel
  intro x hx
  unfold wordsR at hx
  split at hx
  · simp only [List.mem_cons,List.not_mem_nil,or_false] at hx
    rcases hx with rfl | rfl | rfl | rfl | rfl
    · exact h1
    · exact h2
    · cases k
      · exact h4.2.1
      · exact h4.1
    · exact h4.2.2
    · exact h3
  · simp only [List.mem_cons,List.not_mem_nil,or_false] at hx
    rcases hx with rfl | rfl | rfl | rfl
    · exact h1
    · exact h2
    · exact h4.2.2
    · exact h3
def zR (w o t:Str) (k:Bool):Str:=Str.join " " (wordsR w o t k)
theorem Y9r {S:Sto} {fs:List (Str × D)}:isX Z8c [("Row",true),("Tool",false)] S (.d (.obj "Row" fs))=some true:=by rfl
theorem sp1:(" " : Str).length=1:=by decide +kernel
theorem to1:("to" : Str).length=2∧("take" : Str).length=4∧("keep" : Str).length=4∧("give" : Str).length=4:=by decide +kernel
theorem X0f {w o t:Str} {k:Bool} (h:RowOk w o t k):Z4e [X11 w o t k] = .ok (.str (zR w o t k)):=by
  obtain ⟨h1,h2,h3⟩:=h.in_
  have a1:=(Z3p h1).1
  have a2:=(Z3p h2).1
  have a3:=(Z3p h3).1
  obtain ⟨t1,t2,t3,t4⟩:=to1
  have n1:(("old" : Str) == "word")=false∧(("then" : Str) == "word")=false∧(("take" : Str) == "word")=false∧(("then" : Str) == "old")=false∧(("take" : Str) == "old")=false∧(("take" : Str) == "then")=false:=by decide +kernel
  obtain ⟨n1,n2,n3,n4,n5,n6⟩:=n1
  have hz:∀ n:Nat,n < 1000→n ≤ sizeLine:=fun n h=>by rw [sizeLine_eq]; omega
  have z2:=hz 2 (by decide)
  have z3:=hz 3 (by decide)
  have z4:=hz 4 (by decide)
  have z5:=hz 5 (by decide)
  have zl:2 < sizeLine:=by have:=hz 3 (by decide); omega
  unfold Z4e Z6v Z87 X11
  by_cases c:w = "give"
  · subst c
    cases k
    · have hb:4 + (o.length + (4 + (2 + t.length))) + 5 ≤ 16777216:=by omega
      simp [ev0,Y4,Z0l,W5,V2,W0,Z0t,X8,Z0b,V4,U6,Z1s,Z0w,Z00,Z0c,V6,Y1,Q5,Z1,m_c,Z8,Z0,Z6,W8,U2,W9,V7,W2,Z2z,Y3,Y9,Z0s,Z26,W7,V8,X9,Z0i,Z3j,Z1r,Z4s,X5,V0,R.bind,R.so,RO.then,items,ixO,ixD,Z23,Z2o,op2,X.get,tb,Z03,Z02,Z1b,Z0v,slX,V3,Q4,X6,X7,Z39,Z3z,Z0y,Z3u,Z3g,Z3t,Z3h,Z0u,Z3i,Z4r,Z0r,ints?,Z33,Z4j,Z4h,ds?,gets,callP,X.isD,D.noL,D.noLs,D.noLf,U9,Z01,Z1a,Z1n,Z4m,Z4o,Z4n,Z4y,Z53,n1,n2,n3,n4,n5,n6,z2,z3,z4,z5,zl,Z0z,Z1e,Z1d,Bv.strs?,sp1,t1,t2,t3,t4,hb,atI,ixN,zR,wordsR,List.lookup]
    · have hb:4 + (o.length + (4 + (2 + t.length))) + 5 ≤ 16777216:=by omega
      simp [ev0,Y4,Z0l,W5,V2,W0,Z0t,X8,Z0b,V4,U6,Z1s,Z0w,Z00,Z0c,V6,Y1,Q5,Z1,m_c,Z8,Z0,Z6,W8,U2,W9,V7,W2,Z2z,Y3,Y9,Z0s,Z26,W7,V8,X9,Z0i,Z3j,Z1r,Z4s,X5,V0,R.bind,R.so,RO.then,items,ixO,ixD,Z23,Z2o,op2,X.get,tb,Z03,Z02,Z1b,Z0v,slX,V3,Q4,X6,X7,Z39,Z3z,Z0y,Z3u,Z3g,Z3t,Z3h,Z0u,Z3i,Z4r,Z0r,ints?,Z33,Z4j,Z4h,ds?,gets,callP,X.isD,D.noL,D.noLs,D.noLf,U9,Z01,Z1a,Z1n,Z4m,Z4o,Z4n,Z4y,Z53,n1,n2,n3,n4,n5,n6,z2,z3,z4,z5,zl,Z0z,Z1e,Z1d,Bv.strs?,sp1,t1,t2,t3,t4,hb,atI,ixN,zR,wordsR,List.lookup]
  · have hb:w.length + (o.length + (2 + t.length)) + 4 ≤ 16777216:=by omega
    simp [ev0,Y4,Z0l,W5,V2,W0,Z0t,X8,Z0b,V4,U6,Z1s,Z0w,Z00,Z0c,V6,Y1,Q5,Z1,m_c,Z8,Z0,Z6,W8,U2,W9,V7,W2,Z2z,Y3,Y9,Z0s,Z26,W7,V8,X9,Z0i,Z3j,Z1r,Z4s,X5,V0,R.bind,R.so,RO.then,items,ixO,ixD,Z23,Z2o,op2,X.get,tb,Z03,Z02,Z1b,Z0v,slX,V3,Q4,X6,X7,Z39,Z3z,Z0y,Z3u,Z3g,Z3t,Z3h,Z0u,Z3i,Z4r,Z0r,ints?,Z33,Z4j,Z4h,ds?,gets,callP,X.isD,D.noL,D.noLs,D.noLf,U9,Z01,Z1a,Z1n,Z4m,Z4o,Z4n,Z4y,Z53,n1,n2,n3,n4,n5,n6,z2,z3,z4,z5,zl,c,Z0z,Z1e,Z1d,Bv.strs?,sp1,t1,hb,zR,wordsR,List.lookup]
theorem Y8f {w o t:Str} {k:Bool} (h:RowOk w o t k):g__law_row_text [Y3u w o t k] = .ok (.str (zR w o t k)):=by
  obtain ⟨h1,h2,h3⟩:=h.in_
  have a1:=(Z3p h1).1
  have a2:=(Z3p h2).1
  have a3:=(Z3p h3).1
  obtain ⟨t1,t2,t3,t4⟩:=to1
  have hz:∀ n:Nat,n < 1000→n ≤ sizeLine:=fun n h=>by rw [sizeLine_eq]; omega
  have z0:=hz 0 (by decide)
  have z1:=hz 1 (by decide)
  have z2:=hz 2 (by decide)
  have z3:=hz 3 (by decide)
  have z5:=hz 5 (by decide)
  have z4:=hz 4 (by decide)
  have ad:∀ xs ys:List D,xs.length + ys.length ≤ sizeLine→Z2f (.lst xs) (.lst ys)=some (.lst (xs++ys)):=fun xs ys h=>if_pos h
  unfold g__law_row_text Z6v Z37 Y3u
  by_cases c:w = "give"
  · subst c
    cases k
    · have hb:4 + (o.length + (4 + (2 + t.length))) + 5 ≤ 16777216:=by omega
      simp [ev0,Y4,Z0l,W5,V2,W0,Z0t,X8,Z0b,V4,U6,Z1s,Z0w,Z00,Z0c,V6,Y1,Q5,Z1,m_c,Z8,Z0,Z6,W8,U2,W9,V7,W2,Z2z,Y3,Y9,Z0s,Z26,W7,V8,X9,Z0i,Z3j,Z1r,Z4s,X5,V0,R.bind,R.so,RO.then,items,ixO,ixD,Z23,Z2o,op2,X.get,tb,Z03,Z02,Z1b,Z0v,slX,V3,Q4,X6,X7,Z39,Z3z,Z0y,Z3u,Z3g,Z3t,Z3h,Z0u,Z3i,Z4r,Z0r,ints?,Z33,Z4j,Z4h,ds?,gets,callP,X.isD,D.noL,D.noLs,D.noLf,U9,Z01,Z1a,Z1n,Z4m,Z4o,Z4n,Z4y,Z53,z0,z1,z2,z3,z4,z5,ad,Z1e,Z1d,Bv.strs?,sp1,t1,t2,t3,t4,hb,atI,ixN,zR,wordsR]
    · have hb:4 + (o.length + (4 + (2 + t.length))) + 5 ≤ 16777216:=by omega
      simp [ev0,Y4,Z0l,W5,V2,W0,Z0t,X8,Z0b,V4,U6,Z1s,Z0w,Z00,Z0c,V6,Y1,Q5,Z1,m_c,Z8,Z0,Z6,W8,U2,W9,V7,W2,Z2z,Y3,Y9,Z0s,Z26,W7,V8,X9,Z0i,Z3j,Z1r,Z4s,X5,V0,R.bind,R.so,RO.then,items,ixO,ixD,Z23,Z2o,op2,X.get,tb,Z03,Z02,Z1b,Z0v,slX,V3,Q4,X6,X7,Z39,Z3z,Z0y,Z3u,Z3g,Z3t,Z3h,Z0u,Z3i,Z4r,Z0r,ints?,Z33,Z4j,Z4h,ds?,gets,callP,X.isD,D.noL,D.noLs,D.noLf,U9,Z01,Z1a,Z1n,Z4m,Z4o,Z4n,Z4y,Z53,z0,z1,z2,z3,z4,z5,ad,Z1e,Z1d,Bv.strs?,sp1,t1,t2,t3,t4,hb,atI,ixN,zR,wordsR]
  · have hb:w.length + (o.length + (2 + t.length)) + 4 ≤ 16777216:=by omega
    simp [ev0,Y4,Z0l,W5,V2,W0,Z0t,X8,Z0b,V4,U6,Z1s,Z0w,Z00,Z0c,V6,Y1,Q5,Z1,m_c,Z8,Z0,Z6,W8,U2,W9,V7,W2,Z2z,Y3,Y9,Z0s,Z26,W7,V8,X9,Z0i,Z3j,Z1r,Z4s,X5,V0,R.bind,R.so,RO.then,items,ixO,ixD,Z23,Z2o,op2,X.get,tb,Z03,Z02,Z1b,Z0v,slX,V3,Q4,X6,X7,Z39,Z3z,Z0y,Z3u,Z3g,Z3t,Z3h,Z0u,Z3i,Z4r,Z0r,ints?,Z33,Z4j,Z4h,ds?,gets,callP,X.isD,D.noL,D.noLs,D.noLf,U9,Z01,Z1a,Z1n,Z4m,Z4o,Z4n,Z4y,Z53,z0,z1,z2,z3,z4,z5,ad,c,Z1e,Z1d,Bv.strs?,sp1,t1,hb,atI,ixN,zR,wordsR]
end Lt
namespace Lt
open Lw
open PySem PySem.Spec L2 Bv
open PyProof.Rows hiding St
variable [HasW]
theorem Y2j:∀ (xs acc:List Str),(acc++xs).Nodup→xs.foldl Z2m acc=acc++xs
  | [],acc,_=>by simp
  | x :: r,acc,h=>by
    have hx:acc.contains x=false:=by
      rw [List.contains_eq_mem,decide_eq_false_iff_not]
      intro m
      exact (List.nodup_append.mp h).2.2 x m x (by simp) rfl
    have e:Z2m acc x=acc++[x]:=by
      unfold Z2m
      rw [hx]
      rfl
    rw [List.foldl_cons,e,Y2j r (acc++[x]) (by rw [List.append_assoc]; exact h),List.append_assoc]
    rfl
theorem sawn_nodup {xs:List Str} (h:xs.Nodup):Z4q xs=xs:=by
  unfold Z4q
  rw [Y2j xs [] (by simpa using h)]
  rfl
theorem Y3s (ss:List Str):Bv.strs? ((ss.map D.str).map X.d)=some ss:=by
  induction ss with
  | nil=>rfl
  | cons s r ih =>
    show (Bv.strs? ((r.map D.str).map X.d)).map (s :: ·)=_
    rw [ih]
    rfl
theorem Y7g {α:Type} (l:List α):bls? ((l.map fun _=>D.bl true).map X.d)=some (l.map fun _=>true):=by
  induction l with
  | nil=>rfl
  | cons s r ih =>
    show (bls? ((r.map fun _=>D.bl true).map X.d)).map (true :: ·)=_
    rw [ih]
    rfl
theorem Z8w {α:Type} (l:List α) (S:Sto):Z9x (fun l=>l.all id) [.d (.lst (l.map fun _=>D.bl true))] S = .ok (.d (.bl true)) S:=by
  have h:=Y7g l
  have e:(l.map fun _=>true).all id=true:=by simp
  show (if U9 S (.d (.lst (l.map fun _=>D.bl true))) then (match (some ((l.map fun _=>D.bl true).map X.d)).bind bls? with
    | some l=>R.ok (X.d (.bl (l.all id))) S
    | none => .bad) else .bad)=_
  rw [show U9 S (.d (.lst (l.map fun _=>D.bl true)))=true from rfl,if_pos rfl,Option.bind_some,h]
  show R.ok (X.d (.bl ((l.map fun _=>true).all id))) S=_
  rw [e]
theorem Y5k {α:Type} (l:List α) (S:Sto):Z9x (fun l=>l.any id) [.d (.lst (l.map fun _=>D.bl false))] S = .ok (.d (.bl false)) S:=by
  have h:bls? ((l.map fun _=>D.bl false).map X.d)=some (l.map fun _=>false):=by
    induction l with
    | nil=>rfl
    | cons s r ih =>
      show (bls? ((r.map fun _=>D.bl false).map X.d)).map (false :: ·)=_
      rw [ih]
      rfl
  have e:(l.map fun _=>false).any id=false:=by simp
  show (if U9 S (.d (.lst (l.map fun _=>D.bl false))) then (match (some ((l.map fun _=>D.bl false).map X.d)).bind bls? with
    | some l=>R.ok (X.d (.bl (l.any id))) S
    | none => .bad) else .bad)=_
  rw [show U9 S (.d (.lst (l.map fun _=>D.bl false)))=true from rfl,if_pos rfl,Option.bind_some,h]
  show R.ok (X.d (.bl ((l.map fun _=>false).any id))) S=_
  rw [e]
theorem Y6q (ds:List D):g_is_sequence [.lst ds] = .ok (.bl true):=by rfl
theorem Y2t {ss:List Str} (h:ss.Nodup) (hl:ss.length < 1000):g_are_unlike [.lst (ss.map D.str)] = .ok (.bl true):=by
  have hs:=Y3s ss
  have hw:=sawn_nodup h
  have hb:ss.length + 1 < scanBound:=by
    have:(1001:Nat) ≤ scanBound:=by decide
    omega
  unfold g_are_unlike Z6v Z3l
  have h1:Z81 [.d (.lst (ss.map D.str))] [] = .ok (.d (.int ss.length)) []:=by
    show (match (some ((ss.map D.str).map X.d)).bind Bv.strs? with
      | some xs=>if decide (xs.length + 1 < scanBound) then R.ok (X.d (.int (Z4q xs).length)) [] else .bad
      | none => .bad)=_
    rw [Option.bind_some,hs]
    show (if decide (ss.length + 1 < scanBound) then R.ok (X.d (.int (Z4q ss).length)) [] else .bad)=_
    rw [if_pos (decide_eq_true hb),hw]
  have h2:Z0u [.d (.lst (ss.map D.str))] [] = .ok (.d (.int ss.length)) []:=by simp [Z0u,Z3i,items]
  simp only [X8,Y1,Z2h,Z1,Z8,Z0,Z6,R.bind,R.so,ev0,List.map_cons,List.map_nil,List.length_cons,List.length_nil,List.singleton_append,List.getElem?_cons_zero,h1,h2,op2,Z9,Z6d,decide_true,Z3z]
theorem Y4z {ss:List Str} (h:ss.Nodup) (hl:ss.length < 1000) (hn:∀ x ∈ ss,g_is_name [.str x] = .ok (.bl true)):g_are_names [.lst (ss.map D.str)] = .ok (.bl true):=by
  have hu:=Y2t h hl
  have hq:=Y6q (ss.map D.str)
  have hz:ss.length ≤ sizeLine:=by rw [sizeLine_eq]; omega
  have hlc:Z2u (.nm 1) (Q8 (Z1 0)) (Z0h) (Z8 (X6 1 (X7 [] (callP g_is_name))) (Z0 (Z1 1) (Z6))) [1] [some (.d (.lst (ss.map D.str))),none] [] = .ok (.d (.lst (ss.map fun _ => .bl true))) []:=by
    refine Z8n (fun s => .d (.str s)) (fun _ => .bl true) (l:=ss) ?_ hz fun s hs=>⟨_,rfl,?_⟩
    · unfold Q8
      simp [ev0,Y4,Z0l,W5,V2,W0,Z0t,X8,Z0b,V4,U6,Z1s,Z0w,Z00,Z0c,V6,Y1,Q5,Z1,m_c,Z8,Z0,Z6,W8,U2,W9,V7,W2,Z2z,Y3,Y9,Z0s,Z26,W7,V8,X9,Z0i,Z3j,Z1r,Z4s,X5,V0,R.bind,R.so,RO.then,items,ixO,ixD,Z23,Z2o,op2,X.get,tb,Z03,Z02,Z1b,Z0v,slX,V3,Q4,X6,X7,Z39,Z3z,Z0y,Z3u,Z3g,Z3t,Z3h,Z0u,Z3i,Z4r,Z0r,ints?,Z33,Z4j,Z4h,ds?,gets,callP,X.isD,D.noL,D.noLs,D.noLf,U9,Z01,Z1a,Z1n,Z4m,Z4o,Z4n,Z4y,Z6y]
    · have:=hn s hs
      simp [ev0,Y4,Z0l,W5,V2,W0,Z0t,X8,Z0b,V4,U6,Z1s,Z0w,Z00,Z0c,V6,Y1,Q5,Z1,m_c,Z8,Z0,Z6,W8,U2,W9,V7,W2,Z2z,Y3,Y9,Z0s,Z26,W7,V8,X9,Z0i,Z3j,Z1r,Z4s,X5,V0,R.bind,R.so,RO.then,items,ixO,ixD,Z23,Z2o,op2,X.get,tb,Z03,Z02,Z1b,Z0v,slX,V3,Q4,X6,X7,Z39,Z3z,Z0y,Z3u,Z3g,Z3t,Z3h,Z0u,Z3i,Z4r,Z0r,ints?,Z33,Z4j,Z4h,ds?,gets,callP,X.isD,D.noL,D.noLs,D.noLf,U9,Z01,Z1a,Z1n,Z4m,Z4o,Z4n,Z4y,Z1v,this]
  have ha:=Z8w ss ([]:Sto)
  unfold g_are_names Z6v Z38
  simp [ev0,Y4,Z0l,W5,V2,W0,Z0t,X8,Z0b,V4,U6,Z1s,Z0w,Z00,Z0c,V6,Y1,Q5,Z1,m_c,Z8,Z0,Z6,W8,U2,W9,V7,W2,Z2z,Y3,Y9,Z0s,Z26,W7,V8,X9,Z0i,Z3j,Z1r,Z4s,X5,V0,R.bind,R.so,RO.then,items,ixO,ixD,Z23,Z2o,op2,Z9,tb,Z03,Z02,Z1b,Z0v,slX,V3,Q4,X6,X7,Z39,Z3z,Z0y,Z3u,Z3g,Z3t,Z3h,Z0u,Z3i,Z4r,Z0r,ints?,Z33,Z4j,Z4h,ds?,gets,callP,X.isD,D.noL,D.noLs,D.noLf,U9,Z01,Z1a,Z1n,Z4m,Z4o,Z4n,Z4y,hq,hu,hlc,ha]
end Lt
namespace Lt
open Lw
open PySem PySem.Spec L2 Bv
open PyProof.Rows hiding St
variable [HasW]
theorem Z6u (ss:List Str):pys (ss.map D.str)=some (ss.map PyData.str):=by
  induction ss with
  | nil=>rfl
  | cons s r ih =>
    show (match some (PyData.str s),pys (r.map D.str) with
      | some p,some l=>some (p :: l)
      | _,_=>none)=_
    rw [ih]
    rfl
theorem Z46 (ss:List Str):PyData.depthAll (ss.map PyData.str) ≤ 1:=by
  induction ss with
  | nil=>simp [PyData.depthAll]
  | cons s r ih =>
    simp only [List.map_cons,PyData.depthAll,PyData.depth]
    omega
theorem Z8x (ss:List Str) (s:Str):((ss.map PyData.str).any fun z=>PyData.eqv z (.str s))=decide (s ∈ ss):=by
  induction ss with
  | nil=>rfl
  | cons a r ih =>
    rw [List.map_cons,List.any_cons,ih,Z9f,Bool.eq_iff_iff]
    simp only [Bool.or_eq_true,decide_eq_true_eq,List.mem_cons]
    exact ⟨fun h=>h.imp Eq.symm id,fun h=>h.imp Eq.symm id⟩
theorem Y52 {s:Str} {ss:List Str}:inD (.str s) (.lst (ss.map D.str))=some (.bl (decide (s ∈ ss))):=by
  have e:(D.lst (ss.map D.str)).py=some (.list (ss.map PyData.str)):=by
    show (match pys (ss.map D.str) with
      | some l=>some (PyData.list l)
      | none=>none)=_
    rw [Z6u]
  have d1:dOk (.str s)=true:=by unfold dOk; simp [PyData.depth]
  have d2:dOk (.list (ss.map PyData.str))=true:=by
    unfold dOk
    have:=Z46 ss
    refine decide_eq_true ?_
    simp only [PyData.depth]
    omega
  have e0:(D.str s).py=some (.str s):=rfl
  unfold inD Bv.inB
  rw [e,e0]
  show Option.map D.bl (if dOk (.str s) && dOk (.list (ss.map PyData.str)) then some ((ss.map PyData.str).any fun z=>PyData.eqv z (.str s)) else none)=_
  rw [d1,d2,Z8x]
  rfl
theorem Y14 {s:Str} {ss:List Str}:inD (.str s) (.tup (ss.map D.str))=some (.bl (decide (s ∈ ss))):=by
  have e:(D.tup (ss.map D.str)).py=some (.tuple (ss.map PyData.str)):=by
    show (match pys (ss.map D.str) with
      | some l=>some (PyData.tuple l)
      | none=>none)=_
    rw [Z6u]
  have d1:dOk (.str s)=true:=by unfold dOk; simp [PyData.depth]
  have d2:dOk (.tuple (ss.map PyData.str))=true:=by
    unfold dOk
    have:=Z46 ss
    refine decide_eq_true ?_
    simp only [PyData.depth]
    omega
  have e0:(D.str s).py=some (.str s):=rfl
  unfold inD Bv.inB
  rw [e,e0]
  show Option.map D.bl (if dOk (.str s) && dOk (.tuple (ss.map PyData.str)) then some ((ss.map PyData.str).any fun z=>PyData.eqv z (.str s)) else none)=_
  rw [d1,d2,Z8x]
  rfl
theorem Y34 {α:Type} {t:Tg} {mt:MG Bool} {me:M} {lk:Lk} {e:Ev} {S:Sto} (hk:lk.ok S=true) (x:α→X) (f:α→D):∀ {l:List α},(∀ a ∈ l,∃ e1,t.asg S (x a) e=some e1∧mt e1 S = .ok true S∧me e1 S = .ok (.d (f a)) S)→lcL t lk mt me e (l.map x) S = .ok (l.map f) S
  | [],_=>by simp [lcL,hk]
  | a :: l,h=>by
    obtain ⟨e1,h1,h2,h3⟩:=h a (by simp)
    have ih:=Y34 (t:=t) (mt:=mt) (me:=me) (e:=e) (S:=S) hk x f (l:=l) fun b hb=>h b (List.mem_cons_of_mem _ hb)
    simp [lcL,hk,h1,h2,h3,R.ne,R.bind,ih]
theorem Z5p {α:Type} {t:Tg} {mi:MIt} {me:M} {vs:List Nat} {lk:Lk} {e:Ev} {S:Sto} (hk:lk.ok S=true) (x:α→X) (f:α→D) {l:List α} (hi:mi e S = .ok (l.map x,lk) S) (hl:l.length ≤ sizeLine) (h:∀ a ∈ l,∃ e1,t.asg S (x a) (Z1v e vs)=some e1∧me e1 S = .ok (.d (f a)) S) :
    Z2u t mi Z0h me vs e S = .ok (.d (.lst (l.map f))) S:=by
  have h1:=Y34 (t:=t) (mt:=Z0h) (me:=me) (e:=Z1v e vs) (S:=S) hk x f (l:=l) fun a ha=>by
    obtain ⟨e1,q1,q2⟩:=h a ha
    exact ⟨e1,q1,rfl,q2⟩
  unfold Z2u
  rw [hi]
  show (lcL t lk Z0h me (Z1v e vs) (l.map x) S).bind Z8l=_
  rw [h1]
  show Z8l (l.map f) S=_
  unfold Z8l
  rw [if_pos (by rw [List.length_map]; exact hl)]
theorem Y0j {l sh:List Str} (hn:l.Nodup) (h:sh.Sublist l) {sp:List Str} (hp:sp.Perm sh):l.filter (fun x=>decide (x ∈ sp))=sh:=by
  have e:∀ x,decide (x ∈ sp)=decide (x ∈ sh):=fun x=>decide_eq_decide.mpr hp.mem_iff
  simp only [e]
  clear hp e
  induction h with
  | slnil=>rfl
  | cons a s ih =>
    rename_i l1 l2
    have hn2:=List.nodup_cons.mp hn
    have:a ∉ l1:=fun m=>hn2.1 (s.subset m)
    rw [List.filter_cons,if_neg (by simpa using this)]
    exact ih hn2.2
  | cons_cons a s ih =>
    rename_i l1 l2
    have hn2:=List.nodup_cons.mp hn
    rw [List.filter_cons,if_pos (by simp)]
    congr 1
    rw [← ih hn2.2]
    rw [ih hn2.2]
    refine Eq.trans (List.filter_congr fun x hx=>?_) (ih hn2.2)
    have:x ≠ a:=fun e=>hn2.1 (e ▸ hx)
    simp [this]
end Lt
namespace Lt
open Lw
open PySem PySem.Spec L2 Bv
open PyProof.Rows hiding St
variable [HasW]
def objQ (r:RowQ):D:=X11 r.1 r.2.1 r.2.2.1 r.2.2.2
def tls (ml:List Str):D := .lst (ml.map D.str)
def Y2a (m0:Str) (ms sh as:List Str) (rows:List RowQ):D := .obj "Tool" [("marks", .tup ((m0 :: ms).map D.str)),("shown", .tup (sh.map D.str)),("asked", .tup (as.map D.str)),("rows", .tup (rows.map objQ)),("blank", .str m0)]
structure SQ (T:Sto) (x:X) (g:D) (ds:List D) (lk:Lk):Prop where
  form:g = .lst ds ∨ g = .tup ds
  get:x.get T=some g
  walk:Z6y T x=some (ds.map X.d,lk)
  ok:lk.ok T=true
  items:Bv.items T x=some (ds.map X.d)
  len:Z0u [x] T = .ok (.d (.int ds.length)) T
  tup:Y3t [x] T = .ok (.d (.tup ds)) T
  sl:∃ g',slX T x (some 1) none=some (.d g')∧(g' = .lst (ds.drop 1) ∨ g' = .tup (ds.drop 1))
  isq:isX (Y4o ["list", "tuple"]) [("Row",false),("Tool",false)] T x=some true
theorem Y2y {α:Type} (xs:List α):Z3s xs (some 1) none=xs.drop 1:=by
  unfold Z3s HT.sIx
  simp
  cases xs with
  | nil=>rfl
  | cons a l=>simp
theorem Y1r {T:Sto} {ds:List D}:SQ T (.d (.lst ds)) (.lst ds) ds .free:=by
  have h:=Z9y ds
  refine ⟨.inl rfl,rfl,rfl,rfl,rfl,by simp [Z0u,Z3i,Bv.items],?_,⟨_,?_, .inl rfl⟩,rfl⟩
  · unfold Y3t
    simp [-List.map_map,Bv.items,h]
  · show some (X.d (.lst (Z3s ds (some 1) none)))=_
    rw [Y2y]
theorem X4r {T:Sto} {ds:List D}:SQ T (.d (.tup ds)) (.tup ds) ds .free:=by
  have h:=Z9y ds
  refine ⟨.inr rfl,rfl,rfl,rfl,rfl,by simp [Z0u,Z3i,Bv.items],?_,⟨_,?_, .inr rfl⟩,rfl⟩
  · unfold Y3t
    simp [-List.map_map,Bv.items,h]
  · show some (X.d (.tup (Z3s ds (some 1) none)))=_
    rw [Y2y]
theorem sq_r {T:Sto} {k:Nat} {ds:List D} (h:T[k]?=some (.lst (ds.map X.d))):SQ T (.r k) (.lst ds) ds (.lst k (ds.map X.d)):=by
  have hd:=Z9y ds
  refine ⟨.inl rfl,?_,?_,?_,?_,?_,?_,⟨_,?_, .inl rfl⟩,?_⟩
  · show (match T[k]? with
      | some (.lst xs)=>(ds? xs).map D.lst
      | some (.fdc kvs)=>(ks? kvs).map D.dic
      | _=>none)=_
    rw [h]
    show (ds? (ds.map X.d)).map D.lst=_
    rw [hd]
    rfl
  · unfold Z6y
    simp only [h]
  · unfold Lk.ok
    simp only [h]
    exact decide_eq_true trivial
  · unfold Bv.items
    simp only [h]
  · unfold Z0u Z3i
    simp only [h,List.length_map]
  · unfold Y3t
    simp only [Bv.items,h,Option.bind_some,hd]
  · unfold slX
    simp only [h]
    have:=Z9y (ds.drop 1)
    rw [Y2y,← List.map_drop,this]
    rfl
  · unfold isX
    simp only [h]
    rfl
section
variable {T:Sto} {x:X} {g:D} {ds:List D} {lk:Lk} {ss:List Str}
theorem SQ.gets (h:SQ T x g ds lk):Bv.gets T [x]=some [g]:=by
  show (match x.get T,some ([]:List D) with
    | some d,some l=>some (d :: l)
    | _,_=>none)=_
  rw [h.get]
theorem Y13 {s:Str} (h:g = .lst (ss.map D.str) ∨ g = .tup (ss.map D.str)):inD (.str s) g=some (.bl (decide (s ∈ ss))):=by
  rcases h with rfl | rfl
  · exact Y52
  · exact Y14
theorem Y8r (h:g = .lst ds ∨ g = .tup ds):g_is_sequence [g] = .ok (.bl true):=by rcases h with rfl | rfl <;> rfl
theorem Y5c (hg:g = .lst (ss.map D.str) ∨ g = .tup (ss.map D.str)) (h:ss.Nodup) (hl:ss.length < 1000):g_are_unlike [g] = .ok (.bl true):=by
  rcases hg with rfl | rfl
  · exact Y2t h hl
  have hs:=Y3s ss
  have hw:=sawn_nodup h
  have hb:ss.length + 1 < scanBound:=by
    have:(1001:Nat) ≤ scanBound:=by decide
    omega
  have h1:Z81 [.d (.tup (ss.map D.str))] [] = .ok (.d (.int ss.length)) []:=by
    show (match (some ((ss.map D.str).map X.d)).bind Bv.strs? with
      | some xs=>if decide (xs.length + 1 < scanBound) then R.ok (X.d (.int (Z4q xs).length)) [] else .bad
      | none => .bad)=_
    rw [Option.bind_some,hs]
    show (if decide (ss.length + 1 < scanBound) then R.ok (X.d (.int (Z4q ss).length)) [] else .bad)=_
    rw [if_pos (decide_eq_true hb),hw]
  have h2:Z0u [.d (.tup (ss.map D.str))] [] = .ok (.d (.int ss.length)) []:=by simp [Z0u,Z3i,Bv.items]
  unfold g_are_unlike Z6v Z3l
  simp only [X8,Y1,Z2h,Z1,Z8,Z0,Z6,R.bind,R.so,ev0,List.map_cons,List.map_nil,List.length_cons,List.length_nil,List.singleton_append,List.getElem?_cons_zero,h1,h2,op2,Z9,Z6d,decide_true,Z3z]
theorem Y6f (hg:g = .lst (ss.map D.str) ∨ g = .tup (ss.map D.str)) (h:ss.Nodup) (hl:ss.length < 1000) (hn:∀ x ∈ ss,g_is_name [.str x] = .ok (.bl true)):g_are_names [g] = .ok (.bl true):=by
  have hu:=Y5c hg h hl
  have hq:=Y8r hg
  have hz:ss.length ≤ sizeLine:=by rw [sizeLine_eq]; omega
  have wk:Z6y [] (.d g)=some (ss.map (fun s=>X.d (.str s)), .free):=by
    rcases hg with rfl | rfl <;> (show some ((ss.map D.str).map X.d,Lk.free)=_; rw [List.map_map]; rfl)
  have hlc:Z2u (.nm 1) (Q8 (Z1 0)) (Z0h) (Z8 (X6 1 (X7 [] (callP g_is_name))) (Z0 (Z1 1) (Z6))) [1] [some (.d g),none] [] = .ok (.d (.lst (ss.map fun _ => .bl true))) []:=by
    refine Z8n (fun s => .d (.str s)) (fun _ => .bl true) (l:=ss) (Z2y (Z5 rfl) wk) hz fun s hs=>⟨_,rfl,X4 (Z7 (Z5 rfl) Y5) (U4 rfl (Z47 (hn s hs)))⟩
  have ha:=Z8w ss ([]:Sto)
  unfold g_are_names Z6v Z38
  simp [ev0,Y4,Z0l,W5,V2,W0,Z0t,X8,Z0b,V4,U6,Z1s,Z0w,Z00,Z0c,V6,Y1,Q5,Z1,m_c,Z8,Z0,Z6,W8,U2,W9,V7,W2,Z2z,Y3,Y9,Z0s,Z26,W7,V8,X9,Z0i,Z3j,Z1r,Z4s,X5,V0,R.bind,R.so,RO.then,items,ixO,ixD,Z23,Z2o,op2,Z9,tb,Z03,Z02,Z1b,Z0v,slX,V3,Q4,X6,X7,Z39,Z3z,Z0y,Z3u,Z3g,Z3t,Z3h,Z0u,Z3i,Z4r,Z0r,ints?,Z33,Z4j,Z4h,ds?,gets,callP,X.isD,D.noL,D.noLs,D.noLf,U9,Z01,Z1a,Z1n,Z4m,Z4o,Z4n,Z4y,hq,hu,hlc,ha]
theorem Y3b (h:SQ T x g (ss.map D.str) lk) (hn:ss.Nodup) (hl:ss.length < 1000) (hm:∀ x ∈ ss,x ∈ NAMES):callP g_are_names [x] T = .ok (.d (.bl true)) T :=
  Y9k h.gets (Y6f h.form hn hl fun y hy=>okPR_ok (List.all_eq_true.mp Y4b y (hm y hy))) rfl
theorem SQ.walks (h:SQ T x g (ss.map D.str) lk):Z6y T x=some (ss.map (fun s=>X.d (.str s)),lk):=by
  rw [h.walk,List.map_map]
  rfl
theorem Y3x {α:Type} (l:List α):Z9x (fun l=>l.all id) [.d (.lst (l.map fun _=>D.bl true))] T = .ok (.d (.bl true)) T:=Z8w l T
theorem Y7s {α:Type} {t:Tg} {mi:MIt} {mt:MG Bool} {me:M} {vs:List Nat} {e:Ev} {S:Sto} (hk:lk.ok S=true) (x:α→X) (f:α→D) (c:α→Bool) {l:List α} (hi:mi e S = .ok (l.map x,lk) S) (hl:l.length ≤ sizeLine) (h:∀ a ∈ l,∃ e1,t.asg S (x a) (Z1v e vs)=some e1∧mt e1 S = .ok (c a) S∧(c a=true→me e1 S = .ok (.d (f a)) S)) :
    Z2u t mi mt me vs e S = .ok (.d (.lst ((l.filter c).map f))) S:=by
  have go:∀ {l:List α},(∀ a ∈ l,∃ e1,t.asg S (x a) (Z1v e vs)=some e1∧mt e1 S = .ok (c a) S∧(c a=true→me e1 S = .ok (.d (f a)) S))→lcL t lk mt me (Z1v e vs) (l.map x) S = .ok ((l.filter c).map f) S:=fun {l}=>by
    induction l with
    | nil=>intro _; simp [lcL,hk]
    | cons a l ih =>
      intro h
      obtain ⟨e1,h1,h2,h3⟩:=h a (by simp)
      have ih:=ih fun b hb=>h b (List.mem_cons_of_mem _ hb)
      cases hc:c a with
      | false=>simp [lcL,hk,h1,h2,hc,R.ne,R.bind,ih]
      | true=>simp [lcL,hk,h1,h2,hc,h3 hc,R.ne,R.bind,ih]
  unfold Z2u
  rw [hi]
  show (lcL t lk mt me (Z1v e vs) (l.map x) S).bind Z8l=_
  rw [go h]
  show Z8l ((l.filter c).map f) S=_
  unfold Z8l
  have:=List.length_filter_le c l
  rw [if_pos (by rw [List.length_map]; omega)]
end
end Lt
namespace Lt
open Lw
open PySem PySem.Spec L2 Bv
open PyProof.Rows hiding St
variable [HasW]
def X4b:MG Bool:=(V8 (X9 (X5 (Z8 (X6 1 (X7 [] (callP g_are_names))) (Z0 (Z1 1) (Z6))))) (V6 (Y1 eqD (Z8 Z0u (Z0 (Z1 1) (Z6))) (m_c (.int 0)))))
def X4c:MS:=(Z0g "InvalidTool" "word" (Z0 (m_c (.str "marks")) (Z6)))
def j_0:MS:=(Z0l X4b X4c W5)
def X4d:MG Bool:=(V8 (X9 (X5 (Z8 (X6 1 (X7 [] (callP g_are_names))) (Z0 (Z1 2) (Z6))))) (X9 (X5 (Z8 (Z9x fun l=>l.all id) (Z0 (Z2u (.nm 6) (Q8 (Z1 2)) (Z0h) (Y1 inD (Z1 6) (Y3 (Z1 1) (Y9 (m_c (.int 1))) (Z0s))) [6]) (Z6))))))
def X4e:MS:=(Z0g "InvalidTool" "word" (Z0 (m_c (.str "shown")) (Z6)))
def j_1:MS:=(Z0l X4d X4e W5)
def X4f:MG Bool:=(V8 (X9 (X5 (Z8 (X6 1 (X7 [] (callP g_are_names))) (Z0 (Z1 3) (Z6))))) (X9 (X5 (Z8 (Z9x fun l=>l.all id) (Z0 (Z2u (.nm 6) (Q8 (Z1 3)) (Z0h) (Y1 inD (Z1 6) (Z1 1)) [6]) (Z6))))))
def X4g:MS:=(Z0g "InvalidTool" "word" (Z0 (m_c (.str "asked")) (Z6)))
def j_2:MS:=(Z0l X4f X4g W5)
def X4h:MG Bool:=(V8 (X9 (X5 (Z8 (X6 1 (X7 [] (callP g_is_sequence))) (Z0 (Z1 4) (Z6))))) (X9 (X5 (Z8 (Z9x fun l=>l.all id) (Z0 (Z2u (.nm 5) (Q8 (Z1 4)) (Z0h) (Z7f Z8c [("Row" ,true),("Tool" ,false)] (Z1 5)) [5]) (Z6))))))
def X4i:MS:=(Z0g "InvalidTool" "word" (Z0 (m_c (.str "rows")) (Z6)))
def j_3:MS:=(Z0l X4h X4i W5)
def X4j:MG Bool:=(X9 (X5 (Z8 (Z9x fun l=>l.all id) (Z0 (Z2u (.nm 5) (Q8 (Z1 4)) (Z0h) (Z0i (Y1 inD (W2 ["Row"] "old" (Z1 5)) (U2 (Z0 (m_c (.str "any")) (W8 (Z1 1) (Z6))))) (Y1 inD (W2 ["Row"] "then" (Z1 5)) (U2 (Z0 (m_c (.str "same")) (W8 (Z1 1) (Z6)))))) [5]) (Z6)))))
def X4k:MS:=(Z0g "InvalidTool" "word" (Z0 (m_c (.str "mark")) (Z6)))
def j_4:MS:=(Z0l X4j X4k W5)
def X4l:MG Bool:=(X5 (Z8 (Z9x fun l=>l.any id) (Z0 (Z2u (.nm 5) (Q8 (Z1 4)) (Z0h) (Z0i (Y1 neD (W2 ["Row"] "word" (Z1 5)) (m_c (.str "give"))) (Y1 eqD (W2 ["Row"] "old" (Z1 5)) (Q5 (Z1 1) (m_c (.int 0))))) [5]) (Z6))))
def X4m:MS:=(Z0g "InvalidTool" "word" (Z0 (m_c (.str "blank")) (Z6)))
def j_5:MS:=(Z0l X4l X4m W5)
def j_6:MS:=(Z0c ["Tool"] "marks" (Z1 0) (Z8 Y3t (Z0 (Z1 1) (Z6))))
def j_7:MS:=(Z0c ["Tool"] "shown" (Z1 0) (Z8 Y3t (Z0 (Z2u (.nm 6) (Q8 (Z1 1)) (V6 (Y1 inD (Z1 6) (Z1 2))) (Z1 6) [6]) (Z6))))
def j_8:MS:=(Z0c ["Tool"] "asked" (Z1 0) (Z8 Y3t (Z0 (Z2u (.nm 6) (Q8 (Z1 1)) (V6 (Y1 inD (Z1 6) (Z1 3))) (Z1 6) [6]) (Z6))))
def j_9:MS:=(Z0c ["Tool"] "rows" (Z1 0) (Z8 Y3t (Z0 (Z1 4) (Z6))))
def X3y:MS:=(Z0c ["Tool"] "blank" (Z1 0) (Q5 (Z1 1) (m_c (.int 0))))
def j:MS:=(Y4 j_0 (Y4 j_1 (Y4 j_2 (Y4 j_3 (Y4 j_4 (Y4 j_5 (Y4 j_6 (Y4 j_7 (Y4 j_8 (Y4 j_9 X3y))))))))))
theorem X3z:Z2s=j:=by kernel_rfl
def evJ (n:Nat) (x1 x2 x3 x4:X):Ev:=[some (.r n),some x1,some x2,some x3,some x4,none,none]
section
variable {n:Nat} {ml sp ap ms sh as:List Str} {m0:Str} {x1 x2 x3 x4:X} {g1 g2 g3 g4:D} {k1 k2 k3 k4:Lk} {rows:List RowQ} {T S:Sto} {fs:List (Str × X)}
theorem SQ.lens {x:X} {g:D} {lk:Lk} {ss:List Str} (h:SQ T x g (ss.map D.str) lk):Z0u [x] T = .ok (.d (.int ss.length)) T:=by
  have:=h.len
  rwa [List.length_map] at this
theorem X26 {i j:Int} (h:i ≠ j):eqD (.int i) (.int j)=some (.bl false):=by rw [Z6d,decide_eq_false h]
theorem X1x {a c:Str} (h:a=c):neD (.str a) (.str c)=some (.bl false):=by rw [Z74,decide_eq_true h]; rfl
theorem X1y {a c:Str} (h:a ≠ c):neD (.str a) (.str c)=some (.bl true):=by rw [Z74,decide_eq_false h]; rfl
theorem X27 {a c:Str} (h:a ≠ c):eqD (.str a) (.str c)=some (.bl false):=by rw [Z53,decide_eq_false h]
theorem hz4 {n:Nat} (h:n < 2000):n ≤ sizeLine:=by rw [sizeLine_eq]; omega
theorem Y6v (h:SQ T x1 g1 (ml.map D.str) k1) (hn:callP g_are_names [x1] T = .ok (.d (.bl true)) T) (hl:ml.length ≠ 0):j_0 (evJ n x1 x2 x3 x4) T = .go (.nx (evJ n x1 x2 x3 x4)) T:=by
  have e:=X26 (i:=(ml.length:Int)) (j:=0) (by omega)
  exact (Z2p (Z1x (Z1p (V5 (X4 (Z7 (Z5 rfl) Y5) (U4 rfl (hn))) (rfl))) (W4 (Y6 (X4 (Z7 (Z5 rfl) Y5) (h.lens)) W1 (Z9) (Z9) (e)))) Z28)
theorem Y6w (h1:SQ T x1 g1 (ml.map D.str) k1) (h:SQ T x2 g2 (sp.map D.str) k2) (hn:callP g_are_names [x2] T = .ok (.d (.bl true)) T) (hz:sp.length ≤ sizeLine) (hc:ml.drop 1=ms) (hin:∀ s ∈ sp,s ∈ ms):j_1 (evJ n x1 x2 x3 x4) T = .go (.nx (evJ n x1 x2 x3 x4)) T:=by
  obtain ⟨g',sl,hg'⟩:=h1.sl
  rw [← List.map_drop,hc] at hg'
  have hlc:Z2u (.nm 6) (Q8 (Z1 2)) (Z0h) (Y1 inD (Z1 6) (Y3 (Z1 1) (Y9 (m_c (.int 1))) (Z0s))) [6] (evJ n x1 x2 x3 x4) T = .ok (.d (.lst (sp.map fun _ => .bl true))) T :=
    Z5p h.ok (fun s => .d (.str s)) (fun _ => .bl true) (l:=sp) (Z2y (Z5 rfl) h.walks) hz fun s hs=>⟨_,rfl,Y6 (Z5 rfl) (Z0p (Z5 rfl) (Z1c W1) Z4x sl) Z9 Z9 (by rw [Y13 hg',decide_eq_true (hin s hs)])⟩
  exact (Z2p (Z1x (Z1p (V5 (X4 (Z7 (Z5 rfl) Y5) (U4 rfl (hn))) (rfl))) (Z1p (V5 (X4 (Z7 (hlc) Y5) (Y3x sp)) (rfl)))) Z28)
theorem Y6x (h1:SQ T x1 g1 (ml.map D.str) k1) (h:SQ T x3 g3 (ap.map D.str) k3) (hn:callP g_are_names [x3] T = .ok (.d (.bl true)) T) (hz:ap.length ≤ sizeLine) (hin:∀ s ∈ ap,s ∈ ml):j_2 (evJ n x1 x2 x3 x4) T = .go (.nx (evJ n x1 x2 x3 x4)) T:=by
  have hlc:Z2u (.nm 6) (Q8 (Z1 3)) (Z0h) (Y1 inD (Z1 6) (Z1 1)) [6] (evJ n x1 x2 x3 x4) T = .ok (.d (.lst (ap.map fun _ => .bl true))) T :=
    Z5p h.ok (fun s => .d (.str s)) (fun _ => .bl true) (l:=ap) (Z2y (Z5 rfl) h.walks) hz fun s hs=>⟨_,rfl,Y6 (Z5 rfl) (Z5 rfl) Z9 h1.get (by rw [Y13 h1.form,decide_eq_true (hin s hs)])⟩
  exact (Z2p (Z1x (Z1p (V5 (X4 (Z7 (Z5 rfl) Y5) (U4 rfl (hn))) (rfl))) (Z1p (V5 (X4 (Z7 (hlc) Y5) (Y3x ap)) (rfl)))) Z28)
theorem SQ.walkq {x:X} {g:D} {lk:Lk} (h:SQ T x g (rows.map objQ) lk):Z6y T x=some (rows.map (fun r=>X.d (objQ r)),lk):=by
  rw [h.walk,List.map_map]
  rfl
theorem Y6y (h:SQ T x4 g4 (rows.map objQ) k4) (hz:rows.length ≤ sizeLine):j_3 (evJ n x1 x2 x3 x4) T = .go (.nx (evJ n x1 x2 x3 x4)) T:=by
  have hlc:Z2u (.nm 5) (Q8 (Z1 4)) (Z0h) (Z7f Z8c [("Row",true),("Tool",false)] (Z1 5)) [5] (evJ n x1 x2 x3 x4) T = .ok (.d (.lst (rows.map fun _ => .bl true))) T :=
    Z5p h.ok (fun r => .d (objQ r)) (fun _ => .bl true) (l:=rows) (Z2y (Z5 rfl) h.walkq) hz fun s hs=>⟨_,rfl,Y32 (Z5 rfl) Y9r⟩
  have hn:callP g_is_sequence [x4] T = .ok (.d (.bl true)) T:=Y9k h.gets (Y8r h.form) rfl
  exact (Z2p (Z1x (Z1p (V5 (X4 (Z7 (Z5 rfl) Y5) (U4 rfl (hn))) (rfl))) (Z1p (V5 (X4 (Z7 (hlc) Y5) (Y3x rows)) (rfl)))) Z28)
theorem Y0x {r:RowQ}:Z0v ["Row"] "word" T (.d (objQ r))=some (.d (.str r.1)):=by rfl
theorem Y1s {r:RowQ}:Z0v ["Row"] "old" T (.d (objQ r))=some (.d (.str r.2.1)):=by rfl
theorem Y5l {r:RowQ}:Z0v ["Row"] "then" T (.d (objQ r))=some (.d (.str r.2.2.1)):=by rfl
theorem Y21 {w:Str} {ss:List Str}:ds? (X.d (.str w) :: ((ss.map D.str).map X.d++[]))=some ((w :: ss).map D.str):=by
  rw [List.append_nil]
  exact Y7l ((w :: ss).map D.str)
theorem Y6z (h1:SQ T x1 g1 (ml.map D.str) k1) (h:SQ T x4 g4 (rows.map objQ) k4) (hz:rows.length ≤ sizeLine) (hm:ml.length + 1 ≤ sizeLine) (q1:∀ r ∈ rows,r.2.1 ∈ ("any" : Str) :: ml) (q2:∀ r ∈ rows,r.2.2.1 ∈ ("same" : Str) :: ml):j_4 (evJ n x1 x2 x3 x4) T = .go (.nx (evJ n x1 x2 x3 x4)) T:=by
  have hlc:Z2u (.nm 5) (Q8 (Z1 4)) (Z0h) (Z0i (Y1 inD (W2 ["Row"] "old" (Z1 5)) (U2 (Z0 (m_c (.str "any")) (W8 (Z1 1) (Z6))))) (Y1 inD (W2 ["Row"] "then" (Z1 5)) (U2 (Z0 (m_c (.str "same")) (W8 (Z1 1) (Z6)))))) [5] (evJ n x1 x2 x3 x4) T = .ok (.d (.lst (rows.map fun _ => .bl true))) T:=by
    refine Z5p h.ok (fun r => .d (objQ r)) (fun _ => .bl true) (l:=rows) (Z2y (Z5 rfl) h.walkq) hz fun r hr=>⟨_,rfl,?_⟩
    have b1:inD (.str r.2.1) (.tup ((("any" : Str) :: ml).map D.str))=some (.bl true):=by rw [Y14,decide_eq_true (q1 r hr)]
    have b2:inD (.str r.2.2.1) (.tup ((("same" : Str) :: ml).map D.str))=some (.bl true):=by rw [Y14,decide_eq_true (q2 r hr)]
    exact Z9g (Y6 (Z4b (Z5 rfl) Y1s) (Z6f (Z7 W1 (Z9h (Z5 rfl) h1.items Y5)) Y21 (by rw [List.length_map]; exact hm)) Z9 Z9 b1) rfl (Y6 (Z4b (Z5 rfl) Y5l) (Z6f (Z7 W1 (Z9h (Z5 rfl) h1.items Y5)) Y21 (by rw [List.length_map]; exact hm)) Z9 Z9 b2)
  exact (Z2p (Z1p (V5 (X4 (Z7 (hlc) Y5) (Y3x rows)) (rfl))) Z28)
theorem ix0 (h1:SQ T x1 g1 ((m0 :: ms).map D.str) k1):ixO T x1 0=some (.d (.str m0)):=by
  unfold ixO
  rw [h1.items]
  simp [atI,ixN]
theorem X0e (h1:SQ T x1 g1 ((m0 :: ms).map D.str) k1) (h:SQ T x4 g4 (rows.map objQ) k4) (hz:rows.length ≤ sizeLine) (q:∀ r ∈ rows,r.1 ≠ "give" → r.2.1 ≠ m0):j_5 (evJ n x1 x2 x3 x4) T = .go (.nx (evJ n x1 x2 x3 x4)) T:=by
  have hlc:Z2u (.nm 5) (Q8 (Z1 4)) (Z0h) (Z0i (Y1 neD (W2 ["Row"] "word" (Z1 5)) (m_c (.str "give"))) (Y1 eqD (W2 ["Row"] "old" (Z1 5)) (Q5 (Z1 1) (m_c (.int 0))))) [5] (evJ n x1 x2 x3 x4) T = .ok (.d (.lst (rows.map fun _ => .bl false))) T:=by
    refine Z5p h.ok (fun r => .d (objQ r)) (fun _ => .bl false) (l:=rows) (Z2y (Z5 rfl) h.walkq) hz fun r hr=>⟨_,rfl,?_⟩
    by_cases g:r.1 = "give"
    · exact Z8y (Y6 (Z4b (Z5 rfl) Y0x) W1 Z9 Z9 (X1x g)) rfl
    · exact Z9g (Y6 (Z4b (Z5 rfl) Y0x) W1 Z9 Z9 (X1y g)) rfl (Y6 (Z4b (Z5 rfl) Y1s) (Z0n (Z5 rfl) W1 (ix0 h1)) Z9 Z9 (X27 (q r hr g)))
  have ha:=Y5k rows T
  exact (Z2p (V5 (X4 (Z7 (hlc) Y5) (ha)) (rfl)) Z28)
theorem fld_ok {f:Str} {y:X} (h:fs.length < 1000):Z3g ["Tool"] f (S++[.ins "Tool" fs]) (.r S.length) y=some (S++[.ins "Tool" (Z3t f y fs)]):=by
  have c:(["Tool"]:List Str).contains ("Tool" : Str)=true:=by rfl
  have g:(S++[O.ins "Tool" fs])[S.length]?=some (.ins "Tool" fs):=by simp
  unfold Z3g
  simp only [g]
  show (if (["Tool"]:List Str).contains ("Tool" : Str) && decide (fs.length < 1000) then some ((S++[O.ins "Tool" fs]).set S.length (.ins "Tool" (Z3t f y fs))) else none)=_
  rw [c,decide_eq_true h]
  simp
theorem Y64 {T:Sto}:Y3t [.d (.lst (ml.map D.str))] T = .ok (.d (.tup (ml.map D.str))) T:=(Y1r (T:=T) (ds:=ml.map D.str)).tup
theorem X3x {i:Nat} {x:X} {g:D} {lk:Lk} {l:List Str} {e:Ev} (hz:ml.length ≤ sizeLine) (h1:SQ T x1 g1 (ml.map D.str) k1) (h:SQ T x g (l.map D.str) lk) (e1:e[1]?=some (some x1)) (ei:e[i]?=some (some x)) (h7:e.length=7) (hne:i ≠ 6):Z2u (.nm 6) (Q8 (Z1 1)) (V6 (Y1 inD (Z1 6) (Z1 i))) (Z1 6) [6] e T = .ok (.d (.lst ((ml.filter fun s=>decide (s ∈ l)).map D.str))) T:=by
  refine Y7s h1.ok (fun s => .d (.str s)) D.str (fun s=>decide (s ∈ l)) (l:=ml) (Z2y (Z5 e1) h1.walks) hz fun s hs=>⟨_,rfl,?_,fun _=>?_⟩
  all_goals have g6:((Z1v e [6]).set 6 (some (X.d (.str s))))[6]?=some (some (X.d (.str s))):=List.getElem?_set_self (by rw [Z3r]; omega)
  · have gi:((Z1v e [6]).set 6 (some (X.d (.str s))))[i]?=some (some x):=by
      rw [List.getElem?_set_ne (Ne.symm hne)]
      show (e.set 6 none)[i]?=_
      rw [List.getElem?_set_ne (Ne.symm hne)]
      exact ei
    exact W4 (Y6 (Z5 g6) (Z5 gi) Z9 h.get (Y13 h.form))
  · exact Z5 g6
theorem Y9a:("any" : Str) ∉ NAMES:=by decide +kernel
def Y7o (m0:Str) (ms sh as:List Str) (rows:List RowQ):List (Str × X):=[("marks", .d (.tup ((m0 :: ms).map D.str))),("shown", .d (.tup (sh.map D.str))),("asked", .d (.tup (as.map D.str))),("rows", .d (.tup (rows.map objQ))),("blank", .d (.str m0))]
theorem SQ.app {x:X} {g:D} {ds:List D} {lk:Lk} {o:O} (h:SQ S x g ds lk):∃ lk,SQ (S++[o]) x g ds lk:=by
  cases x with
  | d v =>
    have e:v=g:=Option.some.inj h.get
    subst e
    rcases h.form with rfl | rfl
    · exact ⟨_,Y1r⟩
    · exact ⟨_,X4r⟩
  | r k =>
    have it:=h.items
    have gt:=h.get
    unfold Bv.items at it
    cases q:S[k]? with
    | none=>simp only [q] at it; cases it
    | some u =>
      simp only [q] at it
      cases u with
      | lst xs =>
        have e:xs=ds.map X.d:=Option.some.inj it
        subst e
        have hk:k < S.length:=(List.getElem?_eq_some_iff.mp q).1
        have:=sq_r (T:=S++[o]) (k:=k) (ds:=ds) (by rw [List.getElem?_append_left hk,q])
        have gg:X.get S (.r k)=some (.lst ds):=(sq_r q).get
        rw [gt] at gg
        cases gg
        exact ⟨_,this⟩
      | _=>cases it
theorem Y5a (hS:OkS S) (h:ToolOk m0 ms sh as rows) (hp:sp.Perm sh) (hq:ap.Perm as) (h1:SQ S x1 g1 ((m0 :: ms).map D.str) k1) (h2:SQ S x2 g2 (sp.map D.str) k2) (h3:SQ S x3 g3 (ap.map D.str) k3) (h4:SQ S x4 g4 (rows.map objQ) k4):made "Tool" mkF Z13 [x1,x2,x3,x4] S = .ok (.d (Y2a m0 ms sh as rows)) S:=by
  have lm:=h.few
  have lr:=h.len
  have ls:sh.length ≤ ms.length:=h.sh.length_le
  have la:as.length ≤ ms.length + 1:=h.as.length_le
  have lp:=hp.length_eq
  have lq:=hq.length_eq
  have zm:(m0 :: ms).length ≤ sizeLine:=hz4 (by simp; omega)
  have zr:rows.length ≤ sizeLine:=hz4 (by omega)
  have nms:ms.Nodup:=(List.nodup_cons.mp h.nd).2
  have f1:=Y0j h.nd (h.sh.cons m0) hp
  have f2:=Y0j h.nd h.as hq
  have A:∀ fs,(∃ k,SQ (S++[.ins "Tool" fs]) x1 g1 ((m0 :: ms).map D.str) k)∧(∃ k,SQ (S++[.ins "Tool" fs]) x2 g2 (sp.map D.str) k)∧(∃ k,SQ (S++[.ins "Tool" fs]) x3 g3 (ap.map D.str) k)∧∃ k,SQ (S++[.ins "Tool" fs]) x4 g4 (rows.map objQ) k:=fun fs=>⟨h1.app,h2.app,h3.app,h4.app⟩
  obtain ⟨⟨_,a1⟩,⟨_,a2⟩,⟨_,a3⟩,⟨_,a4⟩⟩:=A []
  have n1:=Y3b a1 h.nd (by simp; omega) h.names
  have n2:=Y3b a2 (hp.nodup_iff.mpr (nms.sublist h.sh)) (by omega) fun y hy=>h.names y (List.mem_cons_of_mem _ (h.sh.subset (hp.mem_iff.mp hy)))
  have n3:=Y3b a3 (hq.nodup_iff.mpr (h.nd.sublist h.as)) (by omega) fun y hy=>h.names y (h.as.subset (hq.mem_iff.mp hy))
  have p0:=Y6v (n:=S.length) (x2:=x2) (x3:=x3) (x4:=x4) a1 n1 (by simp)
  have p1:=Y6w (n:=S.length) (x3:=x3) (x4:=x4) a1 a2 n2 (hz4 (by omega)) (show (m0 :: ms).drop 1=ms from rfl) fun s hs=>h.sh.subset (hp.mem_iff.mp hs)
  have p2:=Y6x (n:=S.length) (x2:=x2) (x4:=x4) a1 a3 n3 (hz4 (by omega)) fun s hs=>h.as.subset (hq.mem_iff.mp hs)
  have p3:=Y6y (n:=S.length) (x1:=x1) (x2:=x2) (x3:=x3) a4 zr
  have p4:=Y6z (n:=S.length) (x2:=x2) (x3:=x3) a1 a4 zr (hz4 (by simp; omega)) (fun r hr=>(h.rows r hr).2.1) (fun r hr=>(h.rows r hr).2.2.1)
  have p5:=X0e (n:=S.length) (x2:=x2) (x3:=x3) a1 a4 zr fun r hr g e=>by
    have:=((h.rows r hr).2.2.2 g).2
    rw [e] at this
    rcases List.mem_cons.mp this with e | m
    · exact Y9a (e ▸ h.names m0 (by simp))
    · exact (List.nodup_cons.mp h.nd).1 m
  have p6:j_6 (evJ S.length x1 x2 x3 x4) (S++[.ins "Tool" []]) = .go (.nx (evJ S.length x1 x2 x3 x4)) (S++[.ins "Tool" [("marks", .d (.tup ((m0 :: ms).map D.str)))]]):=(Z7n (X4 (Z7 (Z5 rfl) Y5) (a1.tup)) (Z5 rfl) (fld_ok (by decide)))
  obtain ⟨⟨_,b1⟩,⟨_,b2⟩,_,_⟩:=A [("marks", .d (.tup ((m0 :: ms).map D.str)))]
  have fl7:=X3x (i:=2) (e:=evJ S.length x1 x2 x3 x4) zm b1 b2 rfl rfl rfl (by decide)
  rw [f1] at fl7
  have p7:j_7 (evJ S.length x1 x2 x3 x4) (S++[.ins "Tool" [("marks", .d (.tup ((m0 :: ms).map D.str)))]]) = .go (.nx (evJ S.length x1 x2 x3 x4)) (S++[.ins "Tool" [("marks", .d (.tup ((m0 :: ms).map D.str))),("shown", .d (.tup (sh.map D.str)))]]):=(Z7n (X4 (Z7 (fl7) Y5) (Y64)) (Z5 rfl) (fld_ok (by simp)))
  obtain ⟨⟨_,c1⟩,_,⟨_,c3⟩,_⟩:=A [("marks", .d (.tup ((m0 :: ms).map D.str))),("shown", .d (.tup (sh.map D.str)))]
  have fl8:=X3x (i:=3) (e:=evJ S.length x1 x2 x3 x4) zm c1 c3 rfl rfl rfl (by decide)
  rw [f2] at fl8
  have p8:j_8 (evJ S.length x1 x2 x3 x4) (S++[.ins "Tool" [("marks", .d (.tup ((m0 :: ms).map D.str))),("shown", .d (.tup (sh.map D.str)))]]) = .go (.nx (evJ S.length x1 x2 x3 x4)) (S++[.ins "Tool" [("marks", .d (.tup ((m0 :: ms).map D.str))),("shown", .d (.tup (sh.map D.str))),("asked", .d (.tup (as.map D.str)))]]):=(Z7n (X4 (Z7 (fl8) Y5) (Y64)) (Z5 rfl) (fld_ok (by simp)))
  obtain ⟨_,_,_,⟨_,d4⟩⟩:=A [("marks", .d (.tup ((m0 :: ms).map D.str))),("shown", .d (.tup (sh.map D.str))),("asked", .d (.tup (as.map D.str)))]
  have p9:j_9 (evJ S.length x1 x2 x3 x4) (S++[.ins "Tool" [("marks", .d (.tup ((m0 :: ms).map D.str))),("shown", .d (.tup (sh.map D.str))),("asked", .d (.tup (as.map D.str)))]]) = .go (.nx (evJ S.length x1 x2 x3 x4)) (S++[.ins "Tool" [("marks", .d (.tup ((m0 :: ms).map D.str))),("shown", .d (.tup (sh.map D.str))),("asked", .d (.tup (as.map D.str))),("rows", .d (.tup (rows.map objQ)))]]):=(Z7n (X4 (Z7 (Z5 rfl) Y5) (d4.tup)) (Z5 rfl) (fld_ok (by simp)))
  obtain ⟨⟨_,e1⟩,_,_,_⟩:=A [("marks", .d (.tup ((m0 :: ms).map D.str))),("shown", .d (.tup (sh.map D.str))),("asked", .d (.tup (as.map D.str))),("rows", .d (.tup (rows.map objQ)))]
  have p10:X3y (evJ S.length x1 x2 x3 x4) (S++[.ins "Tool" [("marks", .d (.tup ((m0 :: ms).map D.str))),("shown", .d (.tup (sh.map D.str))),("asked", .d (.tup (as.map D.str))),("rows", .d (.tup (rows.map objQ)))]]) = .go (.nx (evJ S.length x1 x2 x3 x4)) (S++[.ins "Tool" (Y7o m0 ms sh as rows)]):=(Z7n (Z0n (Z5 rfl) W1 (ix0 e1)) (Z5 rfl) (fld_ok (by simp)))
  have all:Z2s (ev0 7 [.r S.length,x1,x2,x3,x4]) (S++[.ins "Tool" []]) = .go (.nx (evJ S.length x1 x2 x3 x4)) (S++[.ins "Tool" (Y7o m0 ms sh as rows)]):=by
    rw [X3z]
    exact Z0e p0 (Z0e p1 (Z0e p2 (Z0e p3 (Z0e p4 (Z0e p5 (Z0e p6 (Z0e p7 (Z0e p8 (Z0e p9 p10)))))))))
  have l0:(S++[O.ins "Tool" []]).length=S.length + 1:=by simp
  have c2:cut (S++[O.ins "Tool" []]).length (S++[.ins "Tool" (Y7o m0 ms sh as rows)])=some (S++[.ins "Tool" (Y7o m0 ms sh as rows)]):=by
    have:=(hS.push (o := .ins "Tool" (Y7o m0 ms sh as rows)) rfl).cut0
    rw [List.length_append] at this
    rw [l0]
    exact this
  have run:Z13 [.r S.length,x1,x2,x3,x4] (S++[.ins "Tool" []]) = .ok (.d .non) (S++[.ins "Tool" (Y7o m0 ms sh as rows)]):=Y6o all c2
  have f0:frz (S++[.ins "Tool" (Y7o m0 ms sh as rows)]) S.length=some (Y2a m0 ms sh as rows):=by
    have g:(S++[O.ins "Tool" (Y7o m0 ms sh as rows)])[S.length]?=some (.ins "Tool" (Y7o m0 ms sh as rows)):=by simp
    unfold frz
    rw [g]
    rfl
  exact Y8u run f0 hS.cut
theorem Y63 (hS:OkS S) (h:ToolOk m0 ms sh as rows) (hp:sp.Perm sh) (hq:ap.Perm as) (h4:∃ g4 k4,SQ S x4 g4 (rows.map objQ) k4):made "Tool" mkF Z13 [.d (tls (m0 :: ms)), .d (tls sp), .d (tls ap),x4] S = .ok (.d (Y2a m0 ms sh as rows)) S:=by
  obtain ⟨g4,k4,h4⟩:=h4
  exact Y5a hS h hp hq Y1r Y1r Y1r h4
end
end Lt
namespace Lt
open Lw
open PySem PySem.Spec L2 Bv
open PyProof.Rows hiding St
variable [HasW]
def zQ (r:RowQ):Str:=zR r.1 r.2.1 r.2.2.1 r.2.2.2
def linesT (m0:Str) (ms sp ap:List Str) (rows:List RowQ):List Str:=Str.join " " ("marks" :: m0 :: ms) :: Str.join " " ("shown" :: sp) :: Str.join " " ("asked" :: ap) :: rows.map zQ
def zT (m0:Str) (ms sp ap:List Str) (rows:List RowQ):Str:=Str.join "\n" (linesT m0 ms sp ap rows)
theorem Y85 {k:Nat}:∀ {l:List Str},(∀ z ∈ l,z.length ≤ k)→(l.map (fun z:Str=>z.length)).sum ≤ l.length * k
  | [],_=>by simp
  | a :: l,h=>by
    have h1:=h a (by simp)
    have h2:=Y85 (l:=l) fun z hz=>h z (List.mem_cons_of_mem _ hz)
    simp only [List.map_cons,List.sum_cons,List.length_cons,Nat.add_mul]
    omega
theorem join_le {k:Nat} {a:Str}:∀ {l:List Str},(∀ z ∈ l,z.length ≤ k)→(Str.join a l).length ≤ l.length * (k + a.length)
  | [],_=>by
    show (0:Nat) ≤ _
    exact Nat.zero_le _
  | [x],h=>by
    have h1:=h x (by simp)
    show x.length ≤ 1 * (k + a.length)
    omega
  | x :: y :: r,h=>by
    have h1:=h x (by simp)
    have h2:=join_le (a:=a) (l:=y :: r) fun z hz=>h z (List.mem_cons_of_mem _ hz)
    have e:Str.join a (x :: y :: r)=x++a++Str.join a (y :: r):=rfl
    rw [e,Y60,Y60]
    rw [List.length_cons,Nat.add_mul]
    omega
theorem Y4l (ss:List Str):Bv.strs? ((ss.map D.str).map X.d)=some ss:=Y3s ss
theorem join_ok {k:Nat} {a:Str} {l:List Str} {T:Sto} (h:∀ z ∈ l,z.length ≤ k) (hb:l.length * (k + a.length) ≤ 16777216):Z1d a (.d (.lst (l.map D.str))) T = .ok (.d (.str (Str.join a l))) T:=by
  have s:=Y85 h
  have e:l.length * (k + a.length)=l.length * k + l.length * a.length:=Nat.mul_add ..
  have b:decide ((l.map (fun z:Str=>z.length)).sum + l.length * a.length ≤ 16777216)=true:=decide_eq_true (by omega)
  unfold Z1d
  show (match (some ((l.map D.str).map X.d)).bind Bv.strs? with
    | some ys=>if decide ((ys.map (fun z:Str=>z.length)).sum + ys.length * a.length ≤ 16777216) then R.ok (X.d (.str (Str.join a ys))) T else .bad
    | none => .bad)=_
  rw [Option.bind_some,Y4l]
  show (if decide ((l.map (fun z:Str=>z.length)).sum + l.length * a.length ≤ 16777216) then R.ok (X.d (.str (Str.join a l))) T else .bad)=_
  rw [if_pos b]
theorem Y8w {x:Str} (h:x ∈ NAMES):x.length ≤ 5:=(Z3p (show x ∈ Y5h by unfold Y5h; simp [h])).1
theorem Z4f:("marks" : Str).length=5∧("shown" : Str).length=5∧("asked" : Str).length=5∧("\n" : Str).length=1∧(" " : Str).length=1:=by decide +kernel
theorem Y04 {w:Str} {l:List Str} {T:Sto} (hw:w.length=5) (h:∀ z ∈ l,z ∈ NAMES) (hl:l.length ≤ 5):Z1d " " (.d (.lst (D.str w :: l.map D.str))) T = .ok (.d (.str (Str.join " " (w :: l)))) T:=by
  have hz:∀ z ∈ w :: l,z.length ≤ 5:=fun z m=>(List.mem_cons.mp m).elim (fun e=>by rw [e]; omega) fun m=>Y8w (h z m)
  exact join_ok (l:=w :: l) hz (by rw [Z4f.2.2.2.2,List.length_cons]; omega)
theorem Y05 {w:Str} {l:List Str} (hw:w.length=5) (h:∀ z ∈ l,z ∈ NAMES) (hl:l.length ≤ 5):(Str.join " " (w :: l)).length ≤ 40:=by
  have hz:∀ z ∈ w :: l,z.length ≤ 5:=fun z m=>(List.mem_cons.mp m).elim (fun e=>by rw [e]; omega) fun m=>Y8w (h z m)
  have:=join_le (a := " ") hz
  rw [Z4f.2.2.2.2,List.length_cons] at this
  omega
theorem X2r {w o t:Str} {k:Bool} (h:RowOk w o t k):(zR w o t k).length ≤ 40:=by
  have hz:∀ z ∈ wordsR w o t k,z.length ≤ 5:=fun z m=>(Z3p (Y67 h z m)).1
  have:=join_le (a := " ") hz
  have hl:(wordsR w o t k).length ≤ 5:=by unfold wordsR; split <;> simp
  rw [Z4f.2.2.2.2] at this
  unfold zR
  omega
section
variable {m0:Str} {ms sh as sp ap:List Str} {rows:List RowQ} {T:Sto}
theorem Y15 (h:ToolOk m0 ms sh as rows) (hp:sp.Perm sh) (hq:ap.Perm as):(∀ z ∈ linesT m0 ms sp ap rows,z.length ≤ 40)∧(linesT m0 ms sp ap rows).length ≤ 23:=by
  obtain ⟨q1,q2,q3,_⟩:=Z4f
  have lm:=h.few
  have lr:=h.len
  have ls:sh.length ≤ ms.length:=h.sh.length_le
  have la:as.length ≤ ms.length + 1:=h.as.length_le
  have lp:=hp.length_eq
  have lq:=hq.length_eq
  refine ⟨fun z hz=>?_,by unfold linesT; simp; omega⟩
  unfold linesT at hz
  rcases List.mem_cons.mp hz with rfl | hz
  · exact Y05 q1 h.names (by simp; omega)
  rcases List.mem_cons.mp hz with rfl | hz
  · exact Y05 q2 (fun y hy=>h.names y (List.mem_cons_of_mem _ (h.sh.subset (hp.mem_iff.mp hy)))) (by omega)
  rcases List.mem_cons.mp hz with rfl | hz
  · exact Y05 q3 (fun y hy=>h.names y (h.as.subset (hq.mem_iff.mp hy))) (by omega)
  · obtain ⟨r,hr,rfl⟩:=List.mem_map.mp hz
    exact X2r ((h.rows r hr).ok h.names)
theorem Y0n (h:ToolOk m0 ms sh as rows) (hp:sp.Perm sh) (hq:ap.Perm as):Z1d "\n" (.d (.lst ((linesT m0 ms sp ap rows).map D.str))) T = .ok (.d (.str (zT m0 ms sp ap rows))) T:=by
  obtain ⟨h1,h2⟩:=Y15 h hp hq
  refine join_ok h1 ?_
  rw [Z4f.2.2.2.1]
  omega
theorem X3l:ixO T (.d (Y0b m0 ms sh as rows)) 0=some (.d (tls (m0 :: ms))):=rfl
theorem X3m:ixO T (.d (Y0b m0 ms sh as rows)) 1=some (.d (tls sh)):=rfl
theorem X3n:ixO T (.d (Y0b m0 ms sh as rows)) 2=some (.d (tls as)):=rfl
theorem X3o:ixO T (.d (Y0b m0 ms sh as rows)) 3=some (.d (.lst (rows.map Z8d))):=rfl
theorem Y6n {f:D→PR} {mf:List X→Sto→R X} {g:RowQ→D} {e:Ev} {i:Nat} (l:List RowQ) (hz:l.length ≤ sizeLine) {mi:MIt} (hi:mi e T = .ok (l.map (fun r=>X.d (g r)), .free) T) (he:i < e.length) (h:∀ r ∈ l,mf [.d (g r)] T = .ok (.d (.str (zQ r))) T):Z2u (.nm i) mi (Z0h) (Z8 mf (Z0 (Z1 i) (Z6))) [i] e T = .ok (.d (.lst ((l.map zQ).map D.str))) T:=by
  have:=Z8n (t := .nm i) (mi:=mi) (me:=Z8 mf (Z0 (Z1 i) (Z6))) (vs:=[i]) (e:=e) (S:=T) (fun r => .d (g r)) (fun r => .str (zQ r)) (l:=l) hi hz fun r hr=>by
    refine ⟨_,rfl,?_⟩
    have g6:((Z1v e [i]).set i (some (X.d (g r))))[i]?=some (some (X.d (g r))):=List.getElem?_set_self (by rw [Z3r]; omega)
    simp [ev0,Y4,Z0l,W5,V2,W0,Z0t,X8,Z0b,V4,U6,Z1s,Z0w,Z00,Z0c,V6,Y1,Q5,Z1,m_c,Z8,Z0,Z6,W8,U2,W9,V7,W2,Z2z,Y3,Y9,Z0s,Z26,W7,V8,X9,Z0i,Z3j,Z1r,Z4s,X5,V0,R.bind,R.so,RO.then,items,ixO,ixD,Z23,Z2o,op2,Z9,tb,Z03,Z02,Z1b,Z0v,slX,V3,Q4,X6,X7,Z39,Z3z,Z0y,Z3u,Z3g,Z3t,Z3h,Z0u,Z3i,Z4r,Z0r,ints?,Z33,Z4j,Z4h,ds?,gets,callP,X.isD,D.noL,D.noLs,D.noLf,U9,Z01,Z1a,Z1n,Z4m,Z4o,Z4n,Z4y,g6,h r hr]
  rw [this,List.map_map]
  rfl
theorem text_ok (h:ToolOk m0 ms sh as rows):g__law_tool_text [Y0b m0 ms sh as rows] = .ok (.str (zT m0 ms sh as rows)):=by
  obtain ⟨q1,q2,q3,_⟩:=Z4f
  have lm:=h.few
  have lr:=h.len
  have ls:sh.length ≤ ms.length:=h.sh.length_le
  have la:as.length ≤ ms.length + 1:=h.as.length_le
  have hz:∀ n:Nat,n < 1000→n ≤ sizeLine:=fun n h=>by rw [sizeLine_eq]; omega
  have ad:∀ (w:Str) (l:List Str),l.length ≤ 5→Z2f (.lst [.str w]) (tls l)=some (.lst (D.str w :: l.map D.str)):=fun w l hl=>if_pos (hz _ (by simp; omega))
  have a1:=ad "marks" (m0 :: ms) (by simp; omega)
  have a2:=ad "shown" sh (by omega)
  have a3:=ad "asked" as (by omega)
  have j1:=Y04 (T:=[]) q1 h.names (by simp; omega)
  have j2:=Y04 (T:=[]) (l:=sh) q2 (fun y hy=>h.names y (List.mem_cons_of_mem _ (h.sh.subset hy))) (by omega)
  have j3:=Y04 (T:=[]) (l:=as) q3 (fun y hy=>h.names y (h.as.subset hy)) (by omega)
  have jl:=Y0n (T:=[]) h (List.Perm.refl _) (List.Perm.refl _)
  have hlc:=fun v=>Y6n (T:=[]) (f:=fun _ => .bad) (mf:=X6 1 (X7 [] (callP g__law_row_text))) (g:=Z8d) (i:=2) (e:=[some (.d (Y0b m0 ms sh as rows)),v,none]) (mi:=Q8 (Q5 (Z1 0) (m_c (.int 3)))) rows (hz _ (by omega)) (by unfold Q8; simp [ev0,Y4,Z0l,W5,V2,W0,Z0t,X8,Z0b,V4,U6,Z1s,Z0w,Z00,Z0c,V6,Y1,Q5,Z1,m_c,Z8,Z0,Z6,W8,U2,W9,V7,W2,Z2z,Y3,Y9,Z0s,Z26,W7,V8,X9,Z0i,Z3j,Z1r,Z4s,X5,V0,R.bind,R.so,RO.then,items,ixD,Z23,Z2o,op2,Z9,tb,Z03,Z02,Z1b,Z0v,slX,V3,Q4,X6,X7,Z39,Z3z,Z0y,Z3u,Z3g,Z3t,Z3h,Z0u,Z3i,Z4r,Z0r,ints?,Z33,Z4j,Z4h,ds?,gets,callP,X.isD,D.noL,D.noLs,D.noLf,U9,Z01,Z1a,Z1n,Z4m,Z4o,Z4n,Z4y,X3o,Z6y]) (by simp) fun r hr=>by
    have:=Y8f ((h.rows r hr).ok h.names)
    have e:Z8d r=Y3u r.1 r.2.1 r.2.2.1 r.2.2.2:=rfl
    rw [e]
    simp [ev0,Y4,Z0l,W5,V2,W0,Z0t,X8,Z0b,V4,U6,Z1s,Z0w,Z00,Z0c,V6,Y1,Q5,Z1,m_c,Z8,Z0,Z6,W8,U2,W9,V7,W2,Z2z,Y3,Y9,Z0s,Z26,W7,V8,X9,Z0i,Z3j,Z1r,Z4s,X5,V0,R.bind,R.so,RO.then,items,ixO,ixD,Z23,Z2o,op2,Z9,tb,Z03,Z02,Z1b,Z0v,slX,V3,Q4,X6,X7,Z39,Z3z,Z0y,Z3u,Z3g,Z3t,Z3h,Z0u,Z3i,Z4r,Z0r,ints?,Z33,Z4j,Z4h,ds?,gets,callP,X.isD,D.noL,D.noLs,D.noLf,U9,Z01,Z1a,Z1n,Z4m,Z4o,Z4n,Z4y,this]
    rfl
  have ad3:Z2f (.lst [.str (Str.join " " ("marks" :: m0 :: ms)), .str (Str.join " " ("shown" :: sh)), .str (Str.join " " ("asked" :: as))]) (.lst ((rows.map zQ).map D.str))=some (.lst ((linesT m0 ms sh as rows).map D.str)):=if_pos (hz _ (by simp; omega))
  have z3:=hz 3 (by decide)
  have z1:=hz 1 (by decide)
  unfold g__law_tool_text Z6v Z3w
  simp only [List.map_cons] at j1 a1
  simp [-List.map_map,ev0,Y4,Z0l,W5,V2,W0,Z0t,X8,Z0b,V4,U6,Z1s,Z0w,Z00,Z0c,V6,Y1,Q5,Z1,m_c,Z8,Z0,Z6,W8,U2,W9,V7,W2,Z2z,Y3,Y9,Z0s,Z26,W7,V8,X9,Z0i,Z3j,Z1r,Z4s,X5,V0,R.bind,R.so,RO.then,items,ixD,Z23,Z2o,op2,Z9,tb,Z03,Z02,Z1b,Z0v,slX,V3,Q4,X6,X7,Z39,Z3z,Z0y,Z3u,Z3g,Z3t,Z3h,Z0u,Z3i,Z4r,Z0r,ints?,Z33,Z4j,Z4h,ds?,gets,callP,X.isD,D.noL,D.noLs,D.noLf,U9,Z01,Z1a,Z1n,Z4m,Z4o,Z4n,Z4y,X3l,X3m,X3n,Z1e,a1,a2,a3,j1,j2,j3,hlc,ad3,jl,z1,z3]
end
end Lt
namespace Lt
open Lw
open PySem PySem.Spec L2 Bv
open PyProof.Rows hiding St
variable [HasW]
section
variable {m0:Str} {ms sh as sp ap:List Str} {rows:List RowQ} {T:Sto}
theorem Y7d:Z0v ["Tool"] "marks" T (.d (Y2a m0 ms sh as rows))=some (.d (.tup ((m0 :: ms).map D.str))):=by rfl
theorem Y7e:Z0v ["Tool"] "shown" T (.d (Y2a m0 ms sh as rows))=some (.d (.tup (sh.map D.str))):=by rfl
theorem Y7c:Z0v ["Tool"] "asked" T (.d (Y2a m0 ms sh as rows))=some (.d (.tup (as.map D.str))):=by rfl
theorem Y9c:Z0v ["Tool"] "rows" T (.d (Y2a m0 ms sh as rows))=some (.d (.tup (rows.map objQ))):=by rfl
def Y0l (m0:Str) (ms sh as:List Str):List (Str × List Str):=[("marks",m0 :: ms),("shown",sh),("asked",as)]
theorem Y8d (h:ToolOk m0 ms sh as rows):Z2x [Y2a m0 ms sh as rows] = .ok (.str (zT m0 ms sh as rows)):=by
  obtain ⟨q1,q2,q3,_⟩:=Z4f
  have lm:=h.few
  have lr:=h.len
  have ls:sh.length ≤ ms.length:=h.sh.length_le
  have la:as.length ≤ ms.length + 1:=h.as.length_le
  have hz:∀ n:Nat,n < 1000→n ≤ sizeLine:=fun n h=>by rw [sizeLine_eq]; omega
  have hin:∀ p ∈ Y0l m0 ms sh as,p.1.length=5∧(∀ z ∈ p.2,z ∈ NAMES)∧p.2.length ≤ 5:=fun p hp=>by
    unfold Y0l at hp
    simp only [List.mem_cons,List.not_mem_nil,or_false] at hp
    rcases hp with rfl | rfl | rfl
    · exact ⟨q1,h.names,by simp; omega⟩
    · exact ⟨q2,fun y hy=>h.names y (List.mem_cons_of_mem _ (h.sh.subset hy)),by show sh.length ≤ 5; omega⟩
    · exact ⟨q3,fun y hy=>h.names y (h.as.subset hy),by show as.length ≤ 5; omega⟩
  let l3:D := .lst [.tup ((m0 :: ms).map D.str), .tup (sh.map D.str), .tup (as.map D.str)]
  let e1:Ev:=[some (.d (Y2a m0 ms sh as rows)),some (.d l3),none,none,none,none]
  have hzip:Y50 (Z0 (m_c (.tup ((["marks", "shown", "asked"]:List Str).map D.str))) (Z0 (Z1 1) (Z6))) e1 [] = .ok ((Y0l m0 ms sh as).map (fun p=>X.d (.tup [.str p.1, .tup (p.2.map D.str)])), .free) []:=rfl
  have hlc:Z2u (.tp [(.nm 3),(.nm 4)]) (Y50 (Z0 (m_c (.tup ((["marks", "shown", "asked"]:List Str).map D.str))) (Z0 (Z1 1) (Z6)))) (Z0h) (Z1e Z1d (m_c (.str " ")) (W9 (Z0 (Z1 3) (W8 (Z1 4) (Z6))))) [3,4] e1 [] = .ok (.d (.lst ((Y0l m0 ms sh as).map fun p => .str (Str.join " " (p.1 :: p.2))))) []:=by
    refine Z8n _ (fun p => .str (Str.join " " (p.1 :: p.2))) (l:=Y0l m0 ms sh as) hzip (hz _ (show (3:Nat) < 1000 by decide)) fun p hp=>?_
    obtain ⟨a1,a2,a3⟩:=hin p hp
    refine ⟨[some (.d (Y2a m0 ms sh as rows)),some (.d l3),none,some (.d (.str p.1)),some (.d (.tup (p.2.map D.str))),none],rfl,?_⟩
    have j:=Y04 (T:=[]) a1 a2 a3
    have it:Bv.items [] (.d (.tup (p.2.map D.str)))=some ((p.2.map D.str).map X.d):=rfl
    have dm:=Z9y (p.2.map D.str)
    have z:=hz (p.2.length + 1) (by omega)
    simp [-List.map_map,ev0,Y4,Z0l,W5,V2,W0,Z0t,X8,Z0b,V4,U6,Z1s,Z0w,Z00,Z0c,V6,Y1,Q5,Z1,m_c,Z8,Z0,Z6,W8,U2,W9,V7,W2,Z2z,Y3,Y9,Z0s,Z26,W7,V8,X9,Z0i,Z3j,Z1r,Z4s,X5,V0,R.bind,R.so,RO.then,ixO,ixD,Z23,Z2o,op2,Z9,tb,Z03,Z02,Z1b,Z0v,slX,V3,Q4,X6,X7,Z39,Z3z,Z0y,Z3u,Z3g,Z3t,Z3h,Z0u,Z3i,Z4r,Z0r,ints?,Z33,Z4j,Z4h,ds?,gets,callP,X.isD,D.noL,D.noLs,D.noLf,U9,Z01,Z1a,Z1n,Z4m,Z4o,Z4n,Z4y,Z1e,it,dm,z,j]
  have hrl:=fun v=>Y6n (T:=[]) (f:=fun _ => .bad) (mf:=Z6z "Row" Z4e) (g:=objQ) (i:=5) (e:=[some (.d (Y2a m0 ms sh as rows)),some (.d l3),v,none,none,none]) (mi:=Q8 (W2 ["Tool"] "rows" (Z1 0))) rows (hz _ (by omega)) (by unfold Q8; simp [ev0,Y4,Z0l,W5,V2,W0,Z0t,X8,Z0b,V4,U6,Z1s,Z0w,Z00,Z0c,V6,Y1,Q5,Z1,m_c,Z8,Z0,Z6,W8,U2,W9,V7,W2,Z2z,Y3,Y9,Z0s,Z26,W7,V8,X9,Z0i,Z3j,Z1r,Z4s,X5,V0,R.bind,R.so,RO.then,items,ixO,ixD,Z23,Z2o,op2,Z9,tb,Z03,Z02,Z1b,slX,V3,Q4,X6,X7,Z39,Z3z,Z0y,Z3u,Z3g,Z3t,Z3h,Z0u,Z3i,Z4r,Z0r,ints?,Z33,Z4j,Z4h,ds?,gets,callP,X.isD,D.noL,D.noLs,D.noLf,U9,Z01,Z1a,Z1n,Z4m,Z4o,Z4n,Z4y,Y9c,Z6y]) (by simp) fun r hr=>by
    have:=X0f ((h.rows r hr).ok h.names)
    have e:objQ r=X11 r.1 r.2.1 r.2.2.1 r.2.2.2:=rfl
    rw [e]
    unfold X11 at *
    simp [Z6z,this]
    rfl
  have z3:=hz 3 (by decide)
  have ed:(Y0l m0 ms sh as).map (fun p=>D.str (Str.join " " (p.1 :: p.2)))=([Str.join " " ("marks" :: m0 :: ms),Str.join " " ("shown" :: sh),Str.join " " ("asked" :: as)]).map D.str:=rfl
  rw [ed] at hlc
  have jl:=Y0n (T:=[]) h (List.Perm.refl _) (List.Perm.refl _)
  have d1:ds? ((([Str.join " " ("marks" :: m0 :: ms),Str.join " " ("shown" :: sh),Str.join " " ("asked" :: as)]).map D.str).map X.d++((rows.map zQ).map D.str).map X.d)=some ((linesT m0 ms sh as rows).map D.str):=by
    rw [← List.map_append,Z9y]
    rfl
  have zl:((linesT m0 ms sh as rows).map D.str).length ≤ sizeLine:=by
    have:=(Y15 h (List.Perm.refl _) (List.Perm.refl _)).2
    rw [List.length_map]
    exact hz _ (by omega)
  have pd:(Z1e Z1d (m_c (.str "\n")) (W9 (W8 (Z1 2) (W8 (Z2u (.nm 5) (Q8 (W2 ["Tool"] "rows" (Z1 0))) (Z0h) (Z8 (Z6z "Row" Z4e) (Z0 (Z1 5) (Z6))) [5]) (Z6))))) [some (.d (Y2a m0 ms sh as rows)),some (.d l3),some (.d (.lst (([Str.join " " ("marks" :: m0 :: ms),Str.join " " ("shown" :: sh),Str.join " " ("asked" :: as)]).map D.str))),none,none,none] [] = .ok (.d (.str (zT m0 ms sh as rows))) []:=by
    have it1:Bv.items [] (.d (.lst (([Str.join " " ("marks" :: m0 :: ms),Str.join " " ("shown" :: sh),Str.join " " ("asked" :: as)]).map D.str)))=some ((([Str.join " " ("marks" :: m0 :: ms),Str.join " " ("shown" :: sh),Str.join " " ("asked" :: as)]).map D.str).map X.d):=rfl
    have it2:Bv.items [] (.d (.lst ((rows.map zQ).map D.str)))=some (((rows.map zQ).map D.str).map X.d):=rfl
    simp only [Z1e,m_c,W9,W8,Z1,Z6,R.bind,List.getElem?_cons_zero,List.getElem?_cons_succ,it1,hrl,it2,List.append_nil,Z02,d1,if_pos zl,jl]
  unfold Z2x Z6v Z7t
  have p1:(W0 1 (W9 (Z0 (W2 ["Tool"] "marks" (Z1 0)) (Z0 (W2 ["Tool"] "shown" (Z1 0)) (Z0 (W2 ["Tool"] "asked" (Z1 0)) (Z6)))))) (ev0 6 ([Y2a m0 ms sh as rows].map X.d)) [] = .go (.nx e1) []:=by
    simp [ev0,Y4,Z0l,W5,V2,W0,Z0t,X8,Z0b,V4,U6,Z1s,Z0w,Z00,Z0c,V6,Y1,Q5,Z1,m_c,Z8,Z0,Z6,W8,U2,W9,V7,W2,Z2z,Y3,Y9,Z0s,Z26,W7,V8,X9,Z0i,Z3j,Z1r,Z4s,X5,V0,R.bind,R.so,RO.then,items,ixO,ixD,Z23,Z2o,op2,Z9,tb,Z03,Z02,Z1b,slX,V3,Q4,X6,X7,Z39,Z3z,Z0y,Z3u,Z3g,Z3t,Z3h,Z0u,Z3i,Z4r,Z0r,ints?,Z33,Z4j,Z4h,ds?,gets,callP,X.isD,D.noL,D.noLs,D.noLf,U9,Z01,Z1a,Z1n,Z4m,Z4o,Z4n,Z4y,Y7d,Y7e,Y7c,z3]
    rfl
  have p2:(W0 2 (Z2u (.tp [(.nm 3),(.nm 4)]) (Y50 (Z0 (m_c (.tup ((["marks", "shown", "asked"]:List Str).map D.str))) (Z0 (Z1 1) (Z6)))) (Z0h) (Z1e Z1d (m_c (.str " ")) (W9 (Z0 (Z1 3) (W8 (Z1 4) (Z6))))) [3,4])) e1 [] = .go (.nx [some (.d (Y2a m0 ms sh as rows)),some (.d l3),some (.d (.lst (([Str.join " " ("marks" :: m0 :: ms),Str.join " " ("shown" :: sh),Str.join " " ("asked" :: as)]).map D.str))),none,none,none]) []:=by
    unfold W0
    rw [hlc]
    rfl
  rw [(Z3k p1).trans (Z3k p2)]
  unfold X8
  rw [pd]
  rfl
theorem strO_tool (h:ToolOk m0 ms sh as rows):Z6z "Tool" Z2x [.d (Y2a m0 ms sh as rows)] T = .ok (.d (.str (zT m0 ms sh as rows))) T:=by
  have e1:=Y8d h
  show (if decide (("Tool" : Str) = "Tool") then (match Z2x [Y2a m0 ms sh as rows] with
    | .ok (.str z)=>R.ok (X.d (.str z)) T
    | _ => .bad) else .bad)=_
  rw [e1]
  simp
end
end Lt
namespace Lt
open Lw
open PySem PySem.Spec L2 Bv
open PyProof.Rows hiding St
variable [HasW]
abbrev Y1q (z:Str) (e:Ev) (T:Sto):RO := .err "InvalidTool" [("word", .str z)] e T
theorem bls_any (f:List Bool→Bool) {α:Type} (c:α→Bool) (l:List α) (S:Sto):Z9x f [.d (.lst (l.map fun a=>D.bl (c a)))] S = .ok (.d (.bl (f (l.map c)))) S:=by
  have h:bls? ((l.map fun a=>D.bl (c a)).map X.d)=some (l.map c):=by
    induction l with
    | nil=>rfl
    | cons s r ih =>
      show (bls? ((r.map fun a=>D.bl (c a)).map X.d)).map (c s :: ·)=_
      rw [ih]
      rfl
  show (if U9 S (.d (.lst (l.map fun a=>D.bl (c a)))) then (match (some ((l.map fun a=>D.bl (c a)).map X.d)).bind bls? with
    | some l=>R.ok (X.d (.bl (f l))) S
    | none => .bad) else .bad)=_
  rw [show U9 S (.d (.lst (l.map fun a=>D.bl (c a))))=true from rfl,if_pos rfl,Option.bind_some,h]
section
variable {n:Nat} {ml sp ap ms sh as:List Str} {m0 z:Str} {x1 x2 x3 x4:X} {g1 g2 g3 g4:D} {k1 k2 k3 k4:Lk} {rows:List RowQ} {T S:Sto} {v0 v1 v2 v3:D} {ds:List D}
theorem X0y (hn:callP g_are_names [x1] T = .ok (.d (.bl false)) T):j_0 (evJ n x1 x2 x3 x4) T=Y1q "marks" (evJ n x1 x2 x3 x4) T:=by
  exact (Z2e (Z50 (Z4c (V5 (X4 (Z7 (Z5 rfl) Y5) (U4 rfl (hn))) (rfl)))) (Z15 (Z7 W1 Y5)))
theorem X0z (hn:callP g_are_names [x2] T = .ok (.d (.bl false)) T):j_1 (evJ n x1 x2 x3 x4) T=Y1q "shown" (evJ n x1 x2 x3 x4) T:=by
  exact (Z2e (Z50 (Z4c (V5 (X4 (Z7 (Z5 rfl) Y5) (U4 rfl (hn))) (rfl)))) (Z15 (Z7 W1 Y5)))
theorem Y9g (h1:SQ T x1 g1 (ml.map D.str) k1) (h:SQ T x2 g2 (sp.map D.str) k2) (hn:callP g_are_names [x2] T = .ok (.d (.bl true)) T) (hz:sp.length ≤ sizeLine) (hc:ml.drop 1=ms) (hin:(sp.all fun s=>decide (s ∈ ms))=false):j_1 (evJ n x1 x2 x3 x4) T=Y1q "shown" (evJ n x1 x2 x3 x4) T:=by
  obtain ⟨g',sl,hg'⟩:=h1.sl
  rw [← List.map_drop,hc] at hg'
  have hlc:Z2u (.nm 6) (Q8 (Z1 2)) (Z0h) (Y1 inD (Z1 6) (Y3 (Z1 1) (Y9 (m_c (.int 1))) (Z0s))) [6] (evJ n x1 x2 x3 x4) T = .ok (.d (.lst (sp.map fun s => .bl (decide (s ∈ ms))))) T :=
    Z5p h.ok (fun s => .d (.str s)) (fun s => .bl (decide (s ∈ ms))) (l:=sp) (Z2y (Z5 rfl) h.walks) hz fun s hs=>⟨_,rfl,Y6 (Z5 rfl) (Z0p (Z5 rfl) (Z1c W1) Z4x sl) Z9 Z9 (Y13 hg')⟩
  have al:=bls_any (fun l=>l.all id) (fun s=>decide (s ∈ ms)) sp T
  have e:(sp.map fun s=>decide (s ∈ ms)).all id=false:=by rw [List.all_map]; exact hin
  rw [e] at al
  exact (Z2e (Z1x (Z1p (V5 (X4 (Z7 (Z5 rfl) Y5) (U4 rfl (hn))) (rfl))) (Z4c (V5 (X4 (Z7 (hlc) Y5) (al)) (rfl)))) (Z15 (Z7 W1 Y5)))
theorem X00 (hn:callP g_are_names [x3] T = .ok (.d (.bl false)) T):j_2 (evJ n x1 x2 x3 x4) T=Y1q "asked" (evJ n x1 x2 x3 x4) T:=by
  exact (Z2e (Z50 (Z4c (V5 (X4 (Z7 (Z5 rfl) Y5) (U4 rfl (hn))) (rfl)))) (Z15 (Z7 W1 Y5)))
theorem Y9h (h1:SQ T x1 g1 (ml.map D.str) k1) (h:SQ T x3 g3 (ap.map D.str) k3) (hn:callP g_are_names [x3] T = .ok (.d (.bl true)) T) (hz:ap.length ≤ sizeLine) (hin:(ap.all fun s=>decide (s ∈ ml))=false):j_2 (evJ n x1 x2 x3 x4) T=Y1q "asked" (evJ n x1 x2 x3 x4) T:=by
  have hlc:Z2u (.nm 6) (Q8 (Z1 3)) (Z0h) (Y1 inD (Z1 6) (Z1 1)) [6] (evJ n x1 x2 x3 x4) T = .ok (.d (.lst (ap.map fun s => .bl (decide (s ∈ ml))))) T :=
    Z5p h.ok (fun s => .d (.str s)) (fun s => .bl (decide (s ∈ ml))) (l:=ap) (Z2y (Z5 rfl) h.walks) hz fun s hs=>⟨_,rfl,Y6 (Z5 rfl) (Z5 rfl) Z9 h1.get (Y13 h1.form)⟩
  have al:=bls_any (fun l=>l.all id) (fun s=>decide (s ∈ ml)) ap T
  have e:(ap.map fun s=>decide (s ∈ ml)).all id=false:=by rw [List.all_map]; exact hin
  rw [e] at al
  exact (Z2e (Z1x (Z1p (V5 (X4 (Z7 (Z5 rfl) Y5) (U4 rfl (hn))) (rfl))) (Z4c (V5 (X4 (Z7 (hlc) Y5) (al)) (rfl)))) (Z15 (Z7 W1 Y5)))
def fitM (ml:List Str) (r:RowQ):Bool:=decide (r.2.1 ∈ ("any" : Str) :: ml) && decide (r.2.2.1 ∈ ("same" : Str) :: ml)
theorem X01 (h1:SQ T x1 g1 (ml.map D.str) k1) (h:SQ T x4 g4 (rows.map objQ) k4) (hz:rows.length ≤ sizeLine) (hm:ml.length + 1 ≤ sizeLine) (hr:rows.all (fitM ml)=false):j_4 (evJ n x1 x2 x3 x4) T=Y1q "mark" (evJ n x1 x2 x3 x4) T:=by
  have hlc:Z2u (.nm 5) (Q8 (Z1 4)) (Z0h) (Z0i (Y1 inD (W2 ["Row"] "old" (Z1 5)) (U2 (Z0 (m_c (.str "any")) (W8 (Z1 1) (Z6))))) (Y1 inD (W2 ["Row"] "then" (Z1 5)) (U2 (Z0 (m_c (.str "same")) (W8 (Z1 1) (Z6)))))) [5] (evJ n x1 x2 x3 x4) T = .ok (.d (.lst (rows.map fun r => .bl (fitM ml r)))) T:=by
    refine Z5p h.ok (fun r => .d (objQ r)) (fun r => .bl (fitM ml r)) (l:=rows) (Z2y (Z5 rfl) h.walkq) hz fun r hr=>⟨_,rfl,?_⟩
    have b1:inD (.str r.2.1) (.tup ((("any" : Str) :: ml).map D.str))=some (.bl (decide (r.2.1 ∈ ("any" : Str) :: ml))):=Y14
    have b2:inD (.str r.2.2.1) (.tup ((("same" : Str) :: ml).map D.str))=some (.bl (decide (r.2.2.1 ∈ ("same" : Str) :: ml))):=Y14
    have m1:∀ w:Str,U2 (Z0 (m_c (.str w)) (W8 (Z1 1) (Z6))) ((Z1v (evJ n x1 x2 x3 x4) [5]).set 5 (some (.d (objQ r)))) T = .ok (.d (.tup ((w :: ml).map D.str))) T:=fun w =>
      Z6f (Z7 W1 (Z9h (Z5 rfl) h1.items Y5)) Y21 (by rw [List.length_map,List.length_cons]; exact hm)
    unfold fitM
    cases q:decide (r.2.1 ∈ ("any" : Str) :: ml) with
    | true =>
      rw [q] at b1
      exact Z9g (Y6 (Z4b (Z5 rfl) Y1s) (m1 _) Z9 Z9 b1) rfl (Y6 (Z4b (Z5 rfl) Y5l) (m1 _) Z9 Z9 b2)
    | false =>
      rw [q] at b1
      exact Z8y (Y6 (Z4b (Z5 rfl) Y1s) (m1 _) Z9 Z9 b1) rfl
  have al:=bls_any (fun l=>l.all id) (fitM ml) rows T
  have e:(rows.map (fitM ml)).all id=false:=by rw [List.all_map]; exact hr
  rw [e] at al
  exact (Z2e (Z4c (V5 (X4 (Z7 (hlc) Y5) (al)) (rfl))) (Z15 (Z7 W1 Y5)))
def blankQ (m0:Str) (r:RowQ):Bool:=decide (r.1 ≠ "give") && decide (r.2.1=m0)
theorem X02 (h1:SQ T x1 g1 ((m0 :: ms).map D.str) k1) (h:SQ T x4 g4 (rows.map objQ) k4) (hz:rows.length ≤ sizeLine) (hr:rows.any (blankQ m0)=true):j_5 (evJ n x1 x2 x3 x4) T=Y1q "blank" (evJ n x1 x2 x3 x4) T:=by
  have hlc:Z2u (.nm 5) (Q8 (Z1 4)) (Z0h) (Z0i (Y1 neD (W2 ["Row"] "word" (Z1 5)) (m_c (.str "give"))) (Y1 eqD (W2 ["Row"] "old" (Z1 5)) (Q5 (Z1 1) (m_c (.int 0))))) [5] (evJ n x1 x2 x3 x4) T = .ok (.d (.lst (rows.map fun r => .bl (blankQ m0 r)))) T:=by
    refine Z5p h.ok (fun r => .d (objQ r)) (fun r => .bl (blankQ m0 r)) (l:=rows) (Z2y (Z5 rfl) h.walkq) hz fun r hr=>⟨_,rfl,?_⟩
    unfold blankQ
    by_cases g:r.1 = "give"
    · rw [decide_eq_false (fun c=>c g)]
      exact Z8y (Y6 (Z4b (Z5 rfl) Y0x) W1 Z9 Z9 (X1x g)) rfl
    · rw [decide_eq_true g]
      exact Z9g (Y6 (Z4b (Z5 rfl) Y0x) W1 Z9 Z9 (X1y g)) rfl (Y6 (Z4b (Z5 rfl) Y1s) (Z0n (Z5 rfl) W1 (ix0 h1)) Z9 Z9 Z53)
  have al:=bls_any (fun l=>l.any id) (blankQ m0) rows T
  have e:(rows.map (blankQ m0)).any id=true:=by rw [List.any_map]; exact hr
  rw [e] at al
  exact (Z2e (V5 (X4 (Z7 (hlc) Y5) (al)) (rfl)) (Z15 (Z7 W1 Y5)))
end
theorem made_err {C D:Str} {g:List X→Sto→R X} {xs:List X} {S S1 T:Sto} {fs:List (Str × Bv.D)} (h:g (.r S.length :: xs) (S++[.ins C []]) = .err D fs S1) (h2:cut S.length S1=some T):made C mkF g xs S = .err D fs T:=by
  unfold made
  rw [h]
  show (match cut S.length S1 with
    | some T=>R.err D fs T
    | none => .err D fs S1)=_
  rw [h2]
theorem runE_err {N:Nat} {mb:MS} {xs:List X} {S S1 T:Sto} {e:Ev} {C:Str} {fs:List (Str × D)} (h:mb (ev0 N xs) S = .err C fs e S1) (h2:cut S.length S1=some T):Y1f N mb xs S = .err C fs T:=by
  unfold Y1f
  rw [h]
  show (match cut S.length S1 with
    | some T=>R.err C fs T
    | none => .err C fs S1)=_
  rw [h2]
abbrev T1:Sto:=[.ins "Tool" []]
end Lt
namespace Bv
open PySem PySem.Spec L2
open PyProof.Rows hiding St
variable [HasW]
theorem hz4 {n:Nat} (h:n < 2000):n ≤ sizeLine:=by rw [sizeLine_eq]; omega
def okPR:PR→D→Bool
  | .ok d,e=>decide (d=e)
  | _,_=>false
theorem Z6u (ss:List Str):pys (ss.map D.str)=some (ss.map PyData.str):=by
  induction ss with
  | nil=>rfl
  | cons s r ih =>
    show (match some (PyData.str s),pys (r.map D.str) with
      | some p,some l=>some (p :: l)
      | _,_=>none)=_
    rw [ih]
    rfl
theorem Z46 (ss:List Str):PyData.depthAll (ss.map PyData.str) ≤ 1:=by
  induction ss with
  | nil=>simp [PyData.depthAll]
  | cons s r ih =>
    simp only [List.map_cons,PyData.depthAll,PyData.depth]
    omega
theorem Z9r {ds:List D} {l:List PyData} (h:pys ds=some l):(D.lst ds).py=some (.list l):=by
  show (match pys ds with
    | some l=>some (PyData.list l)
    | none=>none)=_
  rw [h]
theorem Y2h {ds:List D} {l:List PyData} (h:pys ds=some l):(D.tup ds).py=some (.tuple l):=by
  show (match pys ds with
    | some l=>some (PyData.tuple l)
    | none=>none)=_
  rw [h]
theorem Z7l {d:D} {ds:List D} {p:PyData} {l:List PyData} (h:d.py=some p) (h2:pys ds=some l):pys (d :: ds)=some (p :: l):=by
  show (match d.py,pys ds with
    | some p,some l=>some (p :: l)
    | _,_=>none)=_
  rw [h,h2]
theorem X25 {a b:D} {p q:PyData} (ha:a.py=some p) (hb:b.py=some q) (da:p.depth ≤ 64) (db:q.depth ≤ 64):eqD a b=some (.bl (PyData.eqv p q)):=by
  unfold eqD
  rw [ha,hb]
  show (if dOk p && dOk q then some (D.bl (PyData.eqv p q)) else none)=_
  rw [show dOk p=true from decide_eq_true da,show dOk q=true from decide_eq_true db]
  rfl
theorem X1w {a b:D} {p q:PyData} (ha:a.py=some p) (hb:b.py=some q) (da:p.depth ≤ 64) (db:q.depth ≤ 64):neD a b=some (.bl (!PyData.eqv p q)):=by
  unfold neD
  rw [ha,hb]
  show (if dOk p && dOk q then some (D.bl (!PyData.eqv p q)) else none)=_
  rw [show dOk p=true from decide_eq_true da,show dOk q=true from decide_eq_true db]
  rfl
theorem Z8k:∀ (a b:List Str),PyData.eqvAll (a.map PyData.str) (b.map PyData.str)=decide (a=b)
  | [],[]=>by simp [PyData.eqvAll]
  | [],_ :: _=>by simp [PyData.eqvAll]
  | _ :: _,[]=>by simp [PyData.eqvAll]
  | x :: a,y :: b=>by
    rw [List.map_cons,List.map_cons]
    have e:PyData.eqvAll (.str x :: a.map PyData.str) (.str y :: b.map PyData.str)=(PyData.eqv (.str x) (.str y) && PyData.eqvAll (a.map PyData.str) (b.map PyData.str)):=by simp [PyData.eqvAll]
    rw [e,Z9f,Z8k a b,Bool.eq_iff_iff]
    simp
theorem Y5p (ss:List Str):(PyData.list (ss.map PyData.str)).depth ≤ 64:=by
  have:=Z46 ss
  simp only [PyData.depth]
  omega
theorem Y3d {a b:List Str}:neD (.lst (a.map D.str)) (.lst (b.map D.str))=some (.bl (!decide (a=b))):=by
  rw [X1w (Z9r (Z6u a)) (Z9r (Z6u b)) (Y5p a) (Y5p b)]
  rw [show PyData.eqv (.list (a.map PyData.str)) (.list (b.map PyData.str))=PyData.eqvAll (a.map PyData.str) (b.map PyData.str) by simp [PyData.eqv],Z8k]
theorem Z8x (ss:List Str) (s:Str):((ss.map PyData.str).any fun z=>PyData.eqv z (.str s))=decide (s ∈ ss):=by
  induction ss with
  | nil=>rfl
  | cons a r ih =>
    rw [List.map_cons,List.any_cons,ih,Z9f,Bool.eq_iff_iff]
    simp only [Bool.or_eq_true,decide_eq_true_eq,List.mem_cons]
    exact ⟨fun h=>h.imp Eq.symm id,fun h=>h.imp Eq.symm id⟩
theorem Y52 {s:Str} {ss:List Str}:inD (.str s) (.lst (ss.map D.str))=some (.bl (decide (s ∈ ss))):=by
  have e:(D.lst (ss.map D.str)).py=some (.list (ss.map PyData.str)):=by
    show (match pys (ss.map D.str) with
      | some l=>some (PyData.list l)
      | none=>none)=_
    rw [Z6u]
  have d1:dOk (.str s)=true:=by unfold dOk; simp [PyData.depth]
  have d2:dOk (.list (ss.map PyData.str))=true:=by
    unfold dOk
    have:=Z46 ss
    refine decide_eq_true ?_
    simp only [PyData.depth]
    omega
  have e0:(D.str s).py=some (.str s):=rfl
  unfold inD Bv.inB
  rw [e,e0]
  show Option.map D.bl (if dOk (.str s) && dOk (.list (ss.map PyData.str)) then some ((ss.map PyData.str).any fun z=>PyData.eqv z (.str s)) else none)=_
  rw [d1,d2,Z8x]
  rfl
theorem Z9k {α:Type} {t:Tg} {mi:MIt} {mt:MG Bool} {me:M} {vs:List Nat} {e:Ev} {S:Sto} (x:α→X) (f:α→D) (c:α→Bool) {l:List α} (hi:mi e S = .ok (l.map x, .free) S) (hl:l.length ≤ sizeLine) (h:∀ a ∈ l,∃ e1,t.asg S (x a) (Z1v e vs)=some e1∧mt e1 S = .ok (c a) S∧(c a=true→me e1 S = .ok (.d (f a)) S)) :
    Z2u t mi mt me vs e S = .ok (.d (.lst ((l.filter c).map f))) S:=by
  have h1:=Y25 (t:=t) (mt:=mt) (me:=me) (e:=Z1v e vs) (S:=S) x f c (l:=l) h
  unfold Z2u
  rw [hi]
  show (lcL t .free mt me (Z1v e vs) (l.map x) S).bind Z8l=_
  rw [h1]
  show Z8l ((l.filter c).map f) S=_
  unfold Z8l
  have:=List.length_filter_le c l
  rw [if_pos (by rw [List.length_map]; omega)]
theorem Y4l:∀ (ss:List Str),Bv.strs? ((ss.map D.str).map X.d)=some ss
  | []=>rfl
  | s :: r=>by
    show (Bv.strs? ((r.map D.str).map X.d)).map (s :: ·)=_
    rw [Y4l r]
    rfl
section
variable {S:Sto} {n:Nat} {x:X} {xs:List X} {ds:List D}
theorem X1l (h:S[n]?=some (.lst xs)):Z0u [.r n] S = .ok (.d (.int xs.length)) S:=by simp [Z0u,Z3i,items,h]
theorem Y8j (h:S[n]?=some (.lst xs)) (hl:xs.length < sizeLine):Z0z (.r n) [x] S = .ok (.d .non) (S.set n (.lst (xs++[x]))):=by simp [Z0z,Z01,h,hl]
theorem X1d (h:S[n]?=some (.lst (ds.map X.d))):(X.r n).get S=some (.lst ds):=by simp [X.get,h,Z9y]
end
section
variable {α β:Type}
end
end Bv
namespace Bv
open PySem PySem.Spec L2
open PyProof.Rows hiding St
variable [HasW]
section
variable {T:Sto}
theorem Y35 {ss:List Str} (hl:ss.length < 1000):Z81 [.d (.lst (ss.map D.str))] T = .ok (.d (.int (Z4q ss).length)) T:=by
  have hb:ss.length + 1 < scanBound:=by
    have:(1001:Nat) ≤ scanBound:=by decide
    omega
  show (match (some ((ss.map D.str).map X.d)).bind Bv.strs? with
    | some xs=>if decide (xs.length + 1 < scanBound) then R.ok (X.d (.int (Z4q xs).length)) T else .bad
    | none => .bad)=_
  rw [Option.bind_some,Y4l]
  show (if decide (ss.length + 1 < scanBound) then R.ok (X.d (.int (Z4q ss).length)) T else .bad)=_
  rw [if_pos (decide_eq_true hb)]
end
end Bv
namespace Bv
open PySem PySem.Spec L2
open PyProof.Rows hiding St
variable [HasW]
def Fw (r:RO) (Q:RO→Prop):Prop:=Q r
section
variable {e e1 e2:Ev} {S S1 S2 S3 S4:Sto} {m ma mb mc mo mi mx:M} {ms:MG (List X)} {mt mt2:MG Bool} {x y z w:X} {xs ys:List X} {d d1 d2 d3 d4:D} {r:R X} {rb:R Bool} {ro:RO} {b c b1 b2:Bool} {i j l:Nat} {Q Q2:RO→Prop} {k k1 k2:MS}
theorem Fw.mono (h:Fw ro Q) (h2:∀ r,Q r→Q2 r):Fw ro Q2:=h2 _ h
theorem Fw.seq (h:k1 e S = .go (.nx e1) S1) (h2:Fw (k e1 S1) Q):Fw (Y4 k1 k e S) Q:=by
  unfold Fw
  rw [Z0e h rfl]
  exact h2
theorem Fw.one (h:Fw (Y4 k W5 e S) Q):Fw (k e S) Q:=by
  have q:Y4 k W5 e S=k e S:=by
    unfold Y4
    cases h:k e S with
    | go o T=>cases o <;> rfl
    | err C fs e T=>rfl
    | bad=>rfl
  unfold Fw at h ⊢
  rw [q] at h
  exact h
theorem Fw.nil (h:Q (.go (.nx e) S)):Fw (W5 e S) Q:=h
theorem Fw.seqNil (h:Fw (k e S) Q):Fw (Y4 W5 k e S) Q:=h
theorem Fw.seqSeq (h:Fw (Y4 k1 (Y4 k2 k) e S) Q):Fw (Y4 (Y4 k1 k2) k e S) Q:=by
  have q:Y4 (Y4 k1 k2) k e S=Y4 k1 (Y4 k2 k) e S:=by
    unfold Y4
    cases h:k1 e S with
    | go o T=>cases o <;> rfl
    | err C fs e T=>rfl
    | bad=>rfl
  unfold Fw at h ⊢
  rw [q]
  exact h
theorem Fw.set (h:m e S = .ok x S1) (h2:Fw (k (e.set i (some x)) S1) Q):Fw (Y4 (W0 i m) k e S) Q := .seq (Z8r h) h2
theorem Fw.expr (h:m e S = .ok x S1) (h2:Fw (k e S1) Q):Fw (Y4 (V2 m) k e S) Q := .seq (Y6u h) h2
theorem Fw.par (h:ms e S = .ok [x,y] S1) (h2:Fw (k ((e.set i (some x)).set j (some y)) S1) Q):Fw (Y4 (Z0w i j ms) k e S) Q := .seq (X2j h) h2
theorem Fw.sub (h1:m e S = .ok z S1) (h2:mo e S1 = .ok x S2) (h3:mi e S2 = .ok y S3) (h:Z3u S3 x y z=some S4) (h4:Fw (k e S4) Q):Fw (Y4 (Z00 mo mi m) k e S) Q := .seq (X2k h1 h2 h3 h) h4
theorem Fw.retP (h:m e S = .ok x S1) (hg:x.get S1=some d) (h2:Q (.go (.rp d) S1)):Fw (Y4 (X8 m) k e S) Q:=by
  unfold Fw
  rw [Z5v (Z6n h hg)]
  exact h2
theorem Fw.retT {ds:List D} (h:ms e S = .ok xs S1) (hg:gets S1 xs=some ds) (hl:ds.length ≤ sizeLine) (h2:Q (.go (.rp (.tup ds)) S1)):Fw (Y4 (U6 ms) k e S) Q:=by
  unfold Fw
  rw [Z5v (X0c h hg hl)]
  exact h2
theorem Fw.raise {C p:Str} {v:D} (h:ms e S = .ok [.d v] S1) (h2:Q (.err C [(p,v)] e S1)):Fw (Y4 (Z0g C p ms) k e S) Q:=by
  unfold Fw
  rw [Z2w (Z15 h)]
  exact h2
theorem Fw.if_ (h:mt e S = .ok b S1) (h2:Fw (if b=true then Y4 k1 k e S1 else Y4 k2 k e S1) Q):Fw (Y4 (Z0l mt k1 k2) k e S) Q:=by
  have q:Y4 (Z0l mt k1 k2) k e S=if b=true then Y4 k1 k e S1 else Y4 k2 k e S1:=by
    have z:Z0l mt k1 k2 e S=if b=true then k1 e S1 else k2 e S1:=by unfold Z0l; rw [h]; rfl
    unfold Y4
    rw [z]
    cases b <;> rfl
  unfold Fw at h2 ⊢
  rw [q]
  exact h2
theorem Fw.ift (h:Fw (k1 e S) Q):Fw (if true=true then k1 e S else ro) Q:=h
theorem Fw.iff (h:Fw (k2 e S) Q):Fw (if false=true then ro else k2 e S) Q:=h
theorem Fw.ifc {r1 r2:RO} (h1:b=true→Fw r1 Q) (h2:b=false→Fw r2 Q):Fw (if b=true then r1 else r2) Q:=by
  cases b with
  | true=>exact h1 rfl
  | false=>exact h2 rfl
section
variable {t:Tg} {Cs:List Str} {f C:Str} {f2:D→D→Option D} {mit:MIt} {tab:List (Str × Bool)} {sx:SX} {mx2:Ev→SX}
theorem Fw.one_expr (h:Fw (Y4 (V2 m) W5 e S) Q):Fw (V2 m e S) Q:=Fw.one h
end
inductive Trn (P P2:Ev→Sto→Prop) (Q:RO→Prop):RO→Prop where
  | nx {ε:Ev} {σ:Sto} (h:P ε σ):Trn P P2 Q (.go (.nx ε) σ)
  | ct {ε:Ev} {σ:Sto} (h:P ε σ):Trn P P2 Q (.go (.ct ε) σ)
  | bk {ε:Ev} {σ:Sto} (h:P2 ε σ):Trn P P2 Q (.go (.bk ε) σ)
  | rt {ξ:X} {σ:Sto} (h:Q (.go (.rt ξ) σ)):Trn P P2 Q (.go (.rt ξ) σ)
  | rp {δ:D} {σ:Sto} (h:Q (.go (.rp δ) σ)):Trn P P2 Q (.go (.rp δ) σ)
  | err {C:Str} {fs:List (Str × D)} {ε:Ev} {σ:Sto} (h:Q (.err C fs ε σ)):Trn P P2 Q (.err C fs ε σ)
theorem Y8b (h:Y4 k1 k e S=k1 e S) (hq:Q (k1 e S)):Fw (Y4 k1 k e S) Q:=by
  unfold Fw
  rw [h]
  exact hq
theorem Z7y {α:Type} {t:Tg} {lk:Lk} {body:MS} (f:α→X) (I:List α→Ev→Sto→Prop) (P2:Ev→Sto→Prop) (hok:∀ l e S,I l e S→lk.ok S=true)
    (step:∀ a l e S,I (a :: l) e S→∃ e1,t.asg S (f a) e=some e1∧Fw (body e1 S) (Trn (I l) P2 Q)) :
    ∀ (l:List α) (e:Ev) (S:Sto),I l e S→(∃ e2 S2,Z7x t lk body (l.map f) e S = .go (.nx e2) S2∧(I [] e2 S2 ∨ P2 e2 S2)) ∨ ((∀ e2 S2,Z7x t lk body (l.map f) e S ≠ .go (.nx e2) S2)∧Q (Z7x t lk body (l.map f) e S))
  | [],e,S,h => .inl ⟨e,S,Y9m (hok _ _ _ h), .inl h⟩
  | a :: l,e,S,h=>by
    obtain ⟨e1,h1,h2⟩:=step a l e S h
    have u:Z7x t lk body ((a :: l).map f) e S=(match body e1 S with
      | .go (.nx e2) S2=>Z7x t lk body (l.map f) e2 S2
      | .go (.ct e2) S2=>Z7x t lk body (l.map f) e2 S2
      | .go (.bk e2) S2 => .go (.nx e2) S2
      | r=>r):=by
      show Z7x t lk body (f a :: l.map f) e S=_
      rw [Z7x,if_pos (hok _ _ _ h),h1]
      try rfl
    rw [u]
    unfold Fw at h2
    generalize hb:body e1 S=r at h2
    cases h2 with
    | nx h=>exact Z7y f I P2 hok step l _ _ h
    | ct h=>exact Z7y f I P2 hok step l _ _ h
    | bk h=>exact .inl ⟨_,_,rfl, .inr h⟩
    | rt h=>exact .inr ⟨fun _ _ q=>(nomatch q),h⟩
    | rp h=>exact .inr ⟨fun _ _ q=>(nomatch q),h⟩
    | err h=>exact .inr ⟨fun _ _ q=>(nomatch q),h⟩
theorem Fw.for_ {α:Type} {t:Tg} {it:MIt} {lk:Lk} {body:MS} {f:α→X} {l:List α} (hi:it e S = .ok (l.map f,lk) S1) (I:List α→Ev→Sto→Prop) (P2:Ev→Sto→Prop) (h0:I l e S1) (hok:∀ l e S,I l e S→lk.ok S=true)
    (step:∀ a l e S,I (a :: l) e S→∃ e1,t.asg S (f a) e=some e1∧Fw (body e1 S) (Trn (I l) P2 Q)) (fin:∀ e2 S2,I [] e2 S2 ∨ P2 e2 S2→Fw (k e2 S2) Q):Fw (Y4 (Z4p t it body) k e S) Q:=by
  have z:Z4p t it body e S=Z7x t lk body (l.map f) e S1:=X2i hi rfl
  rcases Z7y f I P2 hok step l e S1 h0 with ⟨e2,S2,h,h2⟩ | ⟨h,h2⟩
  · exact .seq (z.trans h) (fin e2 S2 h2)
  · rw [← z] at h h2
    refine Y8b ?_ h2
    unfold Y4
    cases q:Z4p t it body e S with
    | go o T=>cases o with
      | nx e2=>exact (h e2 T q).elim
      | _=>rfl
    | err C fs e T=>rfl
    | bad=>rfl
theorem Fw.forI {t:Tg} {it:MIt} {lk:Lk} {body:MS} (hi:it e S = .ok (xs,lk) S1) (I:Ev→Sto→Prop) (h0:I e S1) (hok:∀ e S,I e S→lk.ok S=true)
    (step:∀ x ∈ xs,∀ e S,I e S→∃ e1,t.asg S x e=some e1∧Fw (body e1 S) (Trn I I Q)) (fin:∀ e2 S2,I e2 S2→Fw (k e2 S2) Q):Fw (Y4 (Z4p t it body) k e S) Q:=by
  have hi':it e S = .ok (xs.map id,lk) S1:=by rw [List.map_id]; exact hi
  refine Fw.for_ hi' (fun l e S=>(∀ x ∈ l,x ∈ xs)∧I e S) I ⟨fun _ h=>h,h0⟩ (fun l e S h=>hok e S h.2) (fun a l e S h=>?_) fun e2 S2 h=>fin e2 S2 (h.elim (fun h=>h.2) id)
  obtain ⟨e1,h1,h2⟩:=step a (h.1 a (by simp)) e S h.2
  refine ⟨e1,h1,h2.mono fun r hr=>?_⟩
  cases hr with
  | nx q=>exact .nx ⟨fun x hx=>h.1 x (List.mem_cons_of_mem _ hx),q⟩
  | ct q=>exact .ct ⟨fun x hx=>h.1 x (List.mem_cons_of_mem _ hx),q⟩
  | bk q=>exact .bk q
  | rt q=>exact .rt q
  | rp q=>exact .rp q
  | err q=>exact .err q
theorem Z5u {N:Nat} {mb:MS} {ds:List D} {p:PR} (h:Fw (mb (ev0 N (ds.map .d)) []) (fun r=>Z3z r=p)):Z6v N mb ds=p:=h
theorem Z5w {α:Type} {f:α→D} {l:List α}:Z6y S (.d (.lst (l.map f)))=some (l.map (fun a=>X.d (f a)), .free):=by
  show some ((l.map f).map X.d,Lk.free)=_
  rw [List.map_map]
  rfl
end
end Bv
namespace Bv
open PySem PySem.Spec L2
open PyProof.Rows hiding St
variable [HasW]
def fl:Nat→D→Bool
  | _, .non=>true
  | _, .int _=>true
  | _, .str _=>true
  | n + 1, .tup ds=>ds.all (fl n)
  | n + 1, .lst ds=>ds.all (fl n)
  | _,_=>false
theorem Z4d {n:Nat} (ih:∀ d,fl n d=true→∃ p,d.py=some p∧p.depth ≤ n):∀ {ds:List D},ds.all (fl n)=true→∃ l,pys ds=some l∧PyData.depthAll l ≤ n
  | [],_=>⟨[],rfl,by simp [PyData.depthAll]⟩
  | d :: r,h=>by
    obtain ⟨h1,h2⟩:=Bool.and_eq_true_iff.mp (show (fl n d && r.all (fl n))=true from h)
    obtain ⟨p,e1,l1⟩:=ih d h1
    obtain ⟨l,e2,l2⟩:=Z4d ih h2
    refine ⟨p :: l,Z7l e1 e2,?_⟩
    simp only [PyData.depthAll]
    omega
theorem Z48:∀ {n:Nat} {d:D},fl n d=true→∃ p,d.py=some p∧p.depth ≤ n:=by
  intro n
  induction n with
  | zero =>
    intro d h
    cases d <;> first | (cases h; done) | exact ⟨_,rfl,by simp [PyData.depth]⟩
  | succ n ih =>
    intro d h
    cases d with
    | tup ds =>
      obtain ⟨l,e,hl⟩:=Z4d (fun d=>ih (d:=d)) (show ds.all (fl n)=true from h)
      exact ⟨_,Y2h e,by simp only [PyData.depth]; omega⟩
    | lst ds =>
      obtain ⟨l,e,hl⟩:=Z4d (fun d=>ih (d:=d)) (show ds.all (fl n)=true from h)
      exact ⟨_,Z9r e,by simp only [PyData.depth]; omega⟩
    | _=>first | (cases h; done) | exact ⟨_,rfl,by simp [PyData.depth]⟩
theorem Y23 {n:Nat} (ih:∀ {a b:D} {p q:PyData},fl n a=true→fl n b=true→a.py=some p→b.py=some q→PyData.eqv p q=decide (a=b)):∀ {as bs:List D} {l m:List PyData},as.all (fl n)=true→bs.all (fl n)=true→pys as=some l→pys bs=some m→PyData.eqvAll l m=decide (as=bs)
  | [],[],_,_,_,_,e1,e2=>by cases e1; cases e2; simp [PyData.eqvAll]
  | [],b :: bs,_,_,_,h2,e1,e2=>by
    cases e1
    obtain ⟨h3,h4⟩:=Bool.and_eq_true_iff.mp (show (fl n b && bs.all (fl n))=true from h2)
    obtain ⟨p,q1,_⟩:=Z48 h3
    obtain ⟨r,q2,_⟩:=Z4d (fun d=>Z48 (n:=n)) h4
    rw [Z7l q1 q2] at e2
    cases e2
    simp [PyData.eqvAll]
  | a :: as,[],_,_,h1,_,e1,e2=>by
    cases e2
    obtain ⟨h3,h4⟩:=Bool.and_eq_true_iff.mp (show (fl n a && as.all (fl n))=true from h1)
    obtain ⟨p,q1,_⟩:=Z48 h3
    obtain ⟨r,q2,_⟩:=Z4d (fun d=>Z48 (n:=n)) h4
    rw [Z7l q1 q2] at e1
    cases e1
    simp [PyData.eqvAll]
  | a :: as,b :: bs,_,_,h1,h2,e1,e2=>by
    obtain ⟨h3,h4⟩:=Bool.and_eq_true_iff.mp (show (fl n a && as.all (fl n))=true from h1)
    obtain ⟨h5,h6⟩:=Bool.and_eq_true_iff.mp (show (fl n b && bs.all (fl n))=true from h2)
    obtain ⟨p,q1,_⟩:=Z48 h3
    obtain ⟨r,q2,_⟩:=Z4d (fun d=>Z48 (n:=n)) h4
    obtain ⟨p',q3,_⟩:=Z48 h5
    obtain ⟨r',q4,_⟩:=Z4d (fun d=>Z48 (n:=n)) h6
    rw [Z7l q1 q2] at e1
    rw [Z7l q3 q4] at e2
    cases e1
    cases e2
    have x1:=ih h3 h5 q1 q3
    have x2:=Y23 ih h4 h6 q2 q4
    rw [PyData.eqvAll,x1,x2,Bool.eq_iff_iff]
    simp
theorem Y8o:∀ {n:Nat} {a b:D} {p q:PyData},fl n a=true→fl n b=true→a.py=some p→b.py=some q→PyData.eqv p q=decide (a=b):=by
  intro n
  induction n with
  | zero =>
    intro a b p q h1 h2 e1 e2
    cases a <;> cases b <;> first | (cases h1; done) | (cases h2; done) | (cases e1; cases e2; rw [Bool.eq_iff_iff]; simp [PyData.eqv])
  | succ n ih =>
    intro a b p q h1 h2 e1 e2
    cases a with
    | tup as =>
      obtain ⟨l,q1,_⟩:=Z4d (fun d=>Z48 (n:=n)) (show as.all (fl n)=true from h1)
      rw [Y2h q1] at e1
      cases e1
      cases b with
      | tup bs =>
        obtain ⟨m,q2,_⟩:=Z4d (fun d=>Z48 (n:=n)) (show bs.all (fl n)=true from h2)
        rw [Y2h q2] at e2
        cases e2
        rw [PyData.eqv,Y23 ih h1 h2 q1 q2,Bool.eq_iff_iff]
        simp
      | lst bs =>
        obtain ⟨m,q2,_⟩:=Z4d (fun d=>Z48 (n:=n)) (show bs.all (fl n)=true from h2)
        rw [Z9r q2] at e2
        cases e2
        rw [Bool.eq_iff_iff]; simp [PyData.eqv]
      | _=>first | (cases h2; done) | (cases e2; rw [Bool.eq_iff_iff]; simp [PyData.eqv])
    | lst as =>
      obtain ⟨l,q1,_⟩:=Z4d (fun d=>Z48 (n:=n)) (show as.all (fl n)=true from h1)
      rw [Z9r q1] at e1
      cases e1
      cases b with
      | tup bs =>
        obtain ⟨m,q2,_⟩:=Z4d (fun d=>Z48 (n:=n)) (show bs.all (fl n)=true from h2)
        rw [Y2h q2] at e2
        cases e2
        rw [Bool.eq_iff_iff]; simp [PyData.eqv]
      | lst bs =>
        obtain ⟨m,q2,_⟩:=Z4d (fun d=>Z48 (n:=n)) (show bs.all (fl n)=true from h2)
        rw [Z9r q2] at e2
        cases e2
        rw [PyData.eqv,Y23 ih h1 h2 q1 q2,Bool.eq_iff_iff]
        simp
      | _=>first | (cases h2; done) | (cases e2; rw [Bool.eq_iff_iff]; simp [PyData.eqv])
    | _ =>
      first
      | (cases h1; done)
      | (cases b with
        | tup bs =>
          obtain ⟨m,q2,_⟩:=Z4d (fun d=>Z48 (n:=n)) (show bs.all (fl n)=true from h2)
          rw [Y2h q2] at e2
          cases e1; cases e2
          rw [Bool.eq_iff_iff]; simp [PyData.eqv]
        | lst bs =>
          obtain ⟨m,q2,_⟩:=Z4d (fun d=>Z48 (n:=n)) (show bs.all (fl n)=true from h2)
          rw [Z9r q2] at e2
          cases e1; cases e2
          rw [Bool.eq_iff_iff]; simp [PyData.eqv]
        | _=>first | (cases h2; done) | (cases e1; cases e2; rw [Bool.eq_iff_iff]; simp [PyData.eqv]))
theorem X24 {n:Nat} {a b:D} (h1:fl n a=true) (h2:fl n b=true) (hn:n ≤ 64):eqD a b=some (.bl (decide (a=b))):=by
  obtain ⟨p,e1,d1⟩:=Z48 h1
  obtain ⟨q,e2,d2⟩:=Z48 h2
  rw [X25 e1 e2 (by omega) (by omega),Y8o h1 h2 e1 e2]
theorem X1v {n:Nat} {a b:D} (h1:fl n a=true) (h2:fl n b=true) (hn:n ≤ 64):neD a b=some (.bl (!decide (a=b))):=by
  obtain ⟨p,e1,d1⟩:=Z48 h1
  obtain ⟨q,e2,d2⟩:=Z48 h2
  rw [X1w e1 e2 (by omega) (by omega),Y8o h1 h2 e1 e2]
theorem Y6h {n:Nat} {a:D} (h1:fl n a=true) (hn:n ≤ 64):neD a a=some (.bl false):=by
  rw [X1v h1 h1 hn]
  simp
theorem eq_self {n:Nat} {a:D} (h1:fl n a=true) (hn:n ≤ 64):eqD a a=some (.bl true):=by
  rw [X24 h1 h1 hn]
  simp
theorem X2a {ns:List Int} {lo hi:Nat} {e:Ev} {S:Sto} (h1:lo < 100:=by decide) (h2:hi < 100:=by decide):Z4g (Z0 (Z8 (Z0r Z4h) (Z0 (m_c (.int lo)) (Z0 (Z8 (Z0r Z4j) (Z0 (m_c (.int hi)) (Z0 (Z8 Z0u (Z0 (Z1 0) (Z6))) (Z6)))) (Z6)))) (Z6)) (some (.d (.scr ns)) :: e) S = .ok (Bv.upTo 0 (max lo (min hi ns.length)), .free) S:=by
  refine Z6g (n:=(max lo (min hi ns.length):Nat)) ?_ (Z3f (by omega))
  have hv:((max lo (min hi ns.length):Nat):Int)=if (if (ns.length:Int) < hi then (ns.length:Int) else hi) > lo then (if (ns.length:Int) < hi then (ns.length:Int) else hi) else lo:=by omega
  rw [hv]
  simp [ev0,Y4,Z0l,W5,V2,W0,Z0t,X8,Z0b,V4,U6,Z1s,Z0w,Z00,Z0c,V6,Y1,Q5,Z1,m_c,Z8,Z0,Z6,W8,U2,W9,V7,W2,Z2z,Y3,Y9,Z0s,Z26,W7,V8,X9,Z0i,Z3j,Z1r,Z4s,X5,V0,R.bind,R.so,RO.then,items,ixO,ixD,Z23,Z2o,op2,X.get,tb,Z03,Z02,Z1b,Z0v,slX,V3,Q4,X6,X7,Z39,Z3z,Z0y,Z3u,Z3g,Z3t,Z3h,Z0u,Z3i,Z4r,Z0r,ints?,Z33,Z4j,Z4h,ds?,gets,callP,X.isD,D.noL,D.noLs,D.noLf,U9,Z01,Z1a,Z1n,Z4m,Z4o,Z4n,Z4y]
end Bv
namespace Le
open Lw
open PySem PySem.Spec L2 Bv
open PyProof.Rows hiding St
variable [HasW]
theorem i_rng2_ok {ms:MG (List X)} {e:Ev} {S S1:Sto} {i n:Int} (h:ms e S = .ok [.d (.int i), .d (.int n)] S1) (hs:Z4v i=true) (hn:Z4v n=true):Y0m ms e S = .ok (Bv.upTo i (n - i).toNat, .free) S1:=by
  unfold Y0m
  rw [h]
  have e1:Y76 [.d (.int i), .d (.int n)]=if Z4v i && Z4v n then some (Bv.upTo i (n - i).toNat, .free) else none:=rfl
  show Z2o (Y76 [.d (.int i), .d (.int n)]) S1=_
  rw [e1,hs,hn]
  rfl
theorem ne_nil_fl {l:List D} (h:l.all (fl 1)=true):neD (.lst l) (.lst [])=some (.bl (!decide (l=[]))):=by
  rw [X1v (n:=2) (a := .lst l) (b := .lst []) h rfl (by decide)]
  by_cases c:l=[]
  · rw [c,decide_eq_true rfl,decide_eq_true rfl]
  · rw [decide_eq_false c,decide_eq_false fun z=>c (by injection z)]
theorem ev_notg {mt:MG Bool} {e:Ev} {S S1:Sto} {b:Bool} (h:mt e S = .ok b S1):X9 mt e S = .ok (!b) S1:=by
  cases b with
  | true=>exact Z1p h
  | false=>exact Z4c h
abbrev Wd:=List (List Str)
def headB (h:Str):List Str→Bool
  | []=>false
  | w :: r=>decide (w=h) && (r.all nm && !(decide (h = "marks") && r.isEmpty))
structure Wl (W:Wd):Prop where
  ne:W ≠ []
  len:W.length ≤ 11
  ws:∀ w ∈ W,Ws w∧w.length ≤ 5
def lns (W:Wd):List Str:=W.map txt
def gW (W:Wd) (i:Nat):List Str:=W.getD i []
def wrd (W:Wd) (i:Nat):List Str:=if i < W.length then gW W i else [""]
def badR (W:Wd):List Nat:=(List.range (W.length - 3)).filter fun j => !rowQ (gW W (3 + j))
def firstBad (W:Wd):Option Nat:=if headB "marks" (gW W 0)=false then some 0 else if headB "shown" (gW W 1)=false then some 1 else if headB "asked" (gW W 2)=false then some 2 else (badR W).head?.map (3 + ·)
def HL:List (Nat × Str):=[(0, "marks"),(1, "shown"),(2, "asked")]
section
variable {W:Wd} {i:Nat} {h:Str} {ws:List Str} {T:Sto} {done r:List (Nat × Str)} {p:Nat × Str}
theorem emp_ws:Ws [""]∧([""]:List Str).length ≤ 5:=⟨⟨by simp,by simp,fun z hz=>by rw [List.mem_singleton.mp hz]; decide +kernel⟩,by simp⟩
theorem gW_at (hi:i < W.length):W[i]?=some (gW W i)∧gW W i ∈ W:=by
  have e:gW W i=W[i]:=by simp [gW,List.getD,hi]
  exact ⟨by rw [e]; exact List.getElem?_eq_getElem hi,by rw [e]; exact List.getElem_mem hi⟩
theorem gW_out (hi:¬ i < W.length):gW W i=[]:=by simp [gW,List.getD,Nat.not_lt.mp hi]
theorem wrd_ws (hW:Wl W):Ws (wrd W i)∧(wrd W i).length ≤ 5:=by
  unfold wrd
  split
  · rename_i hi
    exact hW.ws _ (gW_at hi).2
  · exact emp_ws
theorem head_wrd (hh:h ∈ (["marks", "shown", "asked"]:List Str)):headB h (wrd W i)=headB h (gW W i):=by
  unfold wrd
  split
  · rfl
  · rename_i hi
    rw [gW_out hi]
    have:("" : Str) ≠ h:=fun z=>by
      rw [← z] at hh
      exact absurd hh (by decide +kernel)
    show (decide ("" = h) && _)=false
    rw [decide_eq_false this]
    rfl
theorem HL_in (hd:done++p :: r=HL):p ∈ HL:=by rw [← hd]; simp
theorem HL_head (hp:p ∈ HL):p.2 ∈ (["marks", "shown", "asked"]:List Str)∧p.1 < 3∧(p.2 = "marks" ↔ p.1=0):=by
  have n1:("shown" : Str) ≠ "marks" ∧ ("asked" : Str) ≠ "marks" := by decide +kernel
  simp only [HL,List.mem_cons,List.not_mem_nil,or_false] at hp
  rcases hp with rfl | rfl | rfl
  · exact ⟨by simp,by decide,by simp⟩
  · exact ⟨by simp,by decide,⟨fun z=>absurd z n1.1,fun z=>by cases z⟩⟩
  · exact ⟨by simp,by decide,⟨fun z=>absurd z n1.2,fun z=>by cases z⟩⟩
theorem fb_at (hd:done++p :: r=HL) (ok:∀ q ∈ done,headB q.2 (gW W q.1)=true) (hf:headB p.2 (gW W p.1)=false):firstBad W=some p.1:=by
  unfold firstBad
  match done,hd with
  | [],hd =>
    have e:p=(0,("marks" : Str)):=(List.cons.inj hd).1
    subst e
    rw [if_pos hf]
  | [a],hd =>
    have e1:=(List.cons.inj hd).1
    have e2:=(List.cons.inj (List.cons.inj hd).2).1
    subst e1 e2
    rw [if_neg (by rw [ok (0,("marks" : Str)) (by simp)]; simp),if_pos hf]
  | [a,b],hd =>
    have e1:=(List.cons.inj hd).1
    have e2:=(List.cons.inj (List.cons.inj hd).2).1
    have e3:=(List.cons.inj (List.cons.inj (List.cons.inj hd).2).2).1
    subst e1 e2 e3
    rw [if_neg (by rw [ok (0,("marks" : Str)) (by simp)]; simp),if_neg (by rw [ok (1,("shown" : Str)) (by simp)]; simp),if_pos hf]
  | a :: b :: c :: d,hd =>
    have:=congrArg List.length hd
    simp [HL] at this
theorem fb_end (ok:∀ q ∈ HL,headB q.2 (gW W q.1)=true):firstBad W=(badR W).head?.map (3 + ·):=by
  unfold firstBad
  rw [if_neg (by rw [ok (0, "marks") (by simp [HL])]; simp),if_neg (by rw [ok (1, "shown") (by simp [HL])]; simp),if_neg (by rw [ok (2, "asked") (by simp [HL])]; simp)]
theorem lns_ix (hi:i < W.length):ixO T (.d (tls (lns W))) (i:Int)=some (.d (.str (txt (gW W i)))):=by
  have h1:(items T (.d (tls (lns W))))=some (((lns W).map D.str).map X.d):=rfl
  unfold ixO
  rw [h1]
  show atI (((lns W).map D.str).map X.d) (i:Int)=_
  unfold atI ixN
  rw [if_pos (by omega:(0:Int) ≤ (i:Int)),if_pos (by rw [List.length_map,List.length_map]; unfold lns; rw [List.length_map]; omega),Option.bind_some]
  unfold lns
  rw [Int.toNat_natCast,List.getElem?_map,List.getElem?_map,List.getElem?_map,(gW_at hi).1]
  rfl
theorem len_lns:Z0u [.d (tls (lns W))] T = .ok (.d (.int W.length)) T:=by
  rw [len_tls]
  unfold lns
  rw [List.length_map]
theorem ix0w {w:Str} {l:List Str}:ixO T (.d (tls (w :: l))) 0=some (.d (.str w)):=by simp [ixO,tls,items,atI,ixN]
theorem sl1 {w:Str} {l:List Str}:slX T (.d (tls (w :: l))) (some 1) none=some (.d (tls l)):=by
  show some (X.d (.lst (Z3s (D.str w :: l.map D.str) (some 1) none)))=_
  rw [Lt.cutL_one]
  rfl
end
section
variable {W:Wd}
abbrev evF (W:Wd) (o1 o2 o3 o4 o5 o6:Option X):Ev:=[some (.d (tls (lns W))),o1,o2,o3,o4,o5,o6]
def optI:Option Nat→D
  | none => .non
  | some i => .int (i:Nat)
theorem first_bad_run (hW:Wl W):g__law_first_bad [tls (lns W)] = .ok (optI (firstBad W)):=by
  have hl:=hW.len
  refine Z5u ?_
  unfold Z3v
  have hi0:∀ {e:Ev},Z8m (Z0 (U2 (Z0 (m_c (.str "marks")) (Z0 (m_c (.str "shown")) (Z0 (m_c (.str "asked")) (Z6))))) (Z6)) e [] = .ok (HL.map fun p=>X.d (.tup [.int (p.1:Nat), .str p.2]), .free) []:=fun {e}=>by rfl
  refine Fw.for_ (l:=HL) (f:=fun p:Nat × Str=>X.d (.tup [.int (p.1:Nat), .str p.2])) (lk := .free) (S1:=[]) hi0 (fun r e T=>∃ done o1 o2 o3 o4 o5 o6,done++r=HL∧(∀ q ∈ done,headB q.2 (gW W q.1)=true)∧e=evF W o1 o2 o3 o4 o5 o6∧T=[]) (fun _ _=>False) ⟨[],_,_,_,_,_,_,rfl,fun _ h=>absurd h List.not_mem_nil,rfl,rfl⟩ (fun _ _ _ _=>rfl) (fun p r e T ⟨done,o1,o2,o3,o4,o5,o6,hd,ok,he,hT⟩=>?_) fun e T hor=>?_
  · subst he hT
    refine ⟨evF W (some (.d (.int (p.1:Nat)))) (some (.d (.str p.2))) o3 o4 o5 o6,rfl,?_⟩
    obtain ⟨hh,hp3,hm0⟩:=HL_head (HL_in hd)
    obtain ⟨hws,hw5⟩:=wrd_ws (W:=W) (i:=p.1) hW
    have hb:=head_wrd (W:=W) (i:=p.1) hh
    have h4:Z26 (V6 (Y1 ltD (Z1 1) (Z8 Z0u (Z0 (Z1 0) (Z6))))) (Z1e Z1q (Q5 (Z1 0) (Z1 1)) (m_c (.str " "))) (W9 (Z0 (m_c (.str "")) (Z6))) (evF W (some (.d (.int (p.1:Nat)))) (some (.d (.str p.2))) o3 o4 o5 o6) [] = .ok (.d (tls (wrd W p.1))) []:=by
      unfold wrd
      by_cases c:p.1 < W.length
      · rw [if_pos c]
        exact Y11 (W4 (Y6 (Z5 rfl) (X4 (Z7 (Z5 rfl) Y5) len_lns) Z9 Z9 (by rw [Z4n,decide_eq_true (show ((p.1:Nat):Int) < (W.length:Nat) by omega)]))) (Z6e (Z0n (Z5 rfl) (Z5 rfl) (lns_ix c)) W1 (hW.ws _ (gW_at c).2).1.gsplit)
      · rw [if_neg c]
        exact Y0i (W4 (Y6 (Z5 rfl) (X4 (Z7 (Z5 rfl) Y5) len_lns) Z9 Z9 (by rw [Z4n,decide_eq_false (show ¬ ((p.1:Nat):Int) < (W.length:Nat) by omega)]))) (Z27 (ds:=[.str ""]) (Z7 W1 Y5) rfl (hz4 (by simp)))
    refine Fw.set h4 ?_
    cases q:wrd W p.1 with
    | nil=>exact absurd q hws.ne
    | cons w l =>
      rw [q] at hws hw5 hb
      have hlm:∀ z ∈ l,z ∈ BW:=fun z hz=>hws.mem z (List.mem_cons_of_mem _ hz)
      have lc:=Z9k (t := .nm 6) (mi:=Q8 (Y3 (Z1 4) (Y9 (m_c (.int 1))) (Z0s))) (mt:=X9 (X5 (Z8 (X6 1 (X7 [] (callP g__law_name))) (Z0 (Z1 6) (Z6))))) (me:=Z1 6) (vs:=[6]) (e:=evF W (some (.d (.int (p.1:Nat)))) (some (.d (.str p.2))) o3 (some (.d (tls (w :: l)))) o5 o6) (S:=[]) (fun s:Str=>X.d (.str s)) (fun s=>D.str s) (fun s => !nm s) (l:=l) (Z2y (Z0p (Z5 rfl) (Z1c W1) Z4x sl1) (Z5w (f:=D.str))) (hz4 (by simp at hw5; omega)) fun s hs=>⟨_,rfl,ev_notg (V5 (X4 (Z7 (Z5 rfl) Y5) (U4 rfl (Z47 (bw_lname (hlm s hs))))) rfl),fun _=>Z5 rfl⟩
      refine Fw.set (x := .d (tls (l.filter fun s => !nm s))) lc ?_
      have n1:neD (.str w) (.str p.2)=some (.bl (!decide (w=p.2))):=Z74
      have n2:neD (tls (l.filter fun s => !nm s)) (.lst [])=some (.bl (!decide (l.filter (fun s => !nm s)=[]))):=Y3d (b:=[])
      have hall:(l.filter (fun s => !nm s)=[]) ↔ l.all nm=true:=by
        rw [List.filter_eq_nil_iff,List.all_eq_true]
        exact ⟨fun h s hs=>by simpa using h s hs,fun h s hs=>by simp [h s hs]⟩
      have hbv:headB p.2 (gW W p.1)=(decide (w=p.2) && (l.all nm && !(decide (p.2 = "marks") && l.isEmpty))):=hb.symm
      by_cases c1:w=p.2∧l.all nm=true
      · rw [decide_eq_true c1.1] at n1
        rw [decide_eq_true (hall.mpr c1.2)] at n2
        refine Fw.if_ (b:=false) (Z1x (W4 (Y6 (Z0n (Z5 rfl) W1 ix0w) (Z5 rfl) Z9 Z9 n1)) (W4 (Y6 (Z5 rfl) (Z27 (ds:=[]) Y5 rfl (hz4 (by simp))) Z9 Z9 n2))) (Fw.iff (Fw.seqNil ?_))
        rw [decide_eq_true c1.1,c1.2,Bool.true_and,Bool.true_and] at hbv
        by_cases c0:p.1=0
        · have e0:eqD (.int (p.1:Nat)) (.int 0)=some (.bl true):=by rw [Z6d,decide_eq_true (by omega)]
          by_cases cl:l=[]
          · have hf:headB p.2 (gW W p.1)=false:=by rw [hbv,decide_eq_true (hm0.mpr c0),cl]; rfl
            refine Fw.one (Fw.if_ (b:=true) (Z12 (W4 (Y6 (Z5 rfl) W1 Z9 Z9 e0)) (W4 (Y6 (X4 (Z7 (Z5 rfl) Y5) len_tls) W1 Z9 Z9 (by rw [Z6d,cl]; rfl)))) (Fw.ift (Fw.retP W1 Z9 (.rp ?_))))
            rw [fb_at hd ok hf,c0]
            rfl
          · have hl0:(l.length:Int) + 1 ≠ 1:=by
              have:=List.length_pos_iff.mpr cl
              omega
            refine Fw.one (Fw.if_ (b:=false) (Z12 (W4 (Y6 (Z5 rfl) W1 Z9 Z9 e0)) (W4 (Y6 (X4 (Z7 (Z5 rfl) Y5) len_tls) W1 Z9 Z9 (by rw [Z6d,decide_eq_false (by rw [List.length_cons]; omega)])))) (Fw.iff (Fw.seqNil (Fw.nil (.nx ⟨done++[p],_,_,_,_,_,_,by rw [List.append_assoc]; exact hd,fun q hq=>?_,rfl,rfl⟩)))))
            rcases List.mem_append.mp hq with hq | hq
            · exact ok q hq
            · rw [List.mem_singleton.mp hq,hbv]
              cases l with
              | nil=>exact absurd rfl cl
              | cons a b=>simp
        · have e0:eqD (.int (p.1:Nat)) (.int 0)=some (.bl false):=by rw [Z6d,decide_eq_false (by omega)]
          refine Fw.one (Fw.if_ (b:=false) (Z4a (W4 (Y6 (Z5 rfl) W1 Z9 Z9 e0))) (Fw.iff (Fw.seqNil (Fw.nil (.nx ⟨done++[p],_,_,_,_,_,_,by rw [List.append_assoc]; exact hd,fun q hq=>?_,rfl,rfl⟩)))))
          rcases List.mem_append.mp hq with hq | hq
          · exact ok q hq
          · rw [List.mem_singleton.mp hq,hbv,decide_eq_false (fun z=>c0 (hm0.mp z))]
            rfl
      · have hf:headB p.2 (gW W p.1)=false:=by
          rw [hbv]
          by_cases a:w=p.2
          · have:l.all nm=false:=by
              cases z:l.all nm with
              | true=>exact absurd ⟨a,z⟩ c1
              | false=>rfl
            rw [this]
            simp
          · rw [decide_eq_false a]
            rfl
        have ht:V8 (V6 (Y1 neD (Q5 (Z1 4) (m_c (.int 0))) (Z1 2))) (V6 (Y1 neD (Z1 5) (W9 (Z6)))) (evF W (some (.d (.int (p.1:Nat)))) (some (.d (.str p.2))) o3 (some (.d (tls (w :: l)))) (some (.d (tls (l.filter fun s => !nm s)))) o6) [] = .ok true []:=by
          by_cases a:w=p.2
          · rw [decide_eq_true a] at n1
            have:¬ (l.filter (fun s => !nm s)=[]):=fun z=>c1 ⟨a,hall.mp z⟩
            rw [decide_eq_false this] at n2
            exact Z1x (W4 (Y6 (Z0n (Z5 rfl) W1 ix0w) (Z5 rfl) Z9 Z9 n1)) (W4 (Y6 (Z5 rfl) (Z27 (ds:=[]) Y5 rfl (hz4 (by simp))) Z9 Z9 n2))
          · rw [decide_eq_false a] at n1
            exact Z50 (W4 (Y6 (Z0n (Z5 rfl) W1 ix0w) (Z5 rfl) Z9 Z9 n1))
        refine Fw.if_ (b:=true) ht (Fw.ift (Fw.retP (Z5 rfl) Z9 (.rp ?_)))
        rw [fb_at hd ok hf]
        rfl
  · obtain ⟨done,o1,o2,o3,o4,o5,o6,hd,ok,rfl,rfl⟩:=hor.resolve_right id
    rw [List.append_nil] at hd
    subst hd
    have ln3:3 ≤ W.length:=by
      have:=ok (2, "asked") (by simp [HL])
      rcases Nat.lt_or_ge 2 W.length with c | c
      · exact c
      · rw [gW_out (by show ¬ 2 < W.length; omega)] at this
        cases this
    have hi:Y0m (Z0 (m_c (.int 3)) (Z0 (Z8 Z0u (Z0 (Z1 0) (Z6))) (Z6))) (evF W o1 o2 o3 o4 o5 o6) [] = .ok ((List.range (W.length - 3)).map fun j:Nat=>X.d (.int (3 + (j:Int))), .free) []:=by
      have:=i_rng2_ok (i:=3) (n:=(W.length:Nat)) (S:=[]) (S1:=[]) (e:=evF W o1 o2 o3 o4 o5 o6) (ms:=Z0 (m_c (.int 3)) (Z0 (Z8 Z0u (Z0 (Z1 0) (Z6))) (Z6))) (Z7 W1 (Z7 (X4 (Z7 (Z5 rfl) Y5) len_lns) Y5)) (Z3f (n:=3) (by decide)) (Z3f (by omega))
      rw [show ((W.length:Nat):Int) - 3=((W.length - 3:Nat):Int) by omega,Int.toNat_natCast] at this
      exact this
    have lc:=Z9k (t := .nm 1) (mi:=Y0m (Z0 (m_c (.int 3)) (Z0 (Z8 Z0u (Z0 (Z1 0) (Z6))) (Z6)))) (mt:=X9 (X5 (Z8 (X6 1 (X7 [] (callP g__law_is_row))) (Z0 (Q5 (Z1 0) (Z1 1)) (Z6))))) (me:=Z1 1) (vs:=[1]) (e:=evF W o1 o2 o3 o4 o5 o6) (S:=[]) (fun j:Nat=>X.d (.int (3 + (j:Int)))) (fun j=>D.int (3 + (j:Int))) (fun j => !rowQ (gW W (3 + j))) (l:=List.range (W.length - 3)) hi (hz4 (by rw [List.length_range]; omega)) fun j hj=>by
      have hj3:3 + j < W.length:=by have:=List.mem_range.mp hj; omega
      have ix:=lns_ix (T:=[]) hj3
      rw [show ((3 + j:Nat):Int)=3 + (j:Int) by omega] at ix
      exact ⟨_,rfl,ev_notg (V5 (X4 (Z7 (Z0n (Z5 rfl) (Z5 rfl) ix) Y5) (U4 rfl (Z47 (is_row_ok (hW.ws _ (gW_at hj3).2).1)))) rfl),fun _=>Z5 rfl⟩
    refine Fw.set (x := .d (.lst ((badR W).map fun j:Nat=>D.int (3 + (j:Int))))) lc ?_
    rw [fb_end ok]
    cases q:badR W with
    | nil =>
      have n0:neD (.lst ((([]:List Nat).map fun j:Nat=>D.int (3 + (j:Int))))) (.lst [])=some (.bl false):=by rfl
      exact Fw.one (Fw.retP (Y0i (W4 (Y6 (Z5 rfl) (Z27 (ds:=[]) Y5 rfl (hz4 (by simp))) Z9 Z9 n0)) W1) Z9 rfl)
    | cons j r =>
      have n0:neD (.lst (((j :: r).map fun j:Nat=>D.int (3 + (j:Int))))) (.lst [])=some (.bl true):=by
        exact ne_nil_fl (List.all_eq_true.mpr fun d hd=>by
          obtain ⟨x,_,rfl⟩:=List.mem_map.mp hd
          rfl)
      refine Fw.one (Fw.retP (Y11 (W4 (Y6 (Z5 rfl) (Z27 (ds:=[]) Y5 rfl (hz4 (by simp))) Z9 Z9 n0)) (Z0n (x := .d (.lst ((j :: r).map fun j:Nat=>D.int (3 + (j:Int))))) (z := .d (.int (3 + (j:Int)))) (Z5 rfl) W1 (by simp [ixO,items,atI,ixN]))) Z9 ?_)
      show PR.ok (D.int (3 + (j:Int)))=PR.ok (.int ((3 + j:Nat):Int))
      rw [show ((3 + j:Nat):Int)=3 + (j:Int) by omega]
end
end Le
namespace Le
open Lw
open PySem PySem.Spec L2 Bv
open PyProof.Rows hiding St
variable [HasW]
theorem saw_full:∀ {xs acc:List Str},acc.Nodup→(xs.foldl Z2m acc).length=acc.length + xs.length→(acc++xs).Nodup
  | [],acc,h,_=>by simpa using h
  | y :: r,acc,h,e=>by
    rw [List.foldl_cons] at e
    by_cases c:y ∈ acc
    · have s:Z2m acc y=acc:=by
        unfold Z2m
        rw [if_pos (by simpa using c)]
      rw [s] at e
      have:=Z9u r acc
      rw [List.length_cons] at e
      omega
    · have s:Z2m acc y=acc++[y]:=by
        unfold Z2m
        rw [if_neg (by simpa using c)]
      rw [s] at e
      have h2:(acc++[y]).Nodup:=List.nodup_append.mpr ⟨h,by simp,fun a ha b hb e=>c (by rw [List.mem_singleton.mp hb] at e; rw [← e]; exact ha)⟩
      have:=saw_full (xs:=r) h2 (by rw [e,List.length_append,List.length_cons,List.length_cons,List.length_nil]; omega)
      rwa [List.append_assoc] at this
theorem saw_lt {xs:List Str}:(Z4q xs).length < xs.length ↔ ¬ xs.Nodup:=by
  constructor
  · intro h n
    rw [Lt.sawn_nodup n] at h
    omega
  · intro n
    have h:=Z9u xs []
    rw [List.length_nil,Nat.zero_add] at h
    have h:(Z4q xs).length ≤ xs.length:=h
    rcases Nat.lt_or_eq_of_le h with h | h
    · exact h
    · exact absurd (by simpa using saw_full (xs:=xs) (acc:=[]) List.nodup_nil (by rw [List.length_nil,Nat.zero_add]; exact h)) n
def rowOf:List Str→Lt.RowQ
  | [a,b,c,_,d]=>(a,b,d,decide (c = "take"))
  | [a,b,_,d]=>(a,b,d,true)
  | _=>("", "", "",true)
theorem row_form {ws:List Str} (hm:∀ z ∈ ws,z ∈ BW) (h:rowQ ws=true):∃ (a b d:Str) (k:Bool),outQ ws = .ok (rowD a b d k)∧ws=wordsR a b d k∧fourQ a b d=true∧(a = "give" ∨ k=true)∧rowOf ws=(a,b,d,k):=by
  match ws with
  | a :: l =>
    by_cases hg:a = "give"
    · have e1:rowQ (a :: l)=rowB a l:=if_pos hg
      by_cases h5:l.length=4
      · obtain ⟨b,c,d,e,rfl⟩:=four h5
        have e2:rowQ [a,b,c,d,e]=(decide (c = "take" ∨ c = "keep") && tailQ [a,b,d,e]):=if_pos hg
        have h':=h
        rw [e2] at h'
        obtain ⟨q1,q2⟩:=Bool.and_eq_true_iff.mp h'
        obtain ⟨q3,q4⟩:=Bool.and_eq_true_iff.mp (show (decide (d = "to") && fourQ a b e)=true from q2)
        have q1:=of_decide_eq_true q1
        have q3:=of_decide_eq_true q3
        refine ⟨a,b,e,decide (c = "take"),?_,?_,q4, .inl hg,rfl⟩
        · unfold outQ
          rw [h]
          rfl
        · unfold wordsR
          rw [if_pos hg,q3]
          rcases q1 with q | q
          · rw [q]; rfl
          · have:¬ (c = "take"):=by rw [q]; decide +kernel
            rw [decide_eq_false this,q]; rfl
      · rw [e1,rowB_no h5] at h; cases h
    · have e1:rowQ (a :: l)=tailQ (a :: l):=if_neg hg
      by_cases h4:(a :: l).length=4
      · obtain ⟨a2,b,c,d,e⟩:=four h4
        cases e
        have h':=h
        rw [e1] at h'
        obtain ⟨q3,q4⟩:=Bool.and_eq_true_iff.mp (show (decide (c = "to") && fourQ a b d)=true from h')
        have q3:=of_decide_eq_true q3
        refine ⟨a,b,d,true,?_,?_,q4, .inr rfl,rfl⟩
        · unfold outQ
          rw [h]
          rfl
        · unfold wordsR
          rw [if_neg hg,q3]
      · rw [e1,tailQ_no h4] at h; cases h
def wrongL (ml sl al:List Str) (R:List Lt.RowQ):Option Str :=
  if ¬ ml.Nodup then some "marks"
  else if ¬ sl.Nodup ∨ (sl.all fun s=>decide (s ∈ ml.tail))=false then some "shown"
  else if ¬ al.Nodup ∨ (al.all fun s=>decide (s ∈ ml))=false then some "asked"
  else if R.all (Lt.fitM ml)=false then some "mark"
  else if R.any (Lt.blankQ (ml.headD ""))=true then some "blank" else none
structure Hl (W:Wd):Prop extends Wl W where
  three:3 ≤ W.length
  h0:headB "marks" (gW W 0)=true
  h1:headB "shown" (gW W 1)=true
  h2:headB "asked" (gW W 2)=true
  rows:∀ w ∈ W.drop 3,rowQ w=true
def mlW (W:Wd):List Str:=(gW W 0).tail
def slW (W:Wd):List Str:=(gW W 1).tail
def alW (W:Wd):List Str:=(gW W 2).tail
def rsW (W:Wd):List Lt.RowQ:=(W.drop 3).map rowOf
def wrongW (W:Wd):Option Str:=wrongL (mlW W) (slW W) (alW W) (rsW W)
section
variable {W:Wd} {T:Sto}
theorem take3 (h:3 ≤ W.length):W.take 3=[gW W 0,gW W 1,gW W 2]:=by
  match W,h with
  | a :: b :: c :: r,_=>rfl
theorem head_form {h:Str} {ws:List Str} (hb:headB h ws=true):∃ l,ws=h :: l∧l.all nm=true∧ws.tail=l:=by
  cases ws with
  | nil=>cases hb
  | cons w r =>
    obtain ⟨h1,h2⟩:=Bool.and_eq_true_iff.mp (show (decide (w=h) && (r.all nm && !(decide (h = "marks") && r.isEmpty)))=true from hb)
    rw [of_decide_eq_true h1]
    exact ⟨r,rfl,(Bool.and_eq_true_iff.mp h2).1,rfl⟩
theorem marks_form {ws:List Str} (hb:headB "marks" ws=true):ws.tail ≠ []:=by
  cases ws with
  | nil=>cases hb
  | cons w r =>
    have h2:=(Bool.and_eq_true_iff.mp (Bool.and_eq_true_iff.mp (show (decide (w = "marks") && (r.all nm && !(decide (("marks" : Str) = "marks") && r.isEmpty)))=true from hb)).2).2
    rw [decide_eq_true rfl,Bool.true_and] at h2
    intro z
    have z:r=[]:=z
    rw [z] at h2
    cases h2
theorem cut_to {α:Type} {xs:List α} {k:Nat}:Z3s xs none (some (k:Int))=xs.take k:=by
  unfold Z3s
  simp only [HT.sIx]
  rw [if_neg (by omega),List.drop_zero,Int.toNat_natCast,Nat.sub_zero]
  by_cases h:k ≤ xs.length
  · rw [Nat.min_eq_left h]
  · rw [Nat.min_eq_right (by omega),List.take_of_length_le (Nat.le_refl _),List.take_of_length_le (by omega)]
theorem cut_from {α:Type} {xs:List α} {k:Nat}:Z3s xs (some (k:Int)) none=xs.drop k:=by
  unfold Z3s
  simp only [HT.sIx]
  rw [if_neg (by omega),Int.toNat_natCast]
  by_cases h:k ≤ xs.length
  · rw [Nat.min_eq_left h,List.take_of_length_le (by rw [List.length_drop]; omega)]
  · rw [Nat.min_eq_right (by omega),List.drop_of_length_le (Nat.le_refl _),List.drop_of_length_le (by omega:xs.length ≤ k),List.take_nil]
theorem sl_fromW {ws:List Str} {k:Nat}:slX T (.d (tls ws)) (some (k:Int)) none=some (.d (tls (ws.drop k))):=by
  show some (X.d (.lst (Z3s (ws.map D.str) (some (k:Int)) none)))=_
  rw [cut_from,← List.map_drop]
  rfl
theorem sl_toW {ws:List Str} {k:Nat}:slX T (.d (tls ws)) none (some (k:Int))=some (.d (tls (ws.take k))):=by
  show some (X.d (.lst (Z3s (ws.map D.str) none (some (k:Int)))))=_
  rw [cut_to,← List.map_take]
  rfl
theorem lns_take {k:Nat}:(lns W).take k=(W.take k).map txt:=by unfold lns; rw [List.map_take]
theorem lns_drop {k:Nat}:(lns W).drop k=(W.drop k).map txt:=by unfold lns; rw [List.map_drop]
theorem nin_lstW {s:Str} {ss:List Str}:Z8s (.str s) (tls ss)=some (.bl (!decide (s ∈ ss))):=by
  have h:inD (.str s) (tls ss)=some (.bl (decide (s ∈ ss))):=Y52
  unfold inD at h
  unfold Z8s
  obtain ⟨c,h1,h2⟩:=Option.map_eq_some_iff.mp h
  rw [h1]
  injection h2 with h2
  rw [Option.map_some,← h2]
theorem filt_nin {l m:List Str}:(l.filter (fun s => !decide (s ∈ m))=[]) ↔ (l.all fun s=>decide (s ∈ m))=true:=by
  rw [List.filter_eq_nil_iff,List.all_eq_true]
  exact ⟨fun h s hs=>by simpa using h s hs,fun h s hs=>by simp [of_decide_eq_true (h s hs)]⟩
theorem Fw.unl {ts:List Tg} {m:Bv.M} {e e1:Ev} {S S1:Sto} {ds:List D} {k:MS} {Q:RO→Prop} (h:m e S = .ok (.d (.lst ds)) S1) (ha:Tg.asgs S1 ts (ds.map .d) e=some e1) (h2:Fw (k e1 S1) Q):Fw (Y4 (Y79 ts m) k e S) Q:=by
  refine Fw.seq ?_ h2
  unfold Y79
  rw [h]
  show (match Tg.asgs S1 ts (ds.map .d) e with
    | some e1=>RO.go (.nx e1) S1
    | none => .bad)=_
  rw [ha]
abbrev evG (W:Wd) (o1 o2 o3 o4 o5 o6 o7 o8:Option X):Ev:=[some (.d (tls (lns W))),o1,o2,o3,o4,o5,o6,o7,o8]
def optS:Option Str→D
  | none => .non
  | some s => .str s
theorem ws_of (hW:Wl W) {w:List Str} (hw:w ∈ W):Ws w:=(hW.ws w hw).1
theorem lt_saw {l:List Str}:ltD (.int (Z4q l).length) (.int l.length)=some (.bl (decide (¬ l.Nodup))):=by
  rw [Z4n]
  congr 2
  exact decide_eq_decide.mpr ⟨fun h=>saw_lt.mp (by omega),fun h=>by have:=saw_lt.mpr h; omega⟩
theorem row_ixs {w:List Str} (hm:∀ z ∈ w,z ∈ BW) (h:rowQ w=true):ixO T (.d (tls w)) 0=some (.d (.str (rowOf w).1))∧ixO T (.d (tls w)) 1=some (.d (.str (rowOf w).2.1))∧ixO T (.d (tls w)) (-1)=some (.d (.str (rowOf w).2.2.1)):=by
  obtain ⟨a,b,d,k,_,hw,_,_,hr⟩:=row_form hm h
  rw [hr,hw]
  unfold wordsR
  split <;> exact ⟨by simp [ixO,tls,items,atI,ixN],by simp [ixO,tls,items,atI,ixN],by simp [ixO,tls,items,atI,ixN]⟩
theorem wrong_run (hW:Hl W):g__law_wrong [tls (lns W)] = .ok (optS (wrongW W)):=by
  have hl:=hW.len
  have h3:=hW.three
  have hm0:gW W 0 ∈ W:=(gW_at (by omega)).2
  have hm1:gW W 1 ∈ W:=(gW_at (by omega)).2
  have hm2:gW W 2 ∈ W:=(gW_at (by omega)).2
  have l5:∀ {w:List Str},w ∈ W→w.tail.length ≤ 5:=fun {w} hw=>by
    have:=(hW.ws w hw).2
    rw [List.length_tail]
    omega
  have hml:(mlW W).length ≤ 5:=l5 hm0
  have hsl:(slW W).length ≤ 5:=l5 hm1
  have hal:(alW W).length ≤ 5:=l5 hm2
  have hmne:mlW W ≠ []:=marks_form hW.h0
  refine Z5u ?_
  unfold Z6b
  have lc1:=Z8n (t := .nm 7) (mi:=Q8 (Y3 (Z1 0) (Z0s) (Y9 (m_c (.int 3))))) (me:=Y3 (Z1e Z1q (Z1 7) (m_c (.str " "))) (Y9 (m_c (.int 1))) (Z0s)) (vs:=[7]) (e:=evG W none none none none none none none none) (S:=[]) (fun w:List Str=>X.d (.str (txt w))) (fun w=>tls w.tail) (l:=W.take 3) (Z2y (Z0p (Z5 rfl) Z4x (Z1c W1) (sl_toW (k:=3))) (by rw [lns_take]; show Z6y [] (.d (.lst (((W.take 3).map txt).map D.str)))=_; rw [List.map_map]; exact Z5w (f:=D.str ∘ txt))) (hz4 (by rw [List.length_take]; omega)) fun w hw=>⟨_,rfl,Z0p (Z6e (Z5 rfl) W1 (ws_of hW.toWl (List.mem_of_mem_take hw)).gsplit) (Z1c W1) Z4x (by rw [← List.drop_one]; exact sl_fromW (k:=1))⟩
  rw [take3 h3] at lc1
  refine Fw.unl (ts:=[(.nm 1),(.nm 2),(.nm 3)]) (ds:=[tls (mlW W),tls (slW W),tls (alW W)]) lc1 (e1:=evG W (some (.d (tls (mlW W)))) (some (.d (tls (slW W)))) (some (.d (tls (alW W)))) none none none none none) rfl ?_
  let E:Option X→Option X→Option X→Option X→Option X→Ev:=fun o4 o5 o6 o7 o8=>evG W (some (.d (tls (mlW W)))) (some (.d (tls (slW W)))) (some (.d (tls (alW W)))) o4 o5 o6 o7 o8
  have lenR:∀ {l:List Str},l.length ≤ 5→∀ {i:Nat} {e:Ev},e[i]?=some (some (.d (tls l)))→V6 (Y1 ltD (Z2h (Z1 i)) (Z8 Z0u (Z0 (Z1 i) (Z6)))) e [] = .ok (decide (¬ l.Nodup)) []:=fun {l} hl {i e} he=>W4 (Y6 (x := .d (.int (Z4q l).length)) (by
    unfold Z2h
    rw [Z5 he]
    exact Y35 (by omega)) (X4 (Z7 (Z5 he) Y5) len_tls) Z9 Z9 lt_saw)
  by_cases n1:(mlW W).Nodup
  case neg =>
    refine Fw.if_ (b:=true) ((lenR hml rfl).trans (by rw [decide_eq_true n1])) (Fw.ift (Fw.retP W1 Z9 ?_))
    unfold wrongW wrongL
    rw [if_pos n1]
    rfl
  refine Fw.if_ (b:=false) ((lenR hml rfl).trans (by rw [decide_eq_false (fun z=>z n1)])) (Fw.iff (Fw.seqNil ?_))
  have lc2:=Z9k (t := .nm 8) (mi:=Q8 (Z1 2)) (mt:=V6 (Y1 Z8s (Z1 8) (Y3 (Z1 1) (Y9 (m_c (.int 1))) (Z0s)))) (me:=Z1 8) (vs:=[8]) (e:=E none none none none none) (S:=[]) (fun s:Str=>X.d (.str s)) (fun s=>D.str s) (fun s => !decide (s ∈ (mlW W).tail)) (l:=slW W) (Z2y (Z5 rfl) (Z5w (f:=D.str))) (hz4 (by omega)) fun s hs=>⟨_,rfl,W4 (Y6 (Z5 rfl) (Z0p (Z5 rfl) (Z1c W1) Z4x (sl_fromW (k:=1))) Z9 Z9 (by rw [List.drop_one]; exact nin_lstW)),fun _=>Z5 rfl⟩
  have ne2:neD (tls ((slW W).filter fun s => !decide (s ∈ (mlW W).tail))) (.lst [])=some (.bl (!decide ((slW W).filter (fun s => !decide (s ∈ (mlW W).tail))=[]))):=Y3d (b:=[])
  by_cases n2:(slW W).Nodup∧((slW W).all fun s=>decide (s ∈ (mlW W).tail))=true
  case neg =>
    have ht:V8 (V6 (Y1 ltD (Z2h (Z1 2)) (Z8 Z0u (Z0 (Z1 2) (Z6))))) (V6 (Y1 neD (Z2u (.nm 8) (Q8 (Z1 2)) (V6 (Y1 Z8s (Z1 8) (Y3 (Z1 1) (Y9 (m_c (.int 1))) (Z0s)))) (Z1 8) [8]) (W9 (Z6)))) (E none none none none none) [] = .ok true []:=by
      by_cases c:(slW W).Nodup
      · have c2:¬ ((slW W).filter (fun s => !decide (s ∈ (mlW W).tail))=[]):=fun z=>n2 ⟨c,filt_nin.mp z⟩
        rw [decide_eq_false c2] at ne2
        exact Z1x ((lenR hsl rfl).trans (by rw [decide_eq_false (fun z=>z c)])) (W4 (Y6 lc2 (Z27 (ds:=[]) Y5 rfl (hz4 (by simp))) Z9 Z9 ne2))
      · exact Z50 ((lenR hsl rfl).trans (by rw [decide_eq_true c]))
    refine Fw.if_ (b:=true) ht (Fw.ift (Fw.retP W1 Z9 ?_))
    unfold wrongW wrongL
    rw [if_neg (fun z=>z n1),if_pos (by
      by_cases c:(slW W).Nodup
      · refine .inr ?_
        cases z:(slW W).all fun s=>decide (s ∈ (mlW W).tail) with
        | true=>exact absurd ⟨c,z⟩ n2
        | false=>rfl
      · exact .inl c)]
    rfl
  rw [decide_eq_true (filt_nin.mpr n2.2)] at ne2
  refine Fw.if_ (b:=false) (Z1x ((lenR hsl rfl).trans (by rw [decide_eq_false (fun z=>z n2.1)])) (W4 (Y6 lc2 (Z27 (ds:=[]) Y5 rfl (hz4 (by simp))) Z9 Z9 ne2))) (Fw.iff (Fw.seqNil ?_))
  have lc3:=Z9k (t := .nm 8) (mi:=Q8 (Z1 3)) (mt:=V6 (Y1 Z8s (Z1 8) (Z1 1))) (me:=Z1 8) (vs:=[8]) (e:=E none none none none none) (S:=[]) (fun s:Str=>X.d (.str s)) (fun s=>D.str s) (fun s => !decide (s ∈ mlW W)) (l:=alW W) (Z2y (Z5 rfl) (Z5w (f:=D.str))) (hz4 (by omega)) fun s hs=>⟨_,rfl,W4 (Y6 (Z5 rfl) (Z5 rfl) Z9 Z9 nin_lstW),fun _=>Z5 rfl⟩
  have ne3:neD (tls ((alW W).filter fun s => !decide (s ∈ mlW W))) (.lst [])=some (.bl (!decide ((alW W).filter (fun s => !decide (s ∈ mlW W))=[]))):=Y3d (b:=[])
  by_cases n3:(alW W).Nodup∧((alW W).all fun s=>decide (s ∈ mlW W))=true
  case neg =>
    have ht:V8 (V6 (Y1 ltD (Z2h (Z1 3)) (Z8 Z0u (Z0 (Z1 3) (Z6))))) (V6 (Y1 neD (Z2u (.nm 8) (Q8 (Z1 3)) (V6 (Y1 Z8s (Z1 8) (Z1 1))) (Z1 8) [8]) (W9 (Z6)))) (E none none none none none) [] = .ok true []:=by
      by_cases c:(alW W).Nodup
      · have c2:¬ ((alW W).filter (fun s => !decide (s ∈ mlW W))=[]):=fun z=>n3 ⟨c,filt_nin.mp z⟩
        rw [decide_eq_false c2] at ne3
        exact Z1x ((lenR hal rfl).trans (by rw [decide_eq_false (fun z=>z c)])) (W4 (Y6 lc3 (Z27 (ds:=[]) Y5 rfl (hz4 (by simp))) Z9 Z9 ne3))
      · exact Z50 ((lenR hal rfl).trans (by rw [decide_eq_true c]))
    refine Fw.if_ (b:=true) ht (Fw.ift (Fw.retP W1 Z9 ?_))
    unfold wrongW wrongL
    rw [if_neg (fun z=>z n1),if_neg (fun z=>z.elim (fun z=>z n2.1) (fun z=>by rw [n2.2] at z; cases z)),if_pos (by
      by_cases c:(alW W).Nodup
      · refine .inr ?_
        cases z:(alW W).all fun s=>decide (s ∈ mlW W) with
        | true=>exact absurd ⟨c,z⟩ n3
        | false=>rfl
      · exact .inl c)]
    rfl
  rw [decide_eq_true (filt_nin.mpr n3.2)] at ne3
  refine Fw.if_ (b:=false) (Z1x ((lenR hal rfl).trans (by rw [decide_eq_false (fun z=>z n3.1)])) (W4 (Y6 lc3 (Z27 (ds:=[]) Y5 rfl (hz4 (by simp))) Z9 Z9 ne3))) (Fw.iff (Fw.seqNil ?_))
  have hrest:wrongW W=(if (rsW W).all (Lt.fitM (mlW W))=false then some ("mark" : Str) else if (rsW W).any (Lt.blankQ ((mlW W).headD ""))=true then some ("blank" : Str) else (none:Option Str)):=by
    unfold wrongW wrongL
    rw [if_neg (fun z=>z n1),if_neg (fun z=>z.elim (fun z=>z n2.1) (fun z=>by rw [n2.2] at z; cases z)),if_neg (fun z=>z.elim (fun z=>z n3.1) (fun z=>by rw [n3.2] at z; cases z))]
  have inW:∀ w ∈ W.drop 3,w ∈ W:=fun w hw=>List.mem_of_mem_drop hw
  have lc4:=Z8n (t := .nm 7) (mi:=Q8 (Y3 (Z1 0) (Y9 (m_c (.int 3))) (Z0s))) (me:=Z1e Z1q (Z1 7) (m_c (.str " "))) (vs:=[7]) (e:=E none none none none none) (S:=[]) (fun w:List Str=>X.d (.str (txt w))) (fun w=>tls w) (l:=W.drop 3) (Z2y (Z0p (Z5 rfl) (Z1c W1) Z4x (sl_fromW (k:=3))) (by rw [lns_drop]; show Z6y [] (.d (.lst (((W.drop 3).map txt).map D.str)))=_; rw [List.map_map]; exact Z5w (f:=D.str ∘ txt))) (hz4 (by rw [List.length_drop]; omega)) fun w hw=>⟨_,rfl,Z6e (Z5 rfl) W1 (ws_of hW.toWl (inW w hw)).gsplit⟩
  refine Fw.set lc4 ?_
  show Fw ((_:MS) (E (some (.d (.lst ((W.drop 3).map tls)))) none none none none) []) _
  have hrow:∀ w ∈ W.drop 3,(∀ z ∈ w,z ∈ BW)∧rowQ w=true:=fun w hw=>⟨(ws_of hW.toWl (inW w hw)).mem,hW.rows w hw⟩
  have adM:∀ s:Str,Z2f (.lst [.str s]) (tls (mlW W))=some (tls (s :: mlW W)):=fun s=>if_pos (hz4 (by simp; omega))
  refine Fw.for_ (l:=W.drop 3) (f:=fun w:List Str=>X.d (tls w)) (lk := .free) (S1:=[]) (Z2y (Z5 rfl) Z5w) (fun r e T=>∃ done o5,done++r=W.drop 3∧(∀ w ∈ done,Lt.fitM (mlW W) (rowOf w)=true)∧e=E (some (.d (.lst ((W.drop 3).map tls)))) o5 none none none∧T=[]) (fun _ _=>False) ⟨[],_,rfl,fun _ h=>absurd h List.not_mem_nil,rfl,rfl⟩ (fun _ _ _ _=>rfl) (fun w r e T ⟨done,o5,hd,ok,he,hT⟩=>?_) fun e T hor=>?_
  · subst he hT
    refine ⟨E (some (.d (.lst ((W.drop 3).map tls)))) (some (.d (tls w))) none none none,rfl,?_⟩
    have hw:w ∈ W.drop 3:=by rw [← hd]; simp
    obtain ⟨i0,i1,i2⟩:=row_ixs (T:=[]) (hrow w hw).1 (hrow w hw).2
    have t1:V6 (Y1 Z8s (Q5 (Z1 5) (m_c (.int 1))) (Y1 Z2f (W9 (Z0 (m_c (.str "any")) (Z6))) (Z1 1))) (E (some (.d (.lst ((W.drop 3).map tls)))) (some (.d (tls w))) none none none) [] = .ok (!decide ((rowOf w).2.1 ∈ ("any" : Str) :: mlW W)) []:=W4 (Y6 (Z0n (Z5 rfl) W1 i1) (Y6 (Z27 (ds:=[.str "any"]) (Z7 W1 Y5) rfl (hz4 (by simp))) (Z5 rfl) Z9 Z9 (adM "any")) Z9 Z9 nin_lstW)
    have t2:V6 (Y1 Z8s (Q5 (Z1 5) (Y26 (m_c (.int 1)))) (Y1 Z2f (W9 (Z0 (m_c (.str "same")) (Z6))) (Z1 1))) (E (some (.d (.lst ((W.drop 3).map tls)))) (some (.d (tls w))) none none none) [] = .ok (!decide ((rowOf w).2.2.1 ∈ ("same" : Str) :: mlW W)) []:=W4 (Y6 (Z0n (j:=-1) (Z5 rfl) rfl i2) (Y6 (Z27 (ds:=[.str "same"]) (Z7 W1 Y5) rfl (hz4 (by simp))) (Z5 rfl) Z9 Z9 (adM "same")) Z9 Z9 nin_lstW)
    have ht:V8 (V6 (Y1 Z8s (Q5 (Z1 5) (m_c (.int 1))) (Y1 Z2f (W9 (Z0 (m_c (.str "any")) (Z6))) (Z1 1)))) (V6 (Y1 Z8s (Q5 (Z1 5) (Y26 (m_c (.int 1)))) (Y1 Z2f (W9 (Z0 (m_c (.str "same")) (Z6))) (Z1 1)))) (E (some (.d (.lst ((W.drop 3).map tls)))) (some (.d (tls w))) none none none) [] = .ok (!Lt.fitM (mlW W) (rowOf w)) []:=by
      unfold Lt.fitM
      cases c:decide ((rowOf w).2.1 ∈ ("any" : Str) :: mlW W) with
      | true=>rw [c] at t1; rw [Bool.true_and]; exact Z1x t1 t2
      | false=>rw [c] at t1; exact Z50 t1
    refine Fw.one (Fw.if_ ht (Fw.ifc (fun c=>Fw.retP W1 Z9 (.rp ?_)) fun c=>Fw.seqNil (Fw.nil (.nx ⟨done++[w],_,by rw [List.append_assoc]; exact hd,fun x hx=>?_,rfl,rfl⟩))))
    · rw [hrest,if_pos]
      · rfl
      · rw [Bool.not_eq_true'] at c
        refine Bool.eq_false_iff.mpr fun z=>?_
        have:=List.all_eq_true.mp z (rowOf w) (List.mem_map.mpr ⟨w,hw,rfl⟩)
        rw [c] at this
        cases this
    · rcases List.mem_append.mp hx with hx | hx
      · exact ok x hx
      · rw [List.mem_singleton.mp hx]
        rwa [Bool.not_eq_false'] at c
  · obtain ⟨done,o5,hd,ok,rfl,rfl⟩:=hor.resolve_right id
    rw [List.append_nil] at hd
    subst hd
    have hall:(rsW W).all (Lt.fitM (mlW W))=true:=List.all_eq_true.mpr fun x hx=>by
      obtain ⟨w,hw,rfl⟩:=List.mem_map.mp hx
      exact ok w hw
    rw [hrest,if_neg (by rw [hall]; simp)]
    obtain ⟨m0,mr,hm⟩:∃ m0 mr,mlW W=m0 :: mr:=by
      cases q:mlW W with
      | nil=>exact absurd q hmne
      | cons a b=>exact ⟨a,b,rfl⟩
    have hd0:(mlW W).headD "" = m0:=by rw [hm]; rfl
    rw [hd0]
    have ixm:ixO [] (.d (tls (mlW W))) 0=some (.d (.str m0)):=by rw [hm]; exact ix0w
    have lc5:=Z9k (t := .nm 5) (mi:=Q8 (Z1 4)) (mt:=W7 (V6 (Y1 neD (Q5 (Z1 5) (m_c (.int 0))) (m_c (.str "give")))) (V6 (Y1 eqD (Q5 (Z1 5) (m_c (.int 1))) (Q5 (Z1 1) (m_c (.int 0)))))) (me:=Z1 5) (vs:=[5]) (e:=E (some (.d (.lst ((W.drop 3).map tls)))) o5 none none none) (S:=[]) (fun w:List Str=>X.d (tls w)) (fun w=>tls w) (fun w=>Lt.blankQ m0 (rowOf w)) (l:=W.drop 3) (Z2y (Z5 rfl) Z5w) (hz4 (by rw [List.length_drop]; omega)) fun w hw=>by
      obtain ⟨i0,i1,i2⟩:=row_ixs (T:=[]) (hrow w hw).1 (hrow w hw).2
      refine ⟨_,rfl,?_,fun _=>Z5 rfl⟩
      unfold Lt.blankQ
      have e0:neD (.str (rowOf w).1) (.str "give")=some (.bl (!decide ((rowOf w).1 = "give"))):=Z74
      have e1:eqD (.str (rowOf w).2.1) (.str m0)=some (.bl (decide ((rowOf w).2.1=m0))):=Z53
      by_cases c:(rowOf w).1 = "give"
      · rw [decide_eq_true c] at e0
        rw [decide_eq_false (fun z=>z c),Bool.false_and]
        exact Z4a (W4 (Y6 (Z0n (Z5 rfl) W1 i0) W1 Z9 Z9 e0))
      · rw [decide_eq_false c] at e0
        rw [decide_eq_true c,Bool.true_and]
        exact Z12 (W4 (Y6 (Z0n (Z5 rfl) W1 i0) W1 Z9 Z9 e0)) (W4 (Y6 (Z0n (Z5 rfl) W1 i1) (Z0n (Z5 rfl) W1 ixm) Z9 Z9 e1))
    refine Fw.set lc5 ?_
    have nz:neD (.lst (((W.drop 3).filter fun w=>Lt.blankQ m0 (rowOf w)).map tls)) (.lst [])=some (.bl (!decide ((((W.drop 3).filter fun w=>Lt.blankQ m0 (rowOf w)).map tls)=[]))):=ne_nil_fl (List.all_eq_true.mpr fun d hd=>by
      obtain ⟨w,_,rfl⟩:=List.mem_map.mp hd
      exact List.all_eq_true.mpr fun z hz=>by
        obtain ⟨s,_,rfl⟩:=List.mem_map.mp hz
        rfl)
    have hany:((((W.drop 3).filter fun w=>Lt.blankQ m0 (rowOf w)).map tls)=[]) ↔ (rsW W).any (Lt.blankQ m0)=false:=by
      rw [List.map_eq_nil_iff,List.filter_eq_nil_iff,List.any_eq_false]
      constructor
      · intro h x hx
        obtain ⟨w,hw,rfl⟩:=List.mem_map.mp hx
        exact h w hw
      · intro h w hw
        exact h _ (List.mem_map.mpr ⟨w,hw,rfl⟩)
    cases c:(rsW W).any (Lt.blankQ m0) with
    | false =>
      rw [decide_eq_true (hany.mpr c)] at nz
      exact Fw.one (Fw.retP (Y0i (W4 (Y6 (Z5 rfl) (Z27 (ds:=[]) Y5 rfl (hz4 (by simp))) Z9 Z9 nz)) W1) Z9 rfl)
    | true =>
      rw [decide_eq_false (fun z=>by rw [hany.mp z] at c; cases c)] at nz
      exact Fw.one (Fw.retP (Y11 (W4 (Y6 (Z5 rfl) (Z27 (ds:=[]) Y5 rfl (hz4 (by simp))) Z9 Z9 nz)) W1) Z9 rfl)
end
end Le
namespace Lt
open Lw
open PySem PySem.Spec L2 Bv
open PyProof.Rows hiding St
variable [HasW]
section
variable {l:List Str} {S T:Sto} {x1 x2 x3 x4:X} {z:Str}
theorem Y6e (hn:∀ x ∈ l,g_is_name [.str x] = .ok (.bl true)) (hl:l.length < 1000):g_are_names [tls l] = .ok (.bl (decide l.Nodup)):=by
  by_cases c:l.Nodup
  · rw [decide_eq_true c]
    exact Y4z c hl hn
  · rw [decide_eq_false c]
    have hu:g_are_unlike [tls l] = .ok (.bl false):=by
      refine Z5u ?_
      unfold Z3l
      have h1:Z2h (Z1 0) (ev0 1 [.d (tls l)]) [] = .ok (.d (.int (Z4q l).length)) []:=by
        unfold Z2h
        rw [Z5 (e:=ev0 1 [X.d (tls l)]) (i:=0) rfl]
        exact Y35 hl
      have h2:Z0u [.d (tls l)] [] = .ok (.d (.int l.length)) []:=by
        have:=(Y1r (T:=[]) (ds:=l.map D.str)).len
        rwa [List.length_map] at this
      have h3:=Le.saw_lt.mpr c
      exact Fw.one (Fw.retP (Y6 h1 (X4 (Z7 (Z5 rfl) Y5) h2) Z9 Z9 (by rw [Z6d,decide_eq_false (by omega)])) Z9 rfl)
    refine Z5u ?_
    unfold Z38
    have lc:=Z8n (t := .nm 1) (mi:=Q8 (Z1 0)) (me:=Z8 (X6 1 (X7 [] (callP g_is_name))) (Z0 (Z1 1) (Z6))) (vs:=[1]) (e:=[some (.d (tls l)),none]) (S:=[]) (fun s:Str=>X.d (.str s)) (fun _=>D.bl true) (l:=l) (Z2y (Z5 rfl) (Z5w (f:=D.str))) (hz4 (by omega)) fun s hs=>⟨_,rfl,X4 (Z7 (Z5 rfl) Y5) (U4 rfl (Z47 (hn s hs)))⟩
    refine Fw.if_ (b:=false) (Z1x (Z1p (V5 (X4 (Z7 (Z5 rfl) Y5) (U4 rfl (Z47 (Y6q (l.map D.str))))) rfl)) (Z1p (V5 (X4 (Z7 lc Y5) (Z8w l [])) rfl))) (Fw.iff (Fw.seqNil ?_))
    exact Fw.one (Fw.retP (X4 (Z7 (Z5 rfl) Y5) (U4 rfl (Z47 hu))) Z9 rfl)
theorem Y62 (hS:OkS S) (h:Z2s (evJ S.length x1 x2 x3 x4) (S++[O.ins "Tool" []])=Y1q z (evJ S.length x1 x2 x3 x4) (S++[O.ins "Tool" []])):made "Tool" mkF Z13 [x1,x2,x3,x4] S = .err "InvalidTool" [("word", .str z)] S:=by
  have c2:cut (S++[O.ins "Tool" []]).length (S++[O.ins "Tool" []])=some (S++[O.ins "Tool" []]):=(hS.push (o:=O.ins "Tool" []) rfl).cut0
  have r:Z13 [.r S.length,x1,x2,x3,x4] (S++[O.ins "Tool" []]) = .err "InvalidTool" [("word", .str z)] (S++[O.ins "Tool" []]):=runE_err (N:=7) (mb:=Z2s) (xs:=[.r S.length,x1,x2,x3,x4]) (e:=evJ S.length x1 x2 x3 x4) (S1:=S++[O.ins "Tool" []]) h c2
  exact made_err r hS.cut
end
section
variable {ml sl al:List Str} {R:List RowQ} {S:Sto} {x4:X} {w:Str}
def toolOf (ml sl al:List Str) (R:List RowQ):D:=Y2a (ml.headD "") ml.tail (ml.tail.filter fun s=>decide (s ∈ sl)) (ml.filter fun s=>decide (s ∈ al)) R
theorem Y22 {r:RowQ}:fitM ml r=true ↔ r.2.1 ∈ ("any" : Str) :: ml∧r.2.2.1 ∈ ("same" : Str) :: ml:=by
  unfold fitM
  rw [Bool.and_eq_true,decide_eq_true_eq,decide_eq_true_eq]
theorem Z9q {l m:List Str} (hl:l.Nodup) (hm:m.Nodup) (h:∀ s ∈ l,s ∈ m):l.Perm (m.filter fun s=>decide (s ∈ l)) :=
  (List.perm_ext_iff_of_nodup hl (hm.sublist List.filter_sublist)).mpr fun s=>by
    rw [List.mem_filter,decide_eq_true_eq]
    exact ⟨fun x=>⟨h s x,x⟩,fun x=>x.2⟩
structure InOk (ml sl al:List Str) (R:List RowQ):Prop where
  ne:ml ≠ []
  few:ml.length ≤ 4∧sl.length ≤ 4∧al.length ≤ 4
  nm:∀ s,s ∈ ml ∨ s ∈ sl ∨ s ∈ al→s ∈ NAMES
  len:R.length ≤ 20
  rows:∀ r ∈ R,RowOk r.1 r.2.1 r.2.2.1 r.2.2.2
theorem ok_of (h:InOk ml sl al R) (hw:Le.wrongL ml sl al R=none):ToolOk (ml.headD "") ml.tail (ml.tail.filter fun s=>decide (s ∈ sl)) (ml.filter fun s=>decide (s ∈ al)) R∧sl.Perm (ml.tail.filter fun s=>decide (s ∈ sl))∧al.Perm (ml.filter fun s=>decide (s ∈ al)):=by
  unfold Le.wrongL at hw
  split at hw
  · cases hw
  rename_i n1
  split at hw
  · cases hw
  rename_i n2
  split at hw
  · cases hw
  rename_i n3
  split at hw
  · cases hw
  rename_i n4
  split at hw
  · cases hw
  rename_i n5
  have n1:ml.Nodup:=Classical.not_not.mp n1
  obtain ⟨n2a,n2b⟩:=not_or.mp n2
  obtain ⟨n3a,n3b⟩:=not_or.mp n3
  have n2a:sl.Nodup:=Classical.not_not.mp n2a
  have n3a:al.Nodup:=Classical.not_not.mp n3a
  have n2b:∀ s ∈ sl,s ∈ ml.tail:=fun s hs=>by
    rw [Bool.not_eq_false] at n2b
    exact of_decide_eq_true (List.all_eq_true.mp n2b s hs)
  have n3b:∀ s ∈ al,s ∈ ml:=fun s hs=>by
    rw [Bool.not_eq_false] at n3b
    exact of_decide_eq_true (List.all_eq_true.mp n3b s hs)
  obtain ⟨m0,mr,hm⟩:∃ m0 mr,ml=m0 :: mr:=by
    cases q:ml with
    | nil=>exact absurd q h.ne
    | cons a b=>exact ⟨a,b,rfl⟩
  subst hm
  have few:=h.few.1
  rw [List.length_cons] at few
  refine ⟨⟨fun x hx=>h.nm x (.inl hx),by show mr.length < 4; omega,n1,List.filter_sublist,List.filter_sublist,h.len,fun r hr=>?_⟩,Z9q n2a (List.nodup_cons.mp n1).2 n2b,Z9q n3a n1 n3b⟩
  rw [Bool.not_eq_false] at n4
  have f:=Y22.mp (List.all_eq_true.mp n4 r hr)
  have ro:=h.rows r hr
  refine ⟨ro.1,f.1,f.2,fun g=>⟨ro.2.2.2 g,?_⟩⟩
  rcases List.mem_cons.mp f.1 with e | e
  · rw [e]; exact List.mem_cons_self
  · rcases List.mem_cons.mp e with e | e
    · have:R.any (blankQ m0)=true:=List.any_eq_true.mpr ⟨r,hr,by
        unfold blankQ
        rw [decide_eq_true g,e,decide_eq_true rfl]
        rfl⟩
      exact absurd this n5
    · exact List.mem_cons_of_mem _ e
theorem init_of (hS:OkS S) (h:InOk ml sl al R) (h4:∃ g4 k4,SQ S x4 g4 (R.map objQ) k4):made "Tool" mkF Z13 [.d (tls ml), .d (tls sl), .d (tls al),x4] S=match Le.wrongL ml sl al R with
    | some w => .err "InvalidTool" [("word", .str w)] S
    | none => .ok (.d (toolOf ml sl al R)) S:=by
  obtain ⟨g4,k4,h4⟩:=h4
  cases hw:Le.wrongL ml sl al R with
  | none =>
    obtain ⟨ok,p1,p2⟩:=ok_of h hw
    have em:ml=ml.headD "" :: ml.tail:=by
      cases q:ml with
      | nil=>exact absurd q h.ne
      | cons a b=>rfl
    have:=Y63 hS ok p1 p2 ⟨g4,k4,h4⟩
    rw [← em] at this
    exact this
  | some w =>
    obtain ⟨k,a4⟩:=h4.app (o:=O.ins "Tool" [])
    have few:=h.few
    have nmd:∀ {l:List Str},l.length ≤ 4→(∀ s ∈ l,s ∈ NAMES)→∀ {T:Sto},callP g_are_names [.d (tls l)] T = .ok (.d (.bl (decide l.Nodup))) T:=fun {l} hl hn {T}=>Z47 (Y6e (fun x hx=>okPR_ok (List.all_eq_true.mp Y4b x (hn x hx))) (by omega))
    have nm1:=nmd few.1 (fun s hs=>h.nm s (.inl hs)) (T:=S++[O.ins "Tool" []])
    have nm2:=nmd few.2.1 (fun s hs=>h.nm s (.inr (.inl hs))) (T:=S++[O.ins "Tool" []])
    have nm3:=nmd few.2.2 (fun s hs=>h.nm s (.inr (.inr hs))) (T:=S++[O.ins "Tool" []])
    have hml:ml.length ≠ 0:=fun z=>h.ne (List.length_eq_zero_iff.mp z)
    refine Y62 hS ?_
    show Z2s (evJ S.length (.d (tls ml)) (.d (tls sl)) (.d (tls al)) x4) (S++[O.ins "Tool" []])=Y1q w (evJ S.length (.d (tls ml)) (.d (tls sl)) (.d (tls al)) x4) (S++[O.ins "Tool" []])
    rw [X3z]
    unfold Le.wrongL at hw
    split at hw
    · rename_i n1
      cases hw
      rw [decide_eq_false n1] at nm1
      exact Z2w (X0y nm1)
    rename_i n1
    have n1:ml.Nodup:=Classical.not_not.mp n1
    rw [decide_eq_true n1] at nm1
    refine Z0e (Y6v Y1r nm1 hml) ?_
    split at hw
    · rename_i n2
      cases hw
      by_cases c:sl.Nodup
      · rw [decide_eq_true c] at nm2
        exact Z2w (Y9g (ml:=ml) (ms:=ml.tail) (sp:=sl) Y1r Y1r nm2 (hz4 (by omega)) List.drop_one (n2.resolve_left fun z=>z c))
      · rw [decide_eq_false c] at nm2
        exact Z2w (X0z nm2)
    rename_i n2
    obtain ⟨n2a,n2b⟩:=not_or.mp n2
    have n2a:sl.Nodup:=Classical.not_not.mp n2a
    rw [Bool.not_eq_false] at n2b
    rw [decide_eq_true n2a] at nm2
    refine Z0e (Y6w (ml:=ml) (ms:=ml.tail) (sp:=sl) Y1r Y1r nm2 (hz4 (by omega)) List.drop_one fun s hs=>of_decide_eq_true (List.all_eq_true.mp n2b s hs)) ?_
    split at hw
    · rename_i n3
      cases hw
      by_cases c:al.Nodup
      · rw [decide_eq_true c] at nm3
        exact Z2w (Y9h (ml:=ml) (ap:=al) Y1r Y1r nm3 (hz4 (by omega)) (n3.resolve_left fun z=>z c))
      · rw [decide_eq_false c] at nm3
        exact Z2w (X00 nm3)
    rename_i n3
    obtain ⟨n3a,n3b⟩:=not_or.mp n3
    have n3a:al.Nodup:=Classical.not_not.mp n3a
    rw [Bool.not_eq_false] at n3b
    rw [decide_eq_true n3a] at nm3
    refine Z0e (Y6x (ml:=ml) (ap:=al) Y1r Y1r nm3 (hz4 (by omega)) fun s hs=>of_decide_eq_true (List.all_eq_true.mp n3b s hs)) ?_
    have hR:=h.len
    refine Z0e (Y6y a4 (hz4 (by omega))) ?_
    split at hw
    · rename_i n4
      cases hw
      exact Z2w (X01 (ml:=ml) Y1r a4 (hz4 (by omega)) (hz4 (by omega)) n4)
    rename_i n4
    rw [Bool.not_eq_false] at n4
    refine Z0e (Y6z (ml:=ml) Y1r a4 (hz4 (by omega)) (hz4 (by omega)) (fun r hr=>(Y22.mp (List.all_eq_true.mp n4 r hr)).1) fun r hr=>(Y22.mp (List.all_eq_true.mp n4 r hr)).2) ?_
    split at hw
    · rename_i n5
      cases hw
      obtain ⟨m0,mr,hm⟩:∃ m0 mr,ml=m0 :: mr:=by
        cases q:ml with
        | nil=>exact absurd q h.ne
        | cons a b=>exact ⟨a,b,rfl⟩
      subst hm
      exact Z2w (X02 (m0:=m0) (ms:=mr) Y1r a4 (hz4 (by omega)) n5)
    · cases hw
end
end Lt
namespace Le
open Lw
open PySem PySem.Spec L2 Bv
open PyProof.Rows hiding St
variable [HasW]
theorem Fw.of_eq {ro ro':RO} {Q:RO→Prop} (h:ro=ro') (hq:Q ro'):Fw ro Q:=by
  unfold Fw
  rw [h]
  exact hq
theorem ev_bmE {ty:Sto→X→Bool} {g:X→List X→Sto→R X} {mo:Bv.M} {ms:MG (List X)} {e:Ev} {S S1 S2:Sto} {x:X} {C:Str} {fs:List (Str × D)} (h1:mo e S = .ok x S1) (ht:ty S1 x=true) (h2:ms e S1 = .err C fs S2):Z2z ty g mo ms e S = .err C fs S2:=by
  unfold Z2z
  rw [h1]
  show (if ty S1 x then (ms e S1).bind fun xs S2=>g x xs S2 else .bad)=_
  rw [ht,h2]
  rfl
theorem ix_stW {S:Sto} {n k:Nat} {xs:List X} {x:X} (hs:S[n]?=some (.lst xs)) (h:xs[k]?=some x):ixO S (.r n) (k:Int)=some x:=by
  obtain ⟨hk,e⟩:=List.getElem?_eq_some_iff.mp h
  have i1:items S (.r n)=some xs:=by simp [items,hs]
  unfold ixO
  rw [i1]
  show atI xs (k:Int)=_
  unfold atI ixN
  rw [if_pos (by omega:(0:Int) ≤ (k:Int)),if_pos (by omega),Option.bind_some]
  simpa using h
def txtW (W:Wd):Str:=Str.join "\n" (lns W)
theorem flat_tab:(BW.all fun x=>decide ((10:Nat) ∉ x.cps.toList))=true:=by kernel_rfl
theorem nl1:("\n" : Str).length=1:=by decide +kernel
theorem cps_app (a b:Str):(a++b).cps.toList=a.cps.toList++b.cps.toList:=by
  show (a.cps++b.cps).toList=_
  simp
theorem not_join {c:Nat} {a:Str} (ha:c ∉ a.cps.toList):∀ {l:List Str},(∀ z ∈ l,c ∉ z.cps.toList)→c ∉ (Str.join a l).cps.toList
  | [],_=>by
    have e:(Str.join a []).cps.toList=[]:=by first | rfl | (unfold Str.join; decide +kernel)
    rw [e]; simp
  | [x],h=>h x (by simp)
  | x :: y :: r,h=>by
    have ih:=not_join ha (l:=y :: r) fun z hz=>h z (List.mem_cons_of_mem _ hz)
    have e:Str.join a (x :: y :: r)=x++a++Str.join a (y :: r):=rfl
    rw [e,cps_app,cps_app]
    simp only [List.mem_append]
    rintro ((m | m) | m)
    · exact h x (by simp) m
    · exact ha m
    · exact ih m
section
variable {W:Wd} {T:Sto} {ws:List Str}
theorem Ws.flat (h:Ws ws):(10:Nat) ∉ (txt ws).cps.toList:=not_join (by decide +kernel) fun z hz=>of_decide_eq_true (List.all_eq_true.mp flat_tab z (h.mem z hz))
theorem lns_mem (hW:Wl W) {z:Str} (hz:z ∈ lns W):z.length ≤ 48∧(10:Nat) ∉ z.cps.toList∧PyData.strOk z=true:=by
  obtain ⟨w,hw,rfl⟩:=List.mem_map.mp hz
  have h:=(hW.ws w hw).1
  exact ⟨h.txtLen,h.flat,strOk_txt h⟩
theorem txtW_len (hW:Wl W):(txtW W).length ≤ 600:=by
  have q:=join_le (a := "\n") (k:=48) (l:=lns W) fun z hz=>(lns_mem hW hz).1
  rw [nl1] at q
  have:=hW.len
  unfold lns at q
  rw [List.length_map] at q
  show (Str.join "\n" (W.map txt)).length ≤ 600
  omega
theorem txtW_split (hW:Wl W):Txt.split (txtW W) "\n" = lns W:=by
  have hj:txtW W=Txt.join "\n" (lns W):=(StrLaws.glued_eq_join ..).symm
  rw [hj]
  exact TL.split_join (s:=10) (S:=[]) (by decide +kernel) (by decide +kernel) (by unfold lns; simpa using hW.ne) fun p hp=>(lns_mem hW hp).2.1
theorem split_nl (hW:Wl W):Z1q (txtW W) (.d (.str "\n")) T = .ok (.d (tls (lns W))) T:=by
  have b1:((("\n" : Str).length) == 0)=false:=by decide +kernel
  have b2:decide ((txtW W).length + 2 ≤ sizeLine)=true:=decide_eq_true (by have:=txtW_len hW; rw [sizeLine_eq]; omega)
  have b3:Z5a (lns W)=true:=List.all_eq_true.mpr fun z hz=>(lns_mem hW hz).2.2
  unfold Z1q
  show (if !(("\n" : Str).length == 0) && decide ((txtW W).length + 2 ≤ sizeLine) && Z5a (Txt.split (txtW W) "\n") then R.ok (X.d (.lst ((Txt.split (txtW W) "\n").map .str))) T else .bad)=_
  rw [txtW_split hW,b1,b2,b3]
  rfl
theorem names_in_run {h:Str} (hw:Ws ws) (h5:ws.length ≤ 5):g_names_in [.str (txt ws), .str h] = .ok (if headB h ws then tls ws.tail else .non):=by
  cases hq:ws with
  | nil=>exact absurd hq hw.ne
  | cons w l =>
    rw [hq] at hw h5
    have hlm:∀ z ∈ l,z ∈ BW:=fun z hz=>hw.mem z (List.mem_cons_of_mem _ hz)
    refine Z5u ?_
    unfold Z7v
    refine Fw.set (Z6e (Z5 rfl) W1 hw.gsplit) ?_
    have lc:=Z8n (t := .nm 3) (mi:=Q8 (Y3 (Z1 2) (Y9 (m_c (.int 1))) (Z0s))) (me:=Z8 (X6 1 (X7 [] (callP g_is_name))) (Z0 (Z1 3) (Z6))) (vs:=[3]) (e:=[some (.d (.str (txt (w :: l)))),some (.d (.str h)),some (.d (tls (w :: l))),none]) (S:=[]) (fun s:Str=>X.d (.str s)) (fun s=>D.bl (nm s)) (l:=l) (Z2y (Z0p (Z5 rfl) (Z1c W1) Z4x sl1) (Z5w (f:=D.str))) (hz4 (by simp at h5; omega)) fun s hs=>⟨_,rfl,X4 (Z7 (Z5 rfl) Y5) (U4 rfl (Z47 (bw_name (hlm s hs))))⟩
    have al:=Lt.bls_any (fun l=>l.all id) nm l ([]:Sto)
    rw [List.all_map,show (id ∘ nm)=nm from rfl] at al
    have n1:neD (.str w) (.str h)=some (.bl (!decide (w=h))):=Z74
    by_cases c:w=h
    case neg =>
      rw [decide_eq_false c] at n1
      have hb:headB h (w :: l)=false:=by
        show (decide (w=h) && _)=false
        rw [decide_eq_false c]
        rfl
      rw [hb]
      exact Fw.if_ (b:=true) (Z50 (W4 (Y6 (Z0n (Z5 rfl) W1 ix0w) (Z5 rfl) Z9 Z9 n1))) (Fw.ift (Fw.retP W1 Z9 rfl))
    rw [decide_eq_true c] at n1
    cases ha:l.all nm with
    | false =>
      rw [ha] at al
      have hb:headB h (w :: l)=false:=by
        show (decide (w=h) && (l.all nm && _))=false
        rw [ha,Bool.false_and,Bool.and_false]
      rw [hb]
      exact Fw.if_ (b:=true) (Z1x (W4 (Y6 (Z0n (Z5 rfl) W1 ix0w) (Z5 rfl) Z9 Z9 n1)) (Z4c (V5 (X4 (Z7 lc Y5) al) rfl))) (Fw.ift (Fw.retP W1 Z9 rfl))
    | true =>
      rw [ha] at al
      have hbv:headB h (w :: l) = !(decide (h = "marks") && l.isEmpty):=by
        show (decide (w=h) && (l.all nm && !(decide (h = "marks") && l.isEmpty)))=_
        rw [decide_eq_true c,ha,Bool.true_and,Bool.true_and]
      rw [hbv]
      refine Fw.if_ (b:=false) (Z1x (W4 (Y6 (Z0n (Z5 rfl) W1 ix0w) (Z5 rfl) Z9 Z9 n1)) (Z1p (V5 (X4 (Z7 lc Y5) al) rfl))) (Fw.iff (Fw.seqNil ?_))
      have e1:eqD (.str h) (.str "marks")=some (.bl (decide (h = "marks"))):=Z53
      by_cases cm:h = "marks"
      · rw [decide_eq_true cm] at e1 ⊢
        cases l with
        | nil=>exact Fw.one (Fw.retP (Y11 (Z12 (W4 (Y6 (Z5 rfl) W1 Z9 Z9 e1)) (W4 (Y6 (X4 (Z7 (Z5 rfl) Y5) len_tls) W1 Z9 Z9 (by rw [Z6d]; rfl)))) W1) Z9 rfl)
        | cons a r=>exact Fw.one (Fw.retP (Y0i (Z12 (W4 (Y6 (Z5 rfl) W1 Z9 Z9 e1)) (W4 (Y6 (X4 (Z7 (Z5 rfl) Y5) len_tls) W1 Z9 Z9 (by rw [Z6d,decide_eq_false (by simp; omega)])))) (Z0p (Z5 rfl) (Z1c W1) Z4x sl1)) Z9 rfl)
      · rw [decide_eq_false cm] at e1 ⊢
        exact Fw.one (Fw.retP (Y0i (Z4a (W4 (Y6 (Z5 rfl) W1 Z9 Z9 e1))) (Z0p (Z5 rfl) (Z1c W1) Z4x sl1)) Z9 rfl)
def outW (W:Wd):PR:=match firstBad W with
  | some i => .err "InvalidText" [("at", .int (i:Nat))]
  | none=>match wrongW W with
    | some w => .err "InvalidTool" [("word", .str w)]
    | none => .ok (Lt.toolOf (mlW W) (slW W) (alW W) (rsW W))
theorem badR_some {j:Nat} (hj:3 + j < W.length) (hf:rowQ (gW W (3 + j))=false) (ok:∀ i < j,rowQ (gW W (3 + i))=true):(badR W).head?=some j:=by
  unfold badR
  rw [List.head?_filter]
  exact List.find?_range_eq_some.mpr ⟨by rw [hf]; rfl,List.mem_range.mpr (by omega),fun i hi=>by rw [ok i hi]; rfl⟩
theorem badR_none (ok:∀ i,3 + i < W.length→rowQ (gW W (3 + i))=true):badR W=[]:=by
  unfold badR
  refine List.filter_eq_nil_iff.mpr fun i hi=>?_
  rw [ok i (by have:=List.mem_range.mp hi; omega)]
  simp
theorem drop_get {j:Nat} (hj:3 + j < W.length):(W.drop 3)[j]?=some (gW W (3 + j)):=by
  rw [List.getElem?_drop]
  exact (gW_at hj).1
theorem drop_rows:W.drop 3=(List.range (W.length - 3)).map fun j=>gW W (3 + j):=by
  refine List.ext_getElem? fun i=>?_
  rw [List.getElem?_map]
  by_cases c:3 + i < W.length
  · rw [drop_get c,List.getElem?_range (by omega)]
    rfl
  · rw [List.getElem?_eq_none (by rw [List.length_drop]; omega),List.getElem?_eq_none (by rw [List.length_range]; omega)]
    rfl
abbrev evT (W:Wd) (o4 o5 o6 o7 o8 o9:Option X):Ev:=[some (.d (.gl "Tool")),some (.d (.str (txtW W))),some (.d (tls (lns W))),some (.r 0),o4,o5,o6,o7,o8,o9]
abbrev toldO (L:List (List Str)):O := .lst ((L.map tls).map X.d)
abbrev rowsO (L:List Lt.RowQ):O := .lst ((L.map Lt.objQ).map X.d)
theorem nm_names {s:Str} (h:s ∈ BW) (hn:nm s=true):s ∈ Lt.NAMES:=by
  have t:(BW.all fun s => !nm s || decide (s ∈ Lt.NAMES))=true:=by kernel_rfl
  have q:=List.all_eq_true.mp t s h
  rw [hn] at q
  exact of_decide_eq_true q
theorem six_haps:∀ w ∈ SIX,w ∈ Lt.HAPS:=by decide +kernel
theorem row_ok {w:List Str} (hm:∀ z ∈ w,z ∈ BW) (h:rowQ w=true):Z18 [.gl "Row", .str (txt w)]=outQ w→Z18 [.gl "Row", .str (txt w)] = .ok (Lt.objQ (rowOf w))∧Lt.RowOk (rowOf w).1 (rowOf w).2.1 (rowOf w).2.2.1 (rowOf w).2.2.2:=by
  intro e
  obtain ⟨a,b,d,k,ho,hw,hf,hk,hr⟩:=row_form hm h
  rw [hr]
  have hin:a ∈ BW∧b ∈ BW∧d ∈ BW:=by
    rw [hw] at hm
    unfold wordsR at hm
    split at hm <;> exact ⟨hm a (by simp),hm b (by simp),hm d (by simp)⟩
  refine ⟨by rw [e,ho]; rfl,?_⟩
  obtain ⟨f1,f2⟩:=Bool.and_eq_true_iff.mp (show (decide (a ∈ SIX) && ((nm b || decide (b = "any")) && (nm d || decide (d = "same"))))=true from hf)
  obtain ⟨f2,f3⟩:=Bool.and_eq_true_iff.mp f2
  refine ⟨six_haps a (of_decide_eq_true f1),?_,?_,fun g=>hk.resolve_left g⟩
  · rcases Bool.or_eq_true_iff.mp f2 with z | z
    · exact List.mem_cons_of_mem _ (nm_names hin.2.1 z)
    · show b ∈ _
      rw [of_decide_eq_true z]; exact List.mem_cons_self
  · rcases Bool.or_eq_true_iff.mp f3 with z | z
    · exact List.mem_cons_of_mem _ (nm_names hin.2.2 z)
    · show d ∈ _
      rw [of_decide_eq_true z]; exact List.mem_cons_self
theorem hl_of (hW:Wl W) (h3:3 ≤ W.length) (ok:∀ q ∈ HL,headB q.2 (gW W q.1)=true) (okR:∀ i,3 + i < W.length→rowQ (gW W (3 + i))=true):Hl W :=
  ⟨hW,h3,ok (0, "marks") (by simp [HL]),ok (1, "shown") (by simp [HL]),ok (2, "asked") (by simp [HL]),fun w hw=>by
    rw [drop_rows] at hw
    obtain ⟨j,hj,rfl⟩:=List.mem_map.mp hw
    exact okR j (by have:=List.mem_range.mp hj; omega)⟩
theorem head_len (ok:headB "asked" (gW W 2)=true):3 ≤ W.length:=by
  rcases Nat.lt_or_ge 2 W.length with c | c
  · exact c
  · rw [gW_out (by show ¬ 2 < W.length; omega)] at ok
    cases ok
theorem in_of (hW:Hl W):Lt.InOk (mlW W) (slW W) (alW W) (rsW W):=by
  have h3:=hW.three
  have tl:∀ {i:Nat} {h:Str},i < W.length→headB h (gW W i)=true→(gW W i).tail.length ≤ 4∧∀ s ∈ (gW W i).tail,s ∈ Lt.NAMES:=fun {i h} hi hb=>by
    have hw:=hW.ws _ (gW_at hi).2
    obtain ⟨l,e,ha,et⟩:=head_form hb
    refine ⟨by rw [List.length_tail]; have:=hw.2; omega,fun s hs=>?_⟩
    rw [et] at hs
    exact nm_names (hw.1.mem s (by rw [e]; exact List.mem_cons_of_mem _ hs)) (List.all_eq_true.mp ha s hs)
  have t0:=tl (by omega) hW.h0
  have t1:=tl (by omega) hW.h1
  have t2:=tl (by omega) hW.h2
  refine ⟨marks_form hW.h0,⟨t0.1,t1.1,t2.1⟩,fun s hs=>?_,by unfold rsW; rw [List.length_map,List.length_drop]; have:=hW.len; omega,fun r hr=>?_⟩
  · rcases hs with hs | hs | hs
    · exact t0.2 s hs
    · exact t1.2 s hs
    · exact t2.2 s hs
  · obtain ⟨w,hw,rfl⟩:=List.mem_map.mp hr
    have hws:=(hW.ws w (List.mem_of_mem_drop hw)).1
    exact (row_ok hws.mem (hW.rows w hw) (read_ok hws).1).2
theorem tool_read_run (hW:Wl W):Z2t [.gl "Tool", .str (txtW W)]=outW W:=by
  have hl:=hW.len
  refine Z5u ?_
  unfold Z63
  refine Fw.par (x := .d (tls (lns W))) (y := .r 0) (S1:=[toldO []]) (Z7 (Z6e (Z5 rfl) W1 (split_nl hW)) (Z7 (Y5u Y5 (by decide)) Y5)) ?_
  have hi0:∀ {e:Ev} {S:Sto},Z8m (Z0 (m_c (.tup ((["marks", "shown", "asked"]:List Str).map D.str))) (Z6)) e S = .ok (HL.map fun p=>X.d (.tup [.int (p.1:Nat), .str p.2]), .free) S:=fun {e S}=>by rfl
  refine Fw.for_ (l:=HL) (f:=fun p:Nat × Str=>X.d (.tup [.int (p.1:Nat), .str p.2])) (lk := .free) (S1:=[toldO []]) hi0 (fun r e T=>∃ done o4 o5 o8,done++r=HL∧(∀ q ∈ done,headB q.2 (gW W q.1)=true)∧e=evT W o4 o5 none none o8 none∧T=[toldO (done.map fun q=>(gW W q.1).tail)]) (fun _ _=>False) ⟨[],_,_,_,rfl,fun _ h=>absurd h List.not_mem_nil,rfl,rfl⟩ (fun _ _ _ _=>rfl) (fun p r e T ⟨done,o4,o5,o8,hd,ok,he,hT⟩=>?_) fun e T hor=>?_
  · subst he hT
    refine ⟨evT W (some (.d (.int (p.1:Nat)))) (some (.d (.str p.2))) none none o8 none,rfl,?_⟩
    obtain ⟨hh,hp3,hm0⟩:=HL_head (HL_in hd)
    have hdl:done.length < 3:=by
      have:=congrArg List.length hd
      simp [HL] at this
      omega
    by_cases c:p.1 < W.length
    case neg =>
      refine Fw.if_ (b:=true) (W4 (Y6 (Z5 rfl) (X4 (Z7 (Z5 rfl) Y5) len_lns) Z9 Z9 (by rw [Z4o,decide_eq_true (show ((W.length:Nat):Int) ≤ (p.1:Nat) by omega)]))) (Fw.ift (Fw.raise (Z7 (Z5 rfl) Y5) (.err ?_)))
      have:=fb_at hd ok (by rw [gW_out c]; rfl)
      show PR.err _ _=outW W
      unfold outW
      rw [this]
    refine Fw.if_ (b:=false) (W4 (Y6 (Z5 rfl) (X4 (Z7 (Z5 rfl) Y5) len_lns) Z9 Z9 (by rw [Z4o,decide_eq_false (show ¬ ((W.length:Nat):Int) ≤ (p.1:Nat) by omega)]))) (Fw.iff (Fw.seqNil ?_))
    have hws:=hW.ws _ (gW_at c).2
    have ni:=names_in_run (h:=p.2) hws.1 hws.2
    cases hb:headB p.2 (gW W p.1) with
    | false =>
      rw [hb] at ni
      refine Fw.set (x := .d .non) (S1:=[toldO (done.map fun q=>(gW W q.1).tail)]) (X4 (Z7 (Z0n (Z5 rfl) (Z5 rfl) (lns_ix c)) (Z7 (Z5 rfl) Y5)) (U4 rfl (Y4v ni))) ?_
      refine Fw.if_ (b:=true) (W4 (Y6 (Z5 rfl) W1 Z9 Z9 (by rfl))) (Fw.ift (Fw.raise (Z7 (Z5 rfl) Y5) (.err ?_)))
      show PR.err _ _=outW W
      unfold outW
      rw [fb_at hd ok hb]
    | true =>
      rw [hb] at ni
      refine Fw.set (x := .d (tls (gW W p.1).tail)) (S1:=[toldO (done.map fun q=>(gW W q.1).tail)]) (X4 (Z7 (Z0n (Z5 rfl) (Z5 rfl) (lns_ix c)) (Z7 (Z5 rfl) Y5)) (U4 rfl (Y4v ni))) ?_
      refine Fw.if_ (b:=false) (W4 (Y6 (Z5 rfl) W1 Z9 Z9 (by rfl))) (Fw.iff (Fw.seqNil ?_))
      refine Fw.one_expr (Fw.expr (S1:=[toldO ((done++[p]).map fun q=>(gW W q.1).tail)]) (x := .d .non) (X1b (Z5 rfl) rfl (Z7 (Z5 rfl) Y5) ?_) (Fw.nil (.nx ⟨done++[p],_,_,_,by rw [List.append_assoc]; exact hd,fun q hq=>?_,rfl,rfl⟩)))
      · rw [Y8j (S:=[toldO (done.map fun q=>(gW W q.1).tail)]) (n:=0) (xs:=((done.map fun q=>(gW W q.1).tail).map tls).map X.d) rfl (by rw [List.length_map,List.length_map,List.length_map,sizeLine_eq]; omega)]
        show R.ok _ [O.lst (((done.map fun q=>(gW W q.1).tail).map tls).map X.d++[X.d (tls (gW W p.1).tail)])]=R.ok _ [O.lst ((((done++[p]).map fun q=>(gW W q.1).tail).map tls).map X.d)]
        rw [List.map_append,List.map_append,List.map_append]
        rfl
      · rcases List.mem_append.mp hq with hq | hq
        · exact ok q hq
        · rw [List.mem_singleton.mp hq]; exact hb
  · obtain ⟨done,o4,o5,o8,hd,ok,rfl,rfl⟩:=hor.resolve_right id
    rw [List.append_nil] at hd
    subst hd
    have h3:3 ≤ W.length:=head_len (ok (2, "asked") (by simp [HL]))
    have fe:=fb_end ok
    let tO:O:=toldO [mlW W,slW W,alW W]
    have etO:toldO (HL.map fun q=>(gW W q.1).tail)=tO:=rfl
    rw [etO]
    refine Fw.set (x := .r 1) (S1:=[tO,rowsO []]) (Y5u (S1:=[tO]) Y5 (by decide)) ?_
    have hi1:∀ {S:Sto} {o4 o5 o8:Option X},Z8m (Z0 (Y3 (Z1 2) (Y9 (Z8 Z0u (Z0 (m_c (.tup ((["marks", "shown", "asked"]:List Str).map D.str))) (Z6)))) (Z0s)) (Z6)) (evT W o4 o5 (some (.r 1)) none o8 none) S = .ok ((List.range (W.length - 3)).map fun j:Nat=>X.d (.tup [.int (j:Nat), .str (txt (gW W (3 + j)))]), .free) S:=fun {S o4 o5 o8}=>by
      have sl:Y3 (Z1 2) (Y9 (Z8 Z0u (Z0 (m_c (.tup ((["marks", "shown", "asked"]:List Str).map D.str))) (Z6)))) (Z0s) (evT W o4 o5 (some (.r 1)) none o8 none) S = .ok (.d (tls ((lns W).drop 3))) S:=Z0p (Z5 rfl) (Z1c (X4 (Z7 W1 Y5) rfl)) Z4x (sl_fromW (k:=3))
      unfold Z8m
      rw [Z7 sl Y5]
      show R.ok (numbered (((lns W).drop 3).map D.str),Lk.free) S=_
      congr 2
      rw [lns_drop,drop_rows,List.map_map,List.map_map]
      refine List.ext_getElem? fun i=>?_
      rw [List.getElem?_map]
      by_cases ci:i < W.length - 3
      · rw [Z67 (d := .str (txt (gW W (3 + i)))) (by rw [List.getElem?_map,List.getElem?_range ci]; rfl),List.getElem?_range ci]
        rfl
      · rw [List.getElem?_eq_none (by rw [Z6m,List.length_map,List.length_range]; omega),List.getElem?_eq_none (by rw [List.length_range]; omega)]
        rfl
    refine Fw.for_ (l:=List.range (W.length - 3)) (f:=fun j:Nat=>X.d (.tup [.int (j:Nat), .str (txt (gW W (3 + j)))])) (lk := .free) (S1:=[tO,rowsO []]) hi1 (fun r e T=>∃ n o4 o5 o7 o8,n + r.length=W.length - 3∧r=(List.range (W.length - 3)).drop n∧(∀ i < n,rowQ (gW W (3 + i))=true)∧e=evT W o4 o5 (some (.r 1)) o7 o8 none∧T=[tO,rowsO (((List.range n).map fun i=>gW W (3 + i)).map rowOf)]) (fun _ _=>False) ⟨0,_,_,_,_,by rw [List.length_range]; omega,rfl,fun i h=>absurd h (by omega),rfl,rfl⟩ (fun _ _ _ _=>rfl) (fun j r e T ⟨n,p4,p5,p7,p8,hn,hr,okR,he,hT⟩=>?_) fun e T hor=>?_
    · subst he hT
      have hn2:n < W.length - 3:=by rw [List.length_cons] at hn; omega
      have hj:j=n∧r=(List.range (W.length - 3)).drop (n + 1):=by
        rw [List.drop_eq_getElem_cons (by rw [List.length_range]; exact hn2)] at hr
        rw [List.getElem_range] at hr
        exact ⟨(List.cons.inj hr).1,(List.cons.inj hr).2⟩
      obtain ⟨rfl,hr2⟩:=hj
      have hj3:3 + j < W.length:=by omega
      refine ⟨evT W (some (.d (.int (j:Nat)))) p5 (some (.r 1)) (some (.d (.str (txt (gW W (3 + j)))))) p8 none,rfl,?_⟩
      have hws:=hW.ws _ (gW_at hj3).2
      have rd:=read_ok hws.1
      let S0:Sto:=[tO,rowsO (((List.range j).map fun i=>gW W (3 + i)).map rowOf)]
      cases hq:rowQ (gW W (3 + j)) with
      | false =>
        have ho:outQ (gW W (3 + j)) = .err "InvalidText" [("at", .int 0)]:=by unfold outQ; rw [hq]; rfl
        have body:V2 (Z2z U9 Z0z (Z1 6) (Z0 (Z4z "Row" (X6 2 (X7 [] (callP Z18))) (m_c (.gl "Row")) (Z0 (Z1 7) (Z6))) (Z6))) (evT W (some (.d (.int (j:Nat)))) p5 (some (.r 1)) (some (.d (.str (txt (gW W (3 + j)))))) p8 none) S0 = .err "InvalidText" [("at", .int 0)] (evT W (some (.d (.int (j:Nat)))) p5 (some (.r 1)) (some (.d (.str (txt (gW W (3 + j)))))) p8 none) S0:=by
          have cm:Z4z "Row" (X6 2 (X7 [] (callP Z18))) (m_c (.gl "Row")) (Z0 (Z1 7) (Z6)) (evT W (some (.d (.int (j:Nat)))) p5 (some (.r 1)) (some (.d (.str (txt (gW W (3 + j)))))) p8 none) S0 = .err "InvalidText" [("at", .int 0)] S0:=Z80 W1 (Z7 (Z5 rfl) Y5) (U4 rfl (X1a (ds:=[.gl "Row", .str (txt (gW W (3 + j)))]) rfl (rd.1.trans ho) rfl))
          exact Y8c (ev_bmE (Z5 rfl) rfl (Y31 cm))
        refine Fw.of_eq (Y4j body rfl (v := .int ((3 + j:Nat):Int)) ?_ (by show 9 < 10; decide)) (.err ?_)
        · show Z2f (.int (j:Nat)) (.int 3)=_
          rw [Z1a,show ((j:Nat):Int) + 3=((3 + j:Nat):Int) by omega]
        · show PR.err _ _=outW W
          unfold outW
          rw [fe,badR_some hj3 hq okR]
          rfl
      | true =>
        obtain ⟨ro,_⟩:=row_ok hws.1.mem hq rd.1
        have body:V2 (Z2z U9 Z0z (Z1 6) (Z0 (Z4z "Row" (X6 2 (X7 [] (callP Z18))) (m_c (.gl "Row")) (Z0 (Z1 7) (Z6))) (Z6))) (evT W (some (.d (.int (j:Nat)))) p5 (some (.r 1)) (some (.d (.str (txt (gW W (3 + j)))))) p8 none) S0 = .go (.nx (evT W (some (.d (.int (j:Nat)))) p5 (some (.r 1)) (some (.d (.str (txt (gW W (3 + j)))))) p8 none)) [tO,rowsO (((List.range (j + 1)).map fun i=>gW W (3 + i)).map rowOf)]:=by
          refine Y6u (x := .d .non) (X1b (Z5 rfl) rfl (Z7 (Z80 W1 (Z7 (Z5 rfl) Y5) (U4 rfl (Y4v ro))) Y5) ?_)
          rw [Y8j (S:=S0) (n:=1) (xs:=((((List.range j).map fun i=>gW W (3 + i)).map rowOf).map Lt.objQ).map X.d) rfl (by rw [List.length_map,List.length_map,List.length_map,List.length_map,List.length_range,sizeLine_eq]; omega)]
          show R.ok _ [tO,O.lst (((((List.range j).map fun i=>gW W (3 + i)).map rowOf).map Lt.objQ).map X.d++[X.d (Lt.objQ (rowOf (gW W (3 + j))))])]=R.ok _ [tO,O.lst (((((List.range (j + 1)).map fun i=>gW W (3 + i)).map rowOf).map Lt.objQ).map X.d)]
          rw [List.range_succ,List.map_append,List.map_append,List.map_append,List.map_append]
          rfl
        refine Fw.of_eq (Y4k body) (.nx ⟨j + 1,_,_,_,_,by rw [List.length_cons] at hn; omega,hr2,fun i hi=>?_,rfl,rfl⟩)
        rcases Nat.lt_succ_iff_lt_or_eq.mp hi with z | z
        · exact okR i z
        · rw [z]; exact hq
    · obtain ⟨n,p4,p5,p7,p8,hn,hr,okR,rfl,rfl⟩:=hor.resolve_right id
      rw [List.length_nil,Nat.add_zero] at hn
      subst hn
      have okR2:∀ i,3 + i < W.length→rowQ (gW W (3 + i))=true:=fun i hi=>okR i (by omega)
      have H:=hl_of hW h3 ok okR2
      have I:=in_of H
      rw [← drop_rows]
      have hS:OkS [tO,rowsO ((W.drop 3).map rowOf)]:=by
        have h1:OkS ([]++[tO]):=Y09.push (Z4u _)
        exact h1.push (Z4u _)
      have io:=Lt.init_of hS I (x4 := .r 1) ⟨_,_,Lt.sq_r (T:=[tO,rowsO ((W.drop 3).map rowOf)]) (k:=1) (ds:=(rsW W).map Lt.objQ) rfl⟩
      have fb0:firstBad W=none:=by rw [fe,badR_none okR2]; rfl
      have ixt:∀ {i:Nat} {l:List Str},[mlW W,slW W,alW W][i]?=some l→ixO [tO,rowsO ((W.drop 3).map rowOf)] (.r 0) (i:Int)=some (.d (tls l)):=fun {i l} h=>ix_stW (xs:=([mlW W,slW W,alW W].map tls).map X.d) rfl (by rw [List.getElem?_map,List.getElem?_map,h]; rfl)
      have args:Z0 (Q5 (Z1 3) (m_c (.int 0))) (Z0 (Q5 (Z1 3) (m_c (.int 1))) (Z0 (Q5 (Z1 3) (m_c (.int 2))) (Z0 (Z1 6) (Z6)))) (evT W p4 p5 (some (.r 1)) p7 p8 none) [tO,rowsO ((W.drop 3).map rowOf)] = .ok [.d (tls (mlW W)), .d (tls (slW W)), .d (tls (alW W)), .r 1] [tO,rowsO ((W.drop 3).map rowOf)]:=Z7 (Z0n (Z5 rfl) W1 (ixt (i:=0) rfl)) (Z7 (Z0n (Z5 rfl) W1 (ixt (i:=1) rfl)) (Z7 (Z0n (Z5 rfl) W1 (ixt (i:=2) rfl)) (Z7 (Z5 rfl) Y5)))
      unfold outW
      rw [fb0]
      show Fw _ (fun r=>Z3z r=match wrongW W with
        | some w => .err "InvalidTool" [("word", .str w)]
        | none => .ok (Lt.toolOf (mlW W) (slW W) (alW W) (rsW W)))
      unfold wrongW
      cases hw:wrongL (mlW W) (slW W) (alW W) (rsW W) with
      | some w =>
        rw [hw] at io
        exact Fw.of_eq (Y4i (Z8z args (U4 rfl io))) rfl
      | none =>
        rw [hw] at io
        exact Fw.one (Fw.retP (Z8z args (U4 rfl io)) Z9 rfl)
end
end Le
namespace Le
open Lw
open PySem PySem.Spec L2 Bv
open PyProof.Rows hiding St
variable [HasW]
section
variable {mb:MS} {l r:List Hd} {e e1:Ev} {S1 S2:Sto} {C:Str} {fs:List (Str × D)} {ro:RO} {tab:List (Str × Bool)} {i j:Nat} {m:SX} {f:D} {z:Str} {S:Sto}
theorem st_tryM (h:mb e S = .err C fs e1 S1) (hr:Y5j C fs e1 S1 l=ro):Z9t mb l e S=ro:=by
  unfold Z9t
  rw [h]
  exact hr
theorem st_tryMG {o:Out} (h:mb e S = .go o S1):Z9t mb l e S = .go o S1:=by
  unfold Z9t
  rw [h]
theorem hds_as (h1:tab.lookup C=some true) (h2:m C fs=some f) (h3:i < e1.length):Y5j C fs e1 S1 (.as_ tab i j m :: r) = .go (.nx ((e1.set j (some (.d f))).set i none)) S1:=by
  unfold Y5j
  rw [h1]
  show (match m C fs with
    | some f=>if i < e1.length then RO.go (.nx ((e1.set j (some (.d f))).set i none)) S1 else .bad
    | none => .bad)=_
  rw [h2]
  exact if_pos h3
theorem hds_no (h1:tab.lookup C=some false):Y5j C fs e1 S1 (.as_ tab i j m :: r)=Y5j C fs e1 S1 r:=by
  show (match tab.lookup C with
    | some true=>_
    | some false=>Y5j C fs e1 S1 r
    | none=>RO.bad)=_
  rw [h1]
end
section
variable {W:Wd} {S T:Sto} {n:Nat}
def zW (W:Wd):Str:=Lt.zT ((mlW W).headD "") (mlW W).tail ((mlW W).tail.filter fun s=>decide (s ∈ slW W)) ((mlW W).filter fun s=>decide (s ∈ alW W)) (rsW W)
def dueW (W:Wd):D:=match firstBad W with
  | some i => .tup [.str "text", .int (i:Nat)]
  | none=>match wrongW W with
    | some w => .tup [.str "tool", .str w]
    | none => .non
def heardW (W:Wd):D:=match firstBad W with
  | some i => .tup [.str "text", .int (i:Nat)]
  | none=>match wrongW W with
    | some w => .tup [.str "tool", .str w]
    | none => .str (zW W)
theorem hl_none (hW:Wl W) (h:firstBad W=none):Hl W:=by
  unfold firstBad at h
  split at h
  · cases h
  rename_i n0
  split at h
  · cases h
  rename_i n1
  split at h
  · cases h
  rename_i n2
  rw [Bool.not_eq_false] at n0 n1 n2
  have h3:=head_len n2
  refine ⟨hW,h3,n0,n1,n2,fun w hw=>?_⟩
  rw [drop_rows] at hw
  obtain ⟨j,hj,rfl⟩:=List.mem_map.mp hw
  cases q:rowQ (gW W (3 + j)) with
  | true=>rfl
  | false =>
    have:j ∈ badR W:=List.mem_filter.mpr ⟨hj,by rw [q]; rfl⟩
    cases z:badR W with
    | nil=>rw [z] at this; cases this
    | cons a b=>rw [z] at h; cases h
theorem heard_run (hW:Wl W):g__law_heard [.str (txtW W)] = .ok (heardW W):=by
  have rd:=tool_read_run hW
  refine Z5u ?_
  unfold Z59
  refine Fw.set (x := .d .non) (S1:=[]) W1 ?_
  have cmE:∀ {C:Str} {fs:List (Str × D)} {e:Ev},Z2t [.gl "Tool", .str (txtW W)] = .err C fs→D.noLf fs=true→e[0]?=some (some (.d (.str (txtW W))))→W0 1 (Z8 (Z6z "Tool" Z2x) (Z0 (Z4z "Tool" (X6 2 (X7 [] (callP Z2t))) (m_c (.gl "Tool")) (Z0 (Z1 0) (Z6))) (Z6))) e [] = .err C fs e []:=fun {C fs e} h hn he=>by
    have cm:Z4z "Tool" (X6 2 (X7 [] (callP Z2t))) (m_c (.gl "Tool")) (Z0 (Z1 0) (Z6)) e [] = .err C fs []:=Z80 W1 (Z7 (Z5 he) Y5) (U4 rfl (X1a (ds:=[.gl "Tool", .str (txtW W)]) rfl h hn))
    exact X0d (Y7n (Y31 cm))
  unfold outW at rd
  unfold heardW
  cases q:firstBad W with
  | some i =>
    rw [q] at rd
    refine Fw.seq (st_tryM (cmE rd rfl rfl) (hds_as (f := .tup [.str "text", .int (i:Nat)]) rfl ?_ (by show 2 < 3; decide))) ?_
    · show (if 2 ≤ sizeLine then some (D.tup [.str "text", .int (i:Nat)]) else none)=_
      rw [if_pos (hz4 (by decide))]
    · exact Fw.one (Fw.retP (Z5 rfl) Z9 rfl)
  | none =>
    rw [q] at rd
    cases q2:wrongW W with
    | some w =>
      rw [q2] at rd
      refine Fw.seq (st_tryM (cmE rd rfl rfl) ((hds_no rfl).trans (hds_as (f := .tup [.str "tool", .str w]) rfl ?_ (by show 2 < 3; decide)))) ?_
      · show (if 2 ≤ sizeLine then some (D.tup [.str "tool", .str w]) else none)=_
        rw [if_pos (hz4 (by decide))]
      · exact Fw.one (Fw.retP (Z5 rfl) Z9 rfl)
    | none =>
      rw [q2] at rd
      have H:=hl_none hW q
      obtain ⟨ok,_,_⟩:=Lt.ok_of (in_of H) q2
      refine Fw.seq (st_tryMG (Z8r (x := .d (.str (zW W))) (X4 (Z7 (Z80 W1 (Z7 (Z5 rfl) Y5) (U4 rfl (Y4v rd))) Y5) (Lt.strO_tool ok)))) ?_
      exact Fw.one (Fw.retP (Z5 rfl) Z9 rfl)
theorem due_run (hW:Wl W):g__law_due [tls (lns W)] = .ok (dueW W):=by
  refine Z5u ?_
  unfold Z7u
  refine Fw.set (x := .d (optI (firstBad W))) (S1:=[]) (X4 (Z7 (Z5 rfl) Y5) (U4 rfl (Z47 (first_bad_run hW)))) ?_
  unfold dueW
  cases q:firstBad W with
  | some i=>exact Fw.if_ (b:=true) (W4 (Y6 (Z5 rfl) W1 Z9 Z9 (by rfl))) (Fw.ift (Fw.retT (S1:=[]) (ds:=[.str "text", .int (i:Nat)]) (Z7 W1 (Z7 (Z5 rfl) Y5)) rfl (hz4 (by simp)) rfl))
  | none =>
    refine Fw.if_ (b:=false) (W4 (Y6 (Z5 rfl) W1 Z9 Z9 (by rfl))) (Fw.iff (Fw.seqNil ?_))
    refine Fw.set (x := .d (optS (wrongW W))) (S1:=[]) (X4 (Z7 (Z5 rfl) Y5) (U4 rfl (Z47 (wrong_run (hl_none hW q))))) ?_
    cases q2:wrongW W with
    | none=>exact Fw.one (Fw.retP (Y11 (W4 (Y6 (Z5 rfl) W1 Z9 Z9 (by rfl))) W1) Z9 rfl)
    | some w=>exact Fw.one (Fw.retP (Y0i (W4 (Y6 (Z5 rfl) W1 Z9 Z9 (by rfl))) (Z6f (ds:=[.str "tool", .str w]) (Z7 W1 (Z7 (Z5 rfl) Y5)) rfl (hz4 (by simp)))) Z9 rfl)
abbrev lnO (L:List Str):O := .lst ((L.map D.str).map X.d)
theorem sl_stW {L:List Str} {lo hi:Option Int} (h:S[n]?=some (lnO L)):slX S (.r n) lo hi=some (.d (tls (Z3s L lo hi))):=by
  have e:Z3s ((L.map D.str).map X.d) lo hi=((Z3s L lo hi).map D.str).map X.d:=by
    unfold Z3s
    rw [List.map_take,List.map_drop,List.map_take,List.map_drop,List.length_map,List.length_map]
  show (match S[n]? with
    | some (.lst xs)=>(ds? (Z3s xs lo hi)).map fun ds=>X.d (.lst ds)
    | _=>none)=_
  rw [h]
  show (ds? (Z3s ((L.map D.str).map X.d) lo hi)).map (fun ds=>X.d (.lst ds))=_
  rw [e,Y7l]
  rfl
theorem add_tlsW {a b:List Str} (h:a.length + b.length < 2000):Z2f (tls a) (tls b)=some (tls (a++b)):=by
  show (if (a.map D.str).length + (b.map D.str).length ≤ sizeLine then some (D.lst (a.map D.str++b.map D.str)) else none)=_
  rw [if_pos (hz4 (by simp; omega)),← List.map_append]
  rfl
theorem ev_addNW {e:Ev} {S1 S2:Sto} {ma mb:Bv.M} {a b:List Str} (h1:ma e S = .ok (.d (tls a)) S1) (h2:mb e S1 = .ok (.d (tls b)) S2) (h:a.length + b.length < 2000):Z6h ma mb e S = .ok (.r S2.length) (S2++[lnO (a++b)]):=by
  unfold Z6h
  rw [h1]
  show (mb e S1).bind (fun y S2=>X04 S2 (.d (tls a)) y)=_
  rw [h2]
  show X04 S2 (.d (tls a)) (.d (tls b))=_
  unfold X04
  show (match some ((a.map D.str).map X.d),some ((b.map D.str).map X.d) with
    | some xs,some ys=>if decide (xs.length + ys.length ≤ sizeLine) then R.ok (X.r S2.length) (S2++[O.lst (xs++ys)]) else .bad
    | _,_ => .bad)=_
  show (if decide (((a.map D.str).map X.d).length + ((b.map D.str).map X.d).length ≤ sizeLine) then R.ok (X.r S2.length) (S2++[O.lst ((a.map D.str).map X.d++(b.map D.str).map X.d)]) else .bad)=_
  rw [if_pos (decide_eq_true (hz4 (by simp; omega))),← List.map_append,← List.map_append]
theorem join_tlsW {l:List Str} (h:∀ z ∈ l,z.length ≤ 7) (hl:l.length ≤ 20):Z1d " " (.d (tls l)) T = .ok (.d (.str (Str.join " " l))) T:=Lt.join_ok h (by rw [sp1]; omega)
theorem join_stW (hW:Wl W) (h:S[n]?=some (lnO (lns W))):Z1d "\n" (.r n) S = .ok (.d (.str (txtW W))) S:=by
  have j:=Lt.join_ok (k:=48) (a := "\n") (l:=lns W) (T:=S) (fun z hz=>(lns_mem hW hz).1) (by rw [nl1]; unfold lns; rw [List.length_map]; have:=hW.len; omega)
  have it:items S (.r n)=some (((lns W).map D.str).map X.d):=by simp [items,h]
  unfold Z1d at j ⊢
  rw [it]
  exact j
theorem ix_lnW {L:List Str} {k:Nat} {z:Str} (h:S[n]?=some (lnO L)) (hk:L[k]?=some z):ixO S (.r n) (k:Int)=some (.d (.str z)):=ix_stW h (by rw [List.getElem?_map,List.getElem?_map,hk]; rfl)
theorem set_lnW {L:List Str} {k:Nat} {z:Str} (h:S[n]?=some (lnO L)) (hk:k < L.length):Z3u S (.r n) (.d (.int (k:Int))) (.d (.str z))=some (S.set n (lnO (L.set k z))):=by
  have hi:Z23 (.d (.int (k:Int)))=some (k:Int):=rfl
  unfold Z3u
  rw [hi]
  show (match S[n]? with
    | some (.lst xs)=>(ixN xs.length (k:Int)).map fun j=>S.set n (.lst (xs.set j (.d (.str z))))
    | _=>none)=_
  rw [h]
  show (ixN ((L.map D.str).map X.d).length (k:Int)).map (fun j=>S.set n (.lst (((L.map D.str).map X.d).set j (.d (.str z)))))=_
  unfold ixN
  rw [if_pos (by omega:(0:Int) ≤ (k:Int)),if_pos (by simp; omega),Option.map_some,Int.toNat_natCast]
  unfold lnO
  rw [List.map_set,List.map_set]
theorem rev_tlsW {m:Bv.M} {e:Ev} {S1:Sto} {l:List Str} (h:m e S = .ok (.d (tls l)) S1):Y57 m e S = .ok (.d (tls l.reverse)) S1:=by
  have e1:U9 S1 (.d (tls l))=true:=rfl
  have e2:(items S1 (.d (tls l))).bind ds?=some (l.map D.str):=Y7l _
  unfold Y57
  rw [h]
  show Y5y S1 (.d (tls l))=_
  unfold Y5y
  rw [e1,if_pos rfl,e2]
  show R.ok (X.d (.lst (l.map D.str).reverse)) S1=R.ok (X.d (.lst (l.reverse.map D.str))) S1
  rw [List.map_reverse]
theorem splitN_W (hW:Wl W):Z5n (txtW W) (.d (.str "\n")) T = .ok (.r T.length) (T++[lnO (lns W)]):=by
  have b1:((("\n" : Str).length) == 0)=false:=by decide +kernel
  have b2:decide ((txtW W).length + 2 ≤ sizeLine)=true:=decide_eq_true (by have:=txtW_len hW; rw [sizeLine_eq]; omega)
  have b3:Z5a (lns W)=true:=List.all_eq_true.mpr fun z hz=>(lns_mem hW hz).2.2
  unfold Z5n
  show (if !(("\n" : Str).length == 0) && decide ((txtW W).length + 2 ≤ sizeLine) && Z5a (Txt.split (txtW W) "\n") then R.ok (X.r T.length) (T++[O.lst ((Txt.split (txtW W) "\n").map fun z=>X.d (.str z))]) else .bad)=_
  rw [txtW_split hW,b1,b2,b3]
  show R.ok (X.r T.length) (T++[O.lst ((lns W).map fun z=>X.d (.str z))])=_
  unfold lnO
  rw [List.map_map]
  rfl
end
end Le
namespace Lw
open PySem PySem.Spec L2 Bv
open PyProof.Rows hiding St
variable [HasW]
theorem Y8a {S:Sto} {ns:List Int} {k:Nat} (hS:OkS S) (hk:k < 4):∃ S2,g__law_seed [.d (.scr ns), .d (.int k)] S = .ok (.r S.length) S2∧OkS S2∧S2.length=S.length + 1∧Z2g S2 S.length:=by
  by_cases hk2:k < ns.length ∨ k=0
  · exact X0b hS hk hk2
  have hp:∀ g n:Int,0 ≤ g→0 ≤ n→∃ S2,S2=S++[box g n]∧OkS S2∧S2.length=S.length + 1∧Z2g S2 S.length:=fun g n hg hn =>
    ⟨_,rfl,hS.push rfl,by simp,g,n,by simp,hg,hn⟩
  have h1:∀ i:Int,Y0o (.int 7411) (.int i)=some (.int (7411 * i)):=fun i=>Y7x (by decide)
  have h3:∀ i:Int,Y29 (.int i) (.int 2147483629)=some (.int (i % 2147483629)):=fun i=>Y3a (by decide)
  have h4:∀ i:Int,Y0o (.int i) (.int 48271)=some (.int (i * 48271)):=fun i=>Y4y (by decide)
  have h5:∀ i:Int,Y0o (.int 31013) (.int i)=some (.int (31013 * i)):=fun i=>Y7x (by decide)
  have h6:∀ i:Int,Y0o (.int i) (.int 50021)=some (.int (i * 50021)):=fun i=>Y4y (by decide)
  have h2:(2:Nat) ≤ sizeLine:=by decide
  have hl:¬ k < ns.length:=fun z=>hk2 (.inl z)
  by_cases h0:ns.length=0
  · have hn:ns=[]:=List.length_eq_zero_iff.mp h0
    subst hn
    obtain rfl | rfl | rfl:k=1 ∨ k=2 ∨ k=3:=by omega
    · obtain ⟨S2,rfl,r⟩:=hp 0 359553422 (by decide) (by decide)
      refine ⟨_,?_,r⟩
      unfold g__law_seed Y78 Z11
      simp [ev0,Y4,Z0l,W5,V2,W0,Z0t,X8,Z0b,V4,U6,Z1s,Z0w,Z00,Z0c,V6,Y1,Q5,Z1,m_c,Z8,Z0,Z6,W8,U2,W9,V7,W2,Z2z,Y3,Y9,Z0s,Z26,W7,V8,X9,Z0i,Z3j,Z1r,Z4s,X5,V0,R.bind,R.so,RO.then,items,ixO,ixD,Z23,Z2o,op2,X.get,tb,Z03,Z02,Z1b,Z0v,slX,V3,Q4,X6,X7,Z39,Z3z,Z0y,Z3u,Z3g,Z3t,Z3h,Z0u,Z3i,Z4r,Z0r,ints?,Z33,Z4j,Z4h,ds?,gets,callP,X.isD,D.noL,D.noLs,D.noLf,U9,Z01,Z1a,Z1n,Z4m,Z4o,Z4n,Z4y,h1,Y3l,h3,h4,h5,h2,box]
    · obtain ⟨S2,rfl,r⟩:=hp 0 717320816 (by decide) (by decide)
      refine ⟨_,?_,r⟩
      unfold g__law_seed Y78 Z11
      simp [ev0,Y4,Z0l,W5,V2,W0,Z0t,X8,Z0b,V4,U6,Z1s,Z0w,Z00,Z0c,V6,Y1,Q5,Z1,m_c,Z8,Z0,Z6,W8,U2,W9,V7,W2,Z2z,Y3,Y9,Z0s,Z26,W7,V8,X9,Z0i,Z3j,Z1r,Z4s,X5,V0,R.bind,R.so,RO.then,items,ixO,ixD,Z23,Z2o,op2,X.get,tb,Z03,Z02,Z1b,Z0v,slX,V3,Q4,X6,X7,Z39,Z3z,Z0y,Z3u,Z3g,Z3t,Z3h,Z0u,Z3i,Z4r,Z0r,ints?,Z33,Z4j,Z4h,ds?,gets,callP,X.isD,D.noL,D.noLs,D.noLf,U9,Z01,Z1a,Z1n,Z4m,Z4o,Z4n,Z4y,h1,Y3l,h3,h4,h5,h2,box]
    · obtain ⟨S2,rfl,r⟩:=hp 0 1075088210 (by decide) (by decide)
      refine ⟨_,?_,r⟩
      unfold g__law_seed Y78 Z11
      simp [ev0,Y4,Z0l,W5,V2,W0,Z0t,X8,Z0b,V4,U6,Z1s,Z0w,Z00,Z0c,V6,Y1,Q5,Z1,m_c,Z8,Z0,Z6,W8,U2,W9,V7,W2,Z2z,Y3,Y9,Z0s,Z26,W7,V8,X9,Z0i,Z3j,Z1r,Z4s,X5,V0,R.bind,R.so,RO.then,items,ixO,ixD,Z23,Z2o,op2,X.get,tb,Z03,Z02,Z1b,Z0v,slX,V3,Q4,X6,X7,Z39,Z3z,Z0y,Z3u,Z3g,Z3t,Z3h,Z0u,Z3i,Z4r,Z0r,ints?,Z33,Z4j,Z4h,ds?,gets,callP,X.isD,D.noL,D.noLs,D.noLf,U9,Z01,Z1a,Z1n,Z4m,Z4o,Z4n,Z4y,h1,Y3l,h3,h4,h5,h2,box]
  · have hm:Y29 (.int k) (.int ns.length)=some (.int ((k % ns.length:Nat):Int)):=by
      rw [Y3a (by omega),Int.natCast_emod]
    have hj:k % ns.length < ns.length:=Nat.mod_lt _ (by omega)
    have hv:atI ns ((k % ns.length:Nat):Int)=some ns[k % ns.length]:=by
      unfold atI ixN
      rw [if_pos (by omega),if_pos (by omega)]
      show ns[((k % ns.length:Nat):Int).toNat]?=_
      rw [Int.toNat_natCast]
      exact List.getElem?_eq_getElem hj
    generalize hz:(if ns[k % ns.length] < 0 then -ns[k % ns.length] else ns[k % ns.length])=z
    have z0:0 ≤ z:=by rw [← hz]; split <;> omega
    have hg:¬ (1000000000000000000:Int) ≤ 7411 * (k:Int) + 37 + z % 2147483629 * 50021:=by omega
    have hl0:0 < ns.length:=by omega
    have hab:Z33 [ns[k % ns.length]]=some z:=by rw [X2x,hz]
    obtain ⟨S2,rfl,r⟩:=hp 0 (((7411 * (k:Int) + 37 + z % 2147483629 * 50021) % 2147483629 * 48271 + 31013 * k) % 2147483629 + 1) (by decide) (by omega)
    refine ⟨_,?_,r⟩
    unfold g__law_seed Y78 Z11
    simp [ev0,Y4,Z0l,W5,V2,W0,Z0t,X8,Z0b,V4,U6,Z1s,Z0w,Z00,Z0c,V6,Y1,Q5,Z1,m_c,Z8,Z0,Z6,W8,U2,W9,V7,W2,Z2z,Y3,Y9,Z0s,Z26,W7,V8,X9,Z0i,Z3j,Z1r,Z4s,X5,V0,R.bind,R.so,RO.then,items,ixO,ixD,Z23,Z2o,op2,X.get,tb,Z03,Z02,Z1b,Z0v,slX,V3,Q4,X6,X7,Z39,Z3z,Z0y,Z3u,Z3g,Z3t,Z3h,Z0u,Z3i,Z4r,Z0r,ints?,Z33,Z4j,Z4h,ds?,gets,callP,X.isD,D.noL,D.noLs,D.noLf,U9,Z01,Z1a,Z1n,Z4m,Z4o,Z4n,Z4y,-Int.natCast_emod,h1,hl,hl0,hm,hv,hz,Y3l,hg,h3,h4,h5,h6,h2,box]
end Lw
namespace Le
open Lw
open PySem PySem.Spec L2 Bv
open PyProof.Rows hiding St
variable [HasW]
def q_0I:MIt:=(Z4g (Z0 (Z8 (Z0r Z4h) (Z0 (m_c (.int 1)) (Z0 (Z8 (Z0r Z4j) (Z0 (m_c (.int 4)) (Z0 (Z8 Z0u (Z0 (Z1 0) (Z6))) (Z6)))) (Z6)))) (Z6)))
def q_0B_0:MS:=(W0 2 (Z8 (X6 2 (X7 [] g__law_seed)) (Z0 (Z1 0) (Z0 (Z1 1) (Z6)))))
def q_0B_1I:MIt:=(Z4g (Z0 (m_c (.int 5)) (Z6)))
def q_0B_1B_0:MS:=(W0 4 (Z1e Z5n (Z8 (X6 1 (X7 [] (callP g__law_tool_text))) (Z0 (Z8 (X6 2 (X7 [] g__law_tool)) (Z0 (Z1 2) (Z0 (m_c (.int 6)) (Z6)))) (Z6))) (m_c (.str "\n"))))
def q_0B_1B_1I:MIt:=(Z4g (Z0 (Y1 Z2f (m_c (.int 1)) (Z8 (X6 2 (X7 [] g__law_choose)) (Z0 (Z1 2) (Z0 (m_c (.int 2)) (Z6))))) (Z6)))
def q_0B_1B_1B_0:MS:=(Z0w 8 9 (Z0 (Z8 (X6 2 (X7 [] g__law_choose)) (Z0 (Z1 2) (Z0 (Z8 Z0u (Z0 (Z1 4) (Z6))) (Z6)))) (Z0 (Z8 (X6 2 (X7 [] g__law_choose)) (Z0 (Z1 2) (Z0 (m_c (.int 6)) (Z6)))) (Z6))))
def q_0B_1B_1B_1:MS:=(W0 10 (Z1e Z1q (Q5 (Z1 4) (Z1 8)) (m_c (.str " "))))
def q_0B_1B_1B_2:MS:=(W0 11 (Z8 (X6 2 (X7 [] g__law_choose)) (Z0 (Z1 2) (Z0 (Z8 Z0u (Z0 (Z1 10) (Z6))) (Z6)))))
def q_0B_1B_1B_3:MS:=(W0 12 (Z8 (X6 2 (X7 [] g__law_one_of)) (Z0 (Z1 2) (Z0 (W9 (Z0 (m_c (.str "any")) (Z0 (m_c (.str "good")) (Z0 (m_c (.str "qqqq")) (Z0 (m_c (.str "to")) (Z0 (m_c (.str "")) (Z0 (m_c (.str "same")) (Z0 (m_c (.str "marks")) (Z0 (m_c (.str "take")) (Z6)))))))))) (Z6)))))
def q_0B_1B_1B_4C:MG Bool:=(W7 (V6 (Y1 eqD (Z1 9) (m_c (.int 0)))) (V6 (Y1 gtD (Z8 Z0u (Z0 (Z1 4) (Z6))) (m_c (.int 1)))))
def q_0B_1B_1B_4T:MS:=(W0 4 (Z6h (Y3 (Z1 4) (Z0s) (Y9 (Z1 8))) (Y3 (Z1 4) (Y9 (Y1 Z2f (Z1 8) (m_c (.int 1)))) (Z0s))))
def q_0B_1B_1B_4EC:MG Bool:=(V6 (Y1 eqD (Z1 9) (m_c (.int 1))))
def q_0B_1B_1B_4ET:MS:=(W0 4 (Z6h (Y1 Z2f (Y3 (Z1 4) (Z0s) (Y9 (Z1 8))) (Y3 (Z1 4) (Y9 (Z1 8)) (Y9 (Y1 Z2f (Z1 8) (m_c (.int 1)))))) (Y3 (Z1 4) (Y9 (Z1 8)) (Z0s))))
def q_0B_1B_1B_4EEC:MG Bool:=(V6 (Y1 eqD (Z1 9) (m_c (.int 2))))
def q_0B_1B_1B_4EET:MS:=(W0 4 (Z6h (Y1 Z2f (Y3 (Z1 4) (Z0s) (Y9 (Z1 8))) (Y57 (Y3 (Z1 4) (Y9 (Z1 8)) (Y9 (Y1 Z2f (Z1 8) (m_c (.int 2))))))) (Y3 (Z1 4) (Y9 (Y1 Z2f (Z1 8) (m_c (.int 2)))) (Z0s))))
def q_0B_1B_1B_4EEEC:MG Bool:=(V6 (Y1 eqD (Z1 9) (m_c (.int 3))))
def q_0B_1B_1B_4EEET_0:MS:=(W0 13 (W9 (Z0 (m_c (.str "")) (Z0 (m_c (.str "shown")) (Z0 (m_c (.str "asked good")) (Z0 (m_c (.str "drop qqqq to same")) (Z0 (m_c (.str "give any to good")) (Z0 (m_c (.str "drop any to same")) (Z6)))))))))
def q_0B_1B_1B_4EEET_1:MS:=(W0 4 (Z6h (Y1 Z2f (Y3 (Z1 4) (Z0s) (Y9 (Z1 8))) (W9 (Z0 (Z8 (X6 2 (X7 [] g__law_one_of)) (Z0 (Z1 2) (Z0 (Z1 13) (Z6)))) (Z6)))) (Y3 (Z1 4) (Y9 (Z1 8)) (Z0s))))
def q_0B_1B_1B_4EEET:MS:=(Y4 q_0B_1B_1B_4EEET_0 q_0B_1B_1B_4EEET_1)
def q_0B_1B_1B_4EEEE_0:MS:=(W0 14 (Y1 Z2f (Y3 (Z1 10) (Z0s) (Y9 (Z1 11))) (Y3 (W9 (Z0 (Z1 12) (Z6))) (Z0s) (Y9 (Y1 Y84 (m_c (.int 5)) (Z1 9))))))
def q_0B_1B_1B_4EEEE_1:MS:=(Z00 (Z1 4) (Z1 8) (Z1e Z1d (m_c (.str " ")) (Y1 Z2f (Z1 14) (Y3 (Z1 10) (Y9 (Y1 Z2f (Z1 11) (m_c (.int 1)))) (Z0s)))))
def q_0B_1B_1B_4EEEE:MS:=(Y4 q_0B_1B_1B_4EEEE_0 q_0B_1B_1B_4EEEE_1)
def q_0B_1B_1B_4EEE:MS:=(Z0l q_0B_1B_1B_4EEEC q_0B_1B_1B_4EEET q_0B_1B_1B_4EEEE)
def q_0B_1B_1B_4EE:MS:=(Z0l q_0B_1B_1B_4EEC q_0B_1B_1B_4EET q_0B_1B_1B_4EEE)
def q_0B_1B_1B_4E:MS:=(Z0l q_0B_1B_1B_4EC q_0B_1B_1B_4ET q_0B_1B_1B_4EE)
def q_0B_1B_1B_4:MS:=(Z0l q_0B_1B_1B_4C q_0B_1B_1B_4T q_0B_1B_1B_4E)
def q_0B_1B_1B:MS:=(Y4 q_0B_1B_1B_0 (Y4 q_0B_1B_1B_1 (Y4 q_0B_1B_1B_2 (Y4 q_0B_1B_1B_3 q_0B_1B_1B_4))))
def q_0B_1B_1:MS:=(Z4p (.nm 5) q_0B_1B_1I q_0B_1B_1B)
def q_0B_1B_2:MS:=(Z0w 6 7 (Z0 (Z8 (X6 1 (X7 [] (callP g__law_heard))) (Z0 (Z1e Z1d (m_c (.str "\n")) (Z1 4)) (Z6))) (Z0 (Z8 (X6 1 (X7 [] (callP g__law_due))) (Z0 (Z1 4) (Z6))) (Z6))))
def q_0B_1B_3C:MG Bool:=(W7 (V6 (Y1 isD (Z1 7) (m_c .non))) (X9 (X5 (Z7f (Z8v "str") [("Row" ,false),("Tool" ,false)] (Z1 6)))))
def q_0B_1B_3T:MS:=(X8 (m_c (.bl false)))
def q_0B_1B_3:MS:=(Z0l q_0B_1B_3C q_0B_1B_3T W5)
def q_0B_1B_4C:MG Bool:=(W7 (V6 (Y1 X1j (Z1 7) (m_c .non))) (V6 (Y1 neD (Z1 6) (Z1 7))))
def q_0B_1B_4T:MS:=(X8 (m_c (.bl false)))
def q_0B_1B_4:MS:=(Z0l q_0B_1B_4C q_0B_1B_4T W5)
def q_0B_1B:MS:=(Y4 q_0B_1B_0 (Y4 q_0B_1B_1 (Y4 q_0B_1B_2 (Y4 q_0B_1B_3 q_0B_1B_4))))
def q_0B_1:MS:=(Z4p (.nm 3) q_0B_1I q_0B_1B)
def q_0B:MS:=(Y4 q_0B_0 q_0B_1)
def q_0:MS:=(Z4p (.nm 1) q_0I q_0B)
def q_1C:MG Bool:=(V6 (Y1 neD (Z8 (X6 1 (X7 [] (callP g__law_heard))) (Z0 (m_c (.str "")) (Z6))) (U2 (Z0 (m_c (.str "text")) (Z0 (m_c (.int 0)) (Z6))))))
def q_1T:MS:=(X8 (m_c (.bl false)))
def q_1:MS:=(Z0l q_1C q_1T W5)
def q_2:MS:=(X8 (Y1 eqD (Z8 (X6 1 (X7 [] (callP g__law_heard))) (Z0 (m_c (.str "marks a")) (Z6))) (U2 (Z0 (m_c (.str "text")) (Z0 (m_c (.int 1)) (Z6))))))
def q:MS:=(Y4 q_0 (Y4 q_1 q_2))
theorem q_is:Y9d=q:=by kernel_rfl
structure Wk (k:Nat) (W:Wd):Prop where
  ne:W ≠ []
  len:W.length ≤ k
  ws:∀ w ∈ W,Ws w∧w.length ≤ 5
theorem Wk.wl {k:Nat} {W:Wd} (h:Wk k W) (hk:k ≤ 11):Wl W:=⟨h.ne,Nat.le_trans h.len hk,h.ws⟩
def norm (l:List Str):List Str:=if l=[] then [""] else l
theorem txt_norm {l:List Str}:txt (norm l)=Str.join " " l:=by
  unfold norm
  split
  · rename_i h
    rw [h]
    decide +kernel
  · rfl
theorem norm_ws {l:List Str} (hl:l.length ≤ 5) (hm:∀ z ∈ l,z ∈ BW):Ws (norm l)∧(norm l).length ≤ 5:=by
  unfold norm
  split
  · exact emp_ws
  · rename_i h
    exact ⟨⟨h,by omega,hm⟩,hl⟩
def ODD:Wd:=[[""],["shown"],["asked", "good"],["drop", "qqqq", "to", "same"],["give", "any", "to", "good"],["drop", "any", "to", "same"]]
def ODDT:List Str:=["", "shown", "asked good", "drop qqqq to same", "give any to good", "drop any to same"]
theorem odd_txt:ODD.map txt=ODDT:=by decide +kernel
theorem odd_ws:∀ w ∈ ODD,Ws w∧w.length ≤ 5:=fun w hw=>by
  have h:∀ w ∈ ODD,w ≠ []∧w.length ≤ 5∧∀ z ∈ w,z ∈ BW:=by decide +kernel
  obtain ⟨h1,h2,h3⟩:=h w hw
  exact ⟨⟨h1,by omega,h3⟩,h2⟩
def MORE8:List Str:=["any", "good", "qqqq", "to", "", "same", "marks", "take"]
theorem more_bw:∀ m ∈ MORE8,m ∈ BW:=by decide +kernel
section
variable {W:Wd} {S T T2:Sto} {n b k a:Nat}
theorem cut_mid {α:Type} {xs:List α} {a k:Nat}:Z3s xs (some (a:Int)) (some ((a:Int) + (k:Int)))=(xs.drop a).take k:=by
  unfold Z3s
  simp only [HT.sIx]
  rw [if_neg (by omega),if_neg (by omega),Int.toNat_natCast,show ((a:Int) + (k:Int)).toNat=a + k by omega]
  by_cases h:a ≤ xs.length
  · rw [Nat.min_eq_left h]
    by_cases h2:a + k ≤ xs.length
    · rw [Nat.min_eq_left h2,show a + k - a=k by omega]
    · rw [Nat.min_eq_right (by omega),List.take_of_length_le (by rw [List.length_drop]; omega),List.take_of_length_le (by rw [List.length_drop]; omega)]
  · rw [Nat.min_eq_right (show xs.length ≤ a by omega),List.drop_of_length_le (Nat.le_refl _),List.drop_of_length_le (by omega:xs.length ≤ a),List.take_nil,List.take_nil]
theorem drew_at (d:Drew T b T2) (h:n ≠ b):T2[n]?=T[n]?:=by
  obtain ⟨g,m,e,_⟩:=d
  rw [e]
  exact List.getElem?_set_ne (Ne.symm h)
theorem box_push (h:Z2g T b) {o:O}:Z2g (T++[o]) b:=by
  obtain ⟨g,m,e,r⟩:=h
  exact ⟨g,m,by rw [List.getElem?_append_left (List.getElem?_eq_some_iff.mp e).1]; exact e,r⟩
theorem box_setW (h:Z2g T b) (hn:n ≠ b) {o:O}:Z2g (T.set n o) b:=by
  obtain ⟨g,m,e,r⟩:=h
  exact ⟨g,m,by rw [List.getElem?_set_ne hn]; exact e,r⟩
theorem ok_setW (h:OkS T) {L:List Str}:OkS (T.set n (lnO L)):=by
  unfold OkS at *
  rw [List.length_set]
  refine List.all_eq_true.mpr fun o ho=>?_
  rcases List.mem_or_eq_of_mem_set ho with z | z
  · exact List.all_eq_true.mp h o z
  · rw [z]; exact Z4u _
structure LnAt (T:Sto) (b n k:Nat) (W:Wd):Prop where
  ok:OkS T
  box:Z2g T b
  at_:T[n]?=some (lnO (lns W))
  ne:n ≠ b
  wk:Wk k W
theorem LnAt.drew (h:LnAt T b n k W) (d:Drew T b T2):LnAt T2 b n k W:=⟨d.ok h.ok,d.at_ h.box.lt,by rw [drew_at d h.ne]; exact h.at_,h.ne,h.wk⟩
theorem LnAt.push {W':Wd} {k':Nat} (h:LnAt T b n k W) (hw:Wk k' W'):LnAt (T++[lnO (lns W')]) b T.length k' W':=⟨h.ok.push (Z4u _),box_push h.box,by simp,fun z=>by have:=h.box.lt; omega,hw⟩
theorem LnAt.put {w:List Str} (h:LnAt T b n k W) (ha:a < W.length) (hw:Ws w∧w.length ≤ 5):LnAt (T.set n (lnO ((lns W).set a (txt w)))) b n k (W.set a w):=by
  refine ⟨ok_setW h.ok,box_setW h.box h.ne,?_,h.ne,⟨fun z=>?_,by rw [List.length_set]; exact h.wk.len,fun x hx=>?_⟩⟩
  · rw [List.getElem?_set_self (List.getElem?_eq_some_iff.mp h.at_).1]
    unfold lns
    rw [List.map_set]
  · have:=congrArg List.length z
    rw [List.length_set] at this
    exact h.wk.ne (List.length_eq_zero_iff.mp this)
  · rcases List.mem_or_eq_of_mem_set hx with z | z
    · exact h.wk.ws x z
    · rw [z]; exact hw
theorem lns_app {A B:Wd}:lns (A++B)=lns A++lns B:=List.map_append
theorem lns_tk:lns (W.take a)=(lns W).take a:=lns_take.symm
theorem lns_dr:lns (W.drop a)=(lns W).drop a:=lns_drop.symm
theorem lns_len:(lns W).length=W.length:=List.length_map _
theorem lns_at (ha:a < W.length):(lns W)[a]?=some (txt (gW W a)):=by
  unfold lns
  rw [List.getElem?_map,(gW_at ha).1]
  rfl
abbrev evQ (ns:List Int) (o1:Option X) (b:Nat) (o3:Option X) (n:Nat) (o5 o6 o7 o8 o9 o10 o11 o12 o13 o14:Option X):Ev:=[some (.d (.scr ns)),o1,some (.r b),o3,some (.r n),o5,o6,o7,o8,o9,o10,o11,o12,o13,o14]
theorem again_ok {ns:List Int} {o1 o3 o5 o6 o7 o8 o9 o10 o11 o12 o13 o14:Option X} (h:LnAt T b n k W) (hk:k ≤ 10):Fw (q_0B_1B_1B (evQ ns o1 b o3 n o5 o6 o7 o8 o9 o10 o11 o12 o13 o14) T) (fun r=>∃ n' W' T' o8 o9 o10 o11 o12 o13 o14,r = .go (.nx (evQ ns o1 b o3 n' o5 o6 o7 o8 o9 o10 o11 o12 o13 o14)) T'∧LnAt T' b n' (k + 1) W'):=by
  have hl:=h.wk.len
  have hpos:0 < W.length:=List.length_pos_iff.mpr h.wk.ne
  obtain ⟨d8,T1,e1,d80,d8m,D1⟩:=Z17 (m:=(W.length:Nat)) h.ok h.box (by omega)
  obtain ⟨a,rfl⟩:∃ a:Nat,d8=a:=⟨d8.toNat,by omega⟩
  have h1:=h.drew D1
  have ha:a < W.length:=by omega
  obtain ⟨f,T2,e2,f0,fm,D2⟩:=Z17 (m:=6) h1.ok h1.box (by decide)
  have h2:=h1.drew D2
  have hws:=h.wk.ws _ (gW_at ha).2
  have hwpos:0 < (gW W a).length:=List.length_pos_iff.mpr hws.1.ne
  obtain ⟨s11,T3,e3,s0,sm,D3⟩:=Z17 (m:=((gW W a).length:Nat)) h2.ok h2.box (by have:=hws.2; omega)
  obtain ⟨s,rfl⟩:∃ s:Nat,s11=s:=⟨s11.toNat,by omega⟩
  have h3:=h2.drew D3
  obtain ⟨mD,T4,e4,hmD,D4⟩:=Z5b (ds:=MORE8.map D.str) h3.ok h3.box (by decide) (by decide)
  obtain ⟨m,hm,rfl⟩:=List.mem_map.mp hmD
  have h4:=h3.drew D4
  have lenR:∀ {T:Sto},LnAt T b n k W→Z0u [.r n] T = .ok (.d (.int (W.length:Nat))) T:=fun {T} h=>by
    rw [X1l (xs:=((lns W).map D.str).map X.d) h.at_,List.length_map,List.length_map,lns_len]
  unfold q_0B_1B_1B q_0B_1B_1B_0 q_0B_1B_1B_1 q_0B_1B_1B_2 q_0B_1B_1B_3 q_0B_1B_1B_4
  refine Fw.par (x := .d (.int (a:Nat))) (y := .d (.int f)) (S1:=T2) (Z7 (X4 (Z7 (Z5 rfl) (Z7 (X4 (Z7 (Z5 rfl) Y5) (lenR h)) Y5)) (U4 rfl e1)) (Z7 (X4 (Z7 (Z5 rfl) (Z7 W1 Y5)) (U4 rfl e2)) Y5)) ?_
  refine Fw.set (x := .d (tls (gW W a))) (S1:=T2) (Z6e (Z0n (Z5 rfl) (Z5 rfl) (ix_lnW h2.at_ (lns_at ha))) W1 hws.1.gsplit) ?_
  refine Fw.set (x := .d (.int (s:Nat))) (S1:=T3) (X4 (Z7 (Z5 rfl) (Z7 (X4 (Z7 (Z5 rfl) Y5) len_tls) Y5)) (U4 rfl e3)) ?_
  refine Fw.set (x := .d (.str m)) (S1:=T4) (X4 (Z7 (Z5 rfl) (Z7 (Z27 (ds:=MORE8.map D.str) (Z7 W1 (Z7 W1 (Z7 W1 (Z7 W1 (Z7 W1 (Z7 W1 (Z7 W1 (Z7 W1 Y5)))))))) rfl (hz4 (by decide))) Y5)) (U4 rfl e4)) ?_
  let E:Option X→Option X→Ev:=fun o13 o14=>evQ ns o1 b o3 n o5 o6 o7 (some (.d (.int (a:Nat)))) (some (.d (.int f))) (some (.d (tls (gW W a)))) (some (.d (.int (s:Nat)))) (some (.d (.str m))) o13 o14
  show Fw ((_:MS) (E o13 o14) T4) _
  have tk:∀ {o13 o14:Option X} {T:Sto},LnAt T b n k W→Y3 (Z1 4) (Z0s) (Y9 (Z1 8)) (E o13 o14) T = .ok (.d (tls (lns (W.take a)))) T:=fun {o13 o14 T} h=>Z0p (Z5 rfl) Z4x (Z1c (Z5 rfl)) (by rw [sl_stW h.at_,cut_to,lns_tk])
  have dr:∀ {o13 o14:Option X} {T:Sto},LnAt T b n k W→Y3 (Z1 4) (Y9 (Z1 8)) (Z0s) (E o13 o14) T = .ok (.d (tls (lns (W.drop a)))) T:=fun {o13 o14 T} h=>Z0p (Z5 rfl) (Z1c (Z5 rfl)) Z4x (by rw [sl_stW h.at_,cut_from,lns_dr])
  have drk:∀ {o13 o14:Option X} {T:Sto} {j:Nat},LnAt T b n k W→Y3 (Z1 4) (Y9 (Y1 Z2f (Z1 8) (m_c (.int (j:Nat))))) (Z0s) (E o13 o14) T = .ok (.d (tls (lns (W.drop (a + j))))) T:=fun {o13 o14 T j} h=>Z0p (Z5 rfl) (Z1c (Y6 (Z5 rfl) W1 Z9 Z9 (d := .int ((a + j:Nat):Int)) (by rw [Z1a,show ((a:Nat):Int) + (j:Nat)=((a + j:Nat):Int) by omega]))) Z4x (by rw [sl_stW h.at_,cut_from,lns_dr])
  have mid:∀ {o13 o14:Option X} {T:Sto} {j:Nat},LnAt T b n k W→Y3 (Z1 4) (Y9 (Z1 8)) (Y9 (Y1 Z2f (Z1 8) (m_c (.int (j:Nat))))) (E o13 o14) T = .ok (.d (tls (lns ((W.drop a).take j)))) T:=fun {o13 o14 T j} h=>Z0p (Z5 rfl) (Z1c (Z5 rfl)) (Z1c (Y6 (Z5 rfl) W1 Z9 Z9 Z1a)) (by rw [sl_stW h.at_,cut_mid,lns_tk,lns_dr])
  have wk:∀ {W':Wd},W' ≠ []→W'.length ≤ k + 1→(∀ w ∈ W',w ∈ W ∨ w ∈ ODD)→Wk (k + 1) W':=fun {W'} h0 h1 h2=>⟨h0,h1,fun w hw=>(h2 w hw).elim (h.wk.ws w) (odd_ws w)⟩
  have ft:∀ j:Int,eqD (.int f) (.int j)=some (.bl (decide (f=j))):=fun j=>Z6d
  by_cases c0:f=0∧1 < W.length
  ·
    have ht:q_0B_1B_1B_4C (E o13 o14) T4 = .ok true T4:=Z12 (W4 (Y6 (Z5 rfl) W1 Z9 Z9 (by rw [ft,decide_eq_true c0.1]))) (W4 (Y6 (X4 (Z7 (Z5 rfl) Y5) (lenR h4)) W1 Z9 Z9 (by rw [Z4m,decide_eq_true (by omega)])))
    refine Fw.one (Fw.if_ (b:=true) ht (Fw.ift ?_))
    unfold q_0B_1B_1B_4T
    refine Fw.set (x := .r T4.length) (S1:=T4++[lnO (lns (W.take a++W.drop (a + 1)))]) (by rw [lns_app]; exact ev_addNW (tk h4) (drk (j:=1) h4) (by rw [lns_len,lns_len,List.length_take,List.length_drop]; omega)) ?_
    refine Fw.nil ⟨T4.length,_,_,_,_,_,_,_,_,_,rfl,h4.push (wk (fun z=>?_) (by rw [List.length_append,List.length_take,List.length_drop]; omega) fun w hw=>?_)⟩
    · have:=congrArg List.length z
      rw [List.length_append,List.length_take,List.length_drop,List.length_nil] at this
      omega
    · rcases List.mem_append.mp hw with z | z
      · exact .inl (List.mem_of_mem_take z)
      · exact .inl (List.mem_of_mem_drop z)
  have ht:q_0B_1B_1B_4C (E o13 o14) T4 = .ok false T4:=by
    by_cases c:f=0
    · exact Z12 (W4 (Y6 (Z5 rfl) W1 Z9 Z9 (by rw [ft,decide_eq_true c]))) (W4 (Y6 (X4 (Z7 (Z5 rfl) Y5) (lenR h4)) W1 Z9 Z9 (by rw [Z4m,decide_eq_false (fun z=>c0 ⟨c,by omega⟩)])))
    · exact Z4a (W4 (Y6 (Z5 rfl) W1 Z9 Z9 (by rw [ft,decide_eq_false c])))
  refine Fw.one (Fw.if_ (b:=false) ht (Fw.iff ?_))
  unfold q_0B_1B_1B_4E
  by_cases c1:f=1
  ·
    refine Fw.if_ (b:=true) (W4 (Y6 (Z5 rfl) W1 Z9 Z9 (by rw [ft,decide_eq_true c1]))) (Fw.ift ?_)
    unfold q_0B_1B_1B_4ET
    refine Fw.set (x := .r T4.length) (S1:=T4++[lnO (lns (W.take a++(W.drop a).take 1++W.drop a))]) (by rw [lns_app,lns_app]; exact ev_addNW (Y6 (tk h4) (mid (j:=1) h4) Z9 Z9 (add_tlsW (by rw [lns_len,lns_len,List.length_take,List.length_take,List.length_drop]; omega))) (dr h4) (by rw [List.length_append,lns_len,lns_len,lns_len,List.length_take,List.length_take,List.length_drop]; omega)) ?_
    refine Fw.nil ⟨T4.length,_,_,_,_,_,_,_,_,_,rfl,h4.push (wk (fun z=>?_) (by rw [List.length_append,List.length_append,List.length_take,List.length_take,List.length_drop]; omega) fun w hw=>?_)⟩
    · have:=congrArg List.length z
      rw [List.length_append,List.length_append,List.length_take,List.length_take,List.length_drop,List.length_nil] at this
      omega
    · rcases List.mem_append.mp hw with z | z
      · rcases List.mem_append.mp z with z | z
        · exact .inl (List.mem_of_mem_take z)
        · exact .inl (List.mem_of_mem_drop (List.mem_of_mem_take z))
      · exact .inl (List.mem_of_mem_drop z)
  refine Fw.if_ (b:=false) (W4 (Y6 (Z5 rfl) W1 Z9 Z9 (by rw [ft,decide_eq_false c1]))) (Fw.iff ?_)
  unfold q_0B_1B_1B_4EE
  by_cases c2:f=2
  ·
    refine Fw.if_ (b:=true) (W4 (Y6 (Z5 rfl) W1 Z9 Z9 (by rw [ft,decide_eq_true c2]))) (Fw.ift ?_)
    unfold q_0B_1B_1B_4EET
    have rv:lns ((W.drop a).take 2).reverse=(lns ((W.drop a).take 2)).reverse:=by unfold lns; rw [List.map_reverse]
    refine Fw.set (x := .r T4.length) (S1:=T4++[lnO (lns (W.take a++((W.drop a).take 2).reverse++W.drop (a + 2)))]) (by rw [lns_app,lns_app,rv]; exact ev_addNW (Y6 (tk h4) (rev_tlsW (mid (j:=2) h4)) Z9 Z9 (add_tlsW (by rw [List.length_reverse,lns_len,lns_len,List.length_take,List.length_take,List.length_drop]; omega))) (drk (j:=2) h4) (by rw [List.length_append,List.length_reverse,lns_len,lns_len,lns_len,List.length_take,List.length_take,List.length_drop,List.length_drop]; omega)) ?_
    refine Fw.nil ⟨T4.length,_,_,_,_,_,_,_,_,_,rfl,h4.push (wk (fun z=>?_) (by rw [List.length_append,List.length_append,List.length_reverse,List.length_take,List.length_take,List.length_drop,List.length_drop]; omega) fun w hw=>?_)⟩
    · have:=congrArg List.length z
      rw [List.length_append,List.length_append,List.length_reverse,List.length_take,List.length_take,List.length_drop,List.length_drop,List.length_nil] at this
      omega
    · rcases List.mem_append.mp hw with z | z
      · rcases List.mem_append.mp z with z | z
        · exact .inl (List.mem_of_mem_take z)
        · exact .inl (List.mem_of_mem_drop (List.mem_of_mem_take (List.mem_reverse.mp z)))
      · exact .inl (List.mem_of_mem_drop z)
  refine Fw.if_ (b:=false) (W4 (Y6 (Z5 rfl) W1 Z9 Z9 (by rw [ft,decide_eq_false c2]))) (Fw.iff ?_)
  unfold q_0B_1B_1B_4EEE
  by_cases c3:f=3
  ·
    refine Fw.if_ (b:=true) (W4 (Y6 (Z5 rfl) W1 Z9 Z9 (by rw [ft,decide_eq_true c3]))) (Fw.ift ?_)
    unfold q_0B_1B_1B_4EEET q_0B_1B_1B_4EEET_0 q_0B_1B_1B_4EEET_1
    obtain ⟨oD,T5,e5,hoD,D5⟩:=Z5b (ds:=ODDT.map D.str) h4.ok h4.box (by decide) (by decide)
    obtain ⟨ot,hot,rfl⟩:=List.mem_map.mp hoD
    rw [← odd_txt] at hot
    obtain ⟨ow,how,rfl⟩:=List.mem_map.mp hot
    have h5:=h4.drew D5
    refine Fw.seqSeq (Fw.set (x := .d (tls ODDT)) (S1:=T4) (Z27 (ds:=ODDT.map D.str) (Z7 W1 (Z7 W1 (Z7 W1 (Z7 W1 (Z7 W1 (Z7 W1 Y5)))))) rfl (hz4 (by decide))) ?_)
    have l1:lns [ow]=[txt ow]:=rfl
    have tk4:=tk (o13:=some (.d (tls ODDT))) (o14:=o14) h4
    have dr5:=dr (o13:=some (.d (tls ODDT))) (o14:=o14) h5
    have ol:W9 (Z0 (Z8 (X6 2 (X7 [] g__law_one_of)) (Z0 (Z1 2) (Z0 (Z1 13) (Z6)))) (Z6)) (E (some (.d (tls ODDT))) o14) T4 = .ok (.d (tls (lns [ow]))) T5:=Z27 (ds:=[.str (txt ow)]) (Z7 (X4 (Z7 (Z5 rfl) (Z7 (Z5 rfl) Y5)) (U4 rfl e5)) Y5) rfl (hz4 (by simp))
    refine Fw.set (x := .r T5.length) (S1:=T5++[lnO (lns (W.take a++[ow]++W.drop a))]) (by rw [lns_app,lns_app]; exact ev_addNW (Y6 tk4 ol Z9 Z9 (add_tlsW (by rw [lns_len,lns_len,List.length_take,List.length_singleton]; omega))) dr5 (by rw [List.length_append,lns_len,lns_len,lns_len,List.length_take,List.length_singleton,List.length_drop]; omega)) ?_
    refine Fw.nil ⟨T5.length,_,_,_,_,_,_,_,_,_,rfl,h5.push (wk (fun z=>by simp at z) (by rw [List.length_append,List.length_append,List.length_take,List.length_singleton,List.length_drop]; omega) fun w hw=>?_)⟩
    rcases List.mem_append.mp hw with z | z
    · rcases List.mem_append.mp z with z | z
      · exact .inl (List.mem_of_mem_take z)
      · rw [List.mem_singleton.mp z]; exact .inr how
    · exact .inl (List.mem_of_mem_drop z)
  refine Fw.if_ (b:=false) (W4 (Y6 (Z5 rfl) W1 Z9 Z9 (by rw [ft,decide_eq_false c3]))) (Fw.iff ?_)
  unfold q_0B_1B_1B_4EEEE q_0B_1B_1B_4EEEE_0 q_0B_1B_1B_4EEEE_1
  have hw5:=hws.2
  obtain ⟨j,hj,hj1⟩:∃ j:Nat,5 - f=(j:Int)∧(j ≤ 1 ∨ f=0):=by
    by_cases z:f=0
    · exact ⟨5,by omega, .inr z⟩
    · exact ⟨(5 - f).toNat,by omega, .inl (by omega)⟩
  let bent:List Str:=(gW W a).take s++[m].take j
  have hbl:([m].take j).length ≤ 1:=by rw [List.length_take]; simp; omega
  have wtk:∀ {o13 o14:Option X} {T:Sto},Y3 (Z1 10) (Z0s) (Y9 (Z1 11)) (E o13 o14) T = .ok (.d (tls ((gW W a).take s))) T:=fun {o13 o14 T}=>Z0p (Z5 rfl) Z4x (Z1c (Z5 rfl)) sl_toW
  have wdr:∀ {o13 o14:Option X} {T:Sto},Y3 (Z1 10) (Y9 (Y1 Z2f (Z1 11) (m_c (.int 1)))) (Z0s) (E o13 o14) T = .ok (.d (tls ((gW W a).drop (s + 1)))) T:=fun {o13 o14 T}=>Z0p (Z5 rfl) (Z1c (Y6 (Z5 rfl) W1 Z9 Z9 (d := .int ((s + 1:Nat):Int)) (by rw [Z1a]; rfl))) Z4x sl_fromW
  have msl:Y3 (W9 (Z0 (Z1 12) (Z6))) (Z0s) (Y9 (Y1 Y84 (m_c (.int 5)) (Z1 9))) (E o13 o14) T4 = .ok (.d (tls ([m].take j))) T4:=Z0p (Z27 (ds:=[.str m]) (Z7 (Z5 rfl) Y5) rfl (hz4 (by simp))) Z4x (Z1c (Y6 W1 (Z5 rfl) Z9 Z9 (by rw [Z1n,hj]))) (sl_toW (ws:=[m]) (k:=j))
  have hbent:bent.length ≤ s + 1:=by
    show ((gW W a).take s++[m].take j).length ≤ _
    rw [List.length_append,List.length_take]
    omega
  refine Fw.seqSeq (Fw.set (x := .d (tls bent)) (S1:=T4) (Y6 wtk msl Z9 Z9 (add_tlsW (by rw [List.length_take]; omega))) ?_)
  let fin:List Str:=bent++(gW W a).drop (s + 1)
  have hfin:fin.length ≤ 5:=by
    show (bent++(gW W a).drop (s + 1)).length ≤ 5
    rw [List.length_append,List.length_drop]
    omega
  have hfm:∀ z ∈ fin,z ∈ BW:=fun z hz=>by
    rcases List.mem_append.mp (show z ∈ bent++(gW W a).drop (s + 1) from hz) with y | y
    · rcases List.mem_append.mp (show z ∈ (gW W a).take s++[m].take j from y) with y | y
      · exact hws.1.mem z (List.mem_of_mem_take y)
      · rw [List.mem_singleton.mp (List.mem_of_mem_take y)]; exact more_bw m hm
    · exact hws.1.mem z (List.mem_of_mem_drop y)
  have jn:=join_tlsW (T:=T4) (l:=fin) (fun z hz=>(bw_plain (hfm z hz)).1) (by omega)
  rw [← txt_norm] at jn
  refine Fw.sub (S4:=T4.set n (lnO ((lns W).set a (txt (norm fin))))) (Z6e W1 (Y6 (Z5 rfl) wdr Z9 Z9 (add_tlsW (by rw [List.length_drop]; omega))) jn) (Z5 rfl) (Z5 rfl) (set_lnW h4.at_ (by rw [lns_len]; exact ha)) ?_
  have hp:=h4.put ha (norm_ws hfin hfm)
  exact Fw.nil ⟨n,_,_,_,_,_,_,_,_,_,rfl,⟨hp.ok,hp.box,hp.at_,hp.ne,⟨hp.wk.ne,Nat.le_succ_of_le hp.wk.len,hp.wk.ws⟩⟩⟩
end
end Le
namespace Le
open Lw
open PySem PySem.Spec L2 Bv
open PyProof.Rows hiding St
variable [HasW]
section
variable {W:Wd} {S T T2:Sto} {n b k:Nat} {m0:Str} {ms sh as:List Str} {rows:List Lt.RowQ}
def wT (m0:Str) (ms sh as:List Str) (rows:List Lt.RowQ):Wd:=("marks" :: m0 :: ms) :: ("shown" :: sh) :: ("asked" :: as) :: rows.map fun r=>wordsR r.1 r.2.1 r.2.2.1 r.2.2.2
theorem wT_lns:lns (wT m0 ms sh as rows)=Lt.linesT m0 ms sh as rows:=by
  unfold lns wT Lt.linesT
  rw [List.map_cons,List.map_cons,List.map_cons,List.map_map]
  rfl
theorem names_bw:∀ x ∈ Lt.NAMES,x ∈ BW:=by decide +kernel
theorem haps_bw:∀ x ∈ Lt.HAPS,x ∈ BW:=by decide +kernel
theorem heads_bw:("marks" : Str) ∈ BW∧("shown" : Str) ∈ BW∧("asked" : Str) ∈ BW∧("any" : Str) ∈ BW∧("same" : Str) ∈ BW∧("to" : Str) ∈ BW∧("take" : Str) ∈ BW∧("keep" : Str) ∈ BW:=by decide +kernel
theorem wT_wk (h:Lt.ToolOk m0 ms sh as rows) (hr:rows.length ≤ 6):Wk 9 (wT m0 ms sh as rows):=by
  obtain ⟨q1,q2,q3,q4,q5,q6,q7,q8⟩:=heads_bw
  have few:=h.few
  have ls:=h.sh.length_le
  have la:=h.as.length_le
  rw [List.length_cons] at la
  refine ⟨by simp [wT],by simp [wT]; omega,fun w hw=>?_⟩
  have mk:∀ {l:List Str},l ≠ []→l.length ≤ 5→(∀ z ∈ l,z ∈ BW)→Ws l∧l.length ≤ 5:=fun {l} h0 h5 hm=>⟨⟨h0,by omega,hm⟩,h5⟩
  rcases List.mem_cons.mp hw with rfl | hw
  · refine mk (by simp) (by simp; omega) fun z hz=>?_
    rcases List.mem_cons.mp hz with rfl | hz
    · exact q1
    · exact names_bw z (h.names z hz)
  rcases List.mem_cons.mp hw with rfl | hw
  · refine mk (by simp) (by simp; omega) fun z hz=>?_
    rcases List.mem_cons.mp hz with rfl | hz
    · exact q2
    · exact names_bw z (h.names z (List.mem_cons_of_mem _ (h.sh.subset hz)))
  rcases List.mem_cons.mp hw with rfl | hw
  · refine mk (by simp) (by simp; omega) fun z hz=>?_
    rcases List.mem_cons.mp hz with rfl | hz
    · exact q3
    · exact names_bw z (h.names z (h.as.subset hz))
  · obtain ⟨r,hr,rfl⟩:=List.mem_map.mp hw
    obtain ⟨r1,r2,r3,_⟩:=(h.rows r hr).ok h.names
    have b1:=haps_bw _ r1
    have b2:r.2.1 ∈ BW:=(List.mem_cons.mp r2).elim (fun z=>z ▸ q4) fun z=>names_bw _ z
    have b3:r.2.2.1 ∈ BW:=(List.mem_cons.mp r3).elim (fun z=>z ▸ q5) fun z=>names_bw _ z
    unfold wordsR
    split
    · refine mk (by simp) (by simp) fun z hz=>?_
      simp only [List.mem_cons,List.not_mem_nil,or_false] at hz
      rcases hz with rfl | rfl | rfl | rfl | rfl
      · exact b1
      · exact b2
      · split
        · exact q7
        · exact q8
      · exact q6
      · exact b3
    · refine mk (by simp) (by simp) fun z hz=>?_
      simp only [List.mem_cons,List.not_mem_nil,or_false] at hz
      rcases hz with rfl | rfl | rfl | rfl
      · exact b1
      · exact b2
      · exact q6
      · exact b3
theorem LnAt.mono {k':Nat} (h:LnAt T b n k W) (hk:k ≤ k'):LnAt T b n k' W:=⟨h.ok,h.box,h.at_,h.ne,⟨h.wk.ne,Nat.le_trans h.wk.len hk,h.wk.ws⟩⟩
theorem due_noL:(dueW W).noL=true:=by
  unfold dueW
  cases firstBad W with
  | some i=>rfl
  | none=>cases wrongW W <;> rfl
theorem gets_ln (h:S[n]?=some (lnO (lns W))):gets S [.r n]=some [tls (lns W)]:=by
  have g:(X.r n).get S=some (tls (lns W)):=X1d (ds:=(lns W).map D.str) h
  unfold gets gets
  rw [g]
theorem turn_ok {ns:List Int} {o1 o3 o4 o5 o6 o7 o8 o9 o10 o11 o12 o13 o14:Option X} (hS:OkS S) (hb:Z2g S b):Fw (q_0B_1B [some (.d (.scr ns)),o1,some (.r b),o3,o4,o5,o6,o7,o8,o9,o10,o11,o12,o13,o14] S) (fun r=>∃ T o4 o5 o6 o7 o8 o9 o10 o11 o12 o13 o14,r = .go (.nx [some (.d (.scr ns)),o1,some (.r b),o3,o4,o5,o6,o7,o8,o9,o10,o11,o12,o13,o14]) T∧OkS T∧Z2g T b):=by
  obtain ⟨m0,ms,sh,as,rows,S1,e1,⟨ht,hr⟩,D1⟩:=Lt.tool_ok hS hb
  have hk1:=D1.ok hS
  have hb1:=D1.at_ hb.lt
  have w0:=wT_wk ht hr
  have tx:=Lt.text_ok ht
  have etx:Lt.zT m0 ms sh as rows=txtW (wT m0 ms sh as rows):=by
    unfold Lt.zT txtW
    rw [wT_lns]
  rw [etx] at tx
  unfold q_0B_1B q_0B_1B_0 q_0B_1B_1
  refine Fw.set (x := .r S1.length) (S1:=S1++[lnO (lns (wT m0 ms sh as rows))]) (Z6e (X4 (Z7 (X4 (Z7 (Z5 rfl) (Z7 W1 Y5)) (U4 rfl e1)) Y5) (U4 rfl (Z47 tx))) W1 (splitN_W (w0.wl (by decide)))) ?_
  have L0:LnAt (S1++[lnO (lns (wT m0 ms sh as rows))]) b S1.length 9 (wT m0 ms sh as rows):=⟨hk1.push (Z4u _),box_push hb1,by simp,fun z=>by have:=hb1.lt; omega,w0⟩
  obtain ⟨c,S2,e2,c0,cm,D2⟩:=Z17 (m:=2) L0.ok L0.box (by decide)
  obtain ⟨c,rfl⟩:∃ j:Nat,c=j:=⟨c.toNat,by omega⟩
  have L1:=L0.drew D2
  have hi:q_0B_1B_1I (evQ ns o1 b o3 S1.length o5 o6 o7 o8 o9 o10 o11 o12 o13 o14) (S1++[lnO (lns (wT m0 ms sh as rows))]) = .ok ((List.range (1 + c)).map fun j:Nat=>X.d (.int (0 + (j:Int))), .free) S2:=Z6g (n:=((1 + c:Nat):Int)) (Z7 (Y6 W1 (X4 (Z7 (Z5 rfl) (Z7 W1 Y5)) (U4 rfl e2)) Z9 Z9 (by rw [Z1a,show (1:Int) + (c:Nat)=((1 + c:Nat):Int) by omega])) Y5) (Z3f (by omega))
  refine Fw.for_ (l:=List.range (1 + c)) (f:=fun j:Nat=>X.d (.int (0 + (j:Int)))) (lk := .free) (S1:=S2) hi (fun l e T=>l.length ≤ 2∧∃ n W o5 o6 o7 o8 o9 o10 o11 o12 o13 o14,e=evQ ns o1 b o3 n o5 o6 o7 o8 o9 o10 o11 o12 o13 o14∧LnAt T b n (11 - l.length) W) (fun _ _=>False) ⟨by rw [List.length_range]; omega,_,_,_,_,_,_,_,_,_,_,_,_,rfl,L1.mono (by rw [List.length_range]; omega)⟩ (fun _ _ _ _=>rfl) (fun j l e T ⟨hl,n,W,p5,p6,p7,p8,p9,p10,p11,p12,p13,p14,he,L⟩=>?_) fun e T hor=>?_
  · subst he
    rw [List.length_cons] at hl L
    refine ⟨evQ ns o1 b o3 n (some (.d (.int (0 + (j:Int))))) p6 p7 p8 p9 p10 p11 p12 p13 p14,rfl,(again_ok L (by omega)).mono ?_⟩
    rintro r ⟨n',W',T',q8,q9,q10,q11,q12,q13,q14,rfl,L'⟩
    exact .nx ⟨by omega,n',W',_,_,_,_,_,_,_,_,_,_,rfl,L'.mono (by omega)⟩
  · obtain ⟨_,n,W,p5,p6,p7,p8,p9,p10,p11,p12,p13,p14,rfl,L⟩:=hor.resolve_right id
    have hW:=L.wk.wl (Nat.le_refl _)
    unfold q_0B_1B_2
    refine Fw.par (x := .d (heardW W)) (y := .d (dueW W)) (S1:=T) (Z7 (X4 (Z7 (Z6e W1 (Z5 rfl) (join_stW hW L.at_)) Y5) (U4 rfl (Z47 (heard_run hW)))) (Z7 (X4 (Z7 (Z5 rfl) Y5) (U4 rfl (Y9k (gets_ln L.at_) (due_run hW) due_noL))) Y5)) ?_
    have goal:∀ {e:Ev},e=evQ ns o1 b o3 n p5 (some (.d (heardW W))) (some (.d (dueW W))) p8 p9 p10 p11 p12 p13 p14→∃ T' o4 o5 o6 o7 o8 o9 o10 o11 o12 o13 o14,(RO.go (.nx e) T) = .go (.nx [some (.d (.scr ns)),o1,some (.r b),o3,o4,o5,o6,o7,o8,o9,o10,o11,o12,o13,o14]) T'∧OkS T'∧Z2g T' b:=fun {e} he=>by
      subst he
      exact ⟨T,_,_,_,_,_,_,_,_,_,_,_,rfl,L.ok,L.box⟩
    show Fw ((_:MS) (evQ ns o1 b o3 n p5 (some (.d (heardW W))) (some (.d (dueW W))) p8 p9 p10 p11 p12 p13 p14) T) _
    have two:(dueW W = .non∧∃ z,heardW W = .str z) ∨ ∃ d1 d2,dueW W = .tup [d1,d2]∧heardW W = .tup [d1,d2]∧fl 1 (.tup [d1,d2])=true:=by
      unfold dueW heardW
      cases firstBad W with
      | some i=>exact .inr ⟨_,_,rfl,rfl,rfl⟩
      | none =>
        cases wrongW W with
        | some w=>exact .inr ⟨_,_,rfl,rfl,rfl⟩
        | none=>exact .inl ⟨rfl,_,rfl⟩
    unfold q_0B_1B_3 q_0B_1B_3C q_0B_1B_4 q_0B_1B_4C
    rcases two with ⟨h1,z,h2⟩ | ⟨d1,d2,h1,h2,hf⟩
    · rw [h1,h2] at goal ⊢
      refine Fw.if_ (b:=false) (Z12 (W4 (Y6 (Z5 rfl) W1 Z9 Z9 (by rfl))) (Z1p (V5 (Y32 (Z5 rfl) (by rfl)) rfl))) (Fw.iff (Fw.seqNil ?_))
      exact Fw.one (Fw.if_ (b:=false) (Z4a (W4 (Y6 (Z5 rfl) W1 Z9 Z9 (by rfl)))) (Fw.iff (Fw.seqNil (Fw.nil (goal rfl)))))
    · rw [h1,h2] at goal ⊢
      refine Fw.if_ (b:=false) (Z4a (W4 (Y6 (Z5 rfl) W1 Z9 Z9 (by rfl)))) (Fw.iff (Fw.seqNil ?_))
      exact Fw.one (Fw.if_ (b:=false) (Z12 (W4 (Y6 (Z5 rfl) W1 Z9 Z9 (by rfl))) (W4 (Y6 (Z5 rfl) (Z5 rfl) Z9 Z9 (Y6h hf (by decide))))) (Fw.iff (Fw.seqNil (Fw.nil (goal rfl)))))
end
theorem last_facts:nm "a" = true:=by kernel_rfl
theorem last1:g__law_heard [.str ""] = .ok (.tup [.str "text", .int 0]):=by
  have hW:Wl [[""]]:=⟨by simp,by simp,fun w hw=>by rw [List.mem_singleton.mp hw]; exact emp_ws⟩
  have h:=heard_run hW
  have e:txtW [[""]] = "" := by decide +kernel
  have f:firstBad [[""]]=some 0:=by
    have:headB "marks" (gW [[""]] 0)=false:=by
      show (decide (("" : Str) = "marks") && (([]:List Str).all nm && !(decide (("marks" : Str) = "marks") && true)))=false
      rw [decide_eq_false (by decide +kernel)]
      rfl
    unfold firstBad
    rw [if_pos this]
  rw [e] at h
  unfold heardW at h
  rw [f] at h
  exact h
theorem last2:g__law_heard [.str "marks a"] = .ok (.tup [.str "text", .int 1]):=by
  have hW:Wl [["marks", "a"]]:=⟨by simp,by simp,fun w hw=>by
    rw [List.mem_singleton.mp hw]
    exact ⟨⟨by simp,by simp,by decide +kernel⟩,by simp⟩⟩
  have h:=heard_run hW
  have e:txtW [["marks", "a"]] = "marks a" := by decide +kernel
  have f:firstBad [["marks", "a"]]=some 1:=by
    have h0:headB "marks" (gW [["marks", "a"]] 0)=true:=by
      show (decide (("marks" : Str) = "marks") && (nm "a" && true && !(decide (("marks" : Str) = "marks") && false)))=true
      rw [last_facts,decide_eq_true rfl]
      rfl
    unfold firstBad
    rw [if_neg (by rw [h0]; simp),if_pos (by rfl)]
  rw [e] at h
  unfold heardW at h
  rw [f] at h
  exact h
theorem plainE (ns:List Int) (hl:ns.length ≤ 63):g_law [.scr ns] = .ok (.bl true):=by
  refine Z5u ?_
  rw [q_is]
  unfold q q_0
  refine Fw.forI (S1:=[]) (X2a (lo:=1) (hi:=4)) (fun e T=>∃ o1 o2 o3 o4 o5 o6 o7 o8 o9 o10 o11 o12 o13 o14,e=[some (.d (.scr ns)),o1,o2,o3,o4,o5,o6,o7,o8,o9,o10,o11,o12,o13,o14]∧OkS T) ⟨_,_,_,_,_,_,_,_,_,_,_,_,_,_,rfl,Y09⟩ (fun _ _ _=>rfl) (fun x hx e T ⟨o1,o2,o3,o4,o5,o6,o7,o8,o9,o10,o11,o12,o13,o14,he,hT⟩=>?_) fun e T ⟨o1,o2,o3,o4,o5,o6,o7,o8,o9,o10,o11,o12,o13,o14,he,hT⟩=>?_
  · subst he
    obtain ⟨i,hi,rfl⟩:=List.mem_map.mp hx
    rw [List.mem_range] at hi
    refine ⟨[some (.d (.scr ns)),some (.d (.int (0 + (i:Int)))),o2,o3,o4,o5,o6,o7,o8,o9,o10,o11,o12,o13,o14],rfl,?_⟩
    rw [Int.zero_add]
    obtain ⟨S2,e1,hS2,hlen,hb⟩:=Y8a (ns:=ns) (k:=i) hT (by omega)
    unfold q_0B q_0B_0 q_0B_1
    refine Fw.set (x := .r T.length) (S1:=S2) (X4 (Z7 (Z5 rfl) (Z7 (Z5 rfl) Y5)) (U4 rfl e1)) ?_
    refine Fw.one (Fw.for_ (t := .nm 3) (l:=List.range 5) (f:=fun (j:Nat)=>X.d (.int (0 + (j:Int)))) (S1:=S2) (lk := .free) (Z6g (n:=5) (Z7 W1 Y5) (Z3f (n:=5) (by decide))) (fun _ e U=>∃ o3 o4 o5 o6 o7 o8 o9 o10 o11 o12 o13 o14,e=[some (.d (.scr ns)),some (.d (.int (i:Int))),some (.r T.length),o3,o4,o5,o6,o7,o8,o9,o10,o11,o12,o13,o14]∧OkS U∧Z2g U T.length) (fun _ _=>False) ⟨_,_,_,_,_,_,_,_,_,_,_,_,rfl,hS2,hb⟩ (fun _ _ _ _=>rfl) ?_ ?_)
    · rintro j l e U ⟨p3,p4,p5,p6,p7,p8,p9,p10,p11,p12,p13,p14,rfl,hU,hbU⟩
      refine ⟨[some (.d (.scr ns)),some (.d (.int (i:Int))),some (.r T.length),some (.d (.int (0 + (j:Int)))),p4,p5,p6,p7,p8,p9,p10,p11,p12,p13,p14],rfl,(turn_ok hU hbU).mono ?_⟩
      rintro r ⟨T',q4,q5,q6,q7,q8,q9,q10,q11,q12,q13,q14,rfl,h1,h2⟩
      exact .nx ⟨_,_,_,_,_,_,_,_,_,_,_,_,rfl,h1,h2⟩
    · intro e U hor
      obtain ⟨p3,p4,p5,p6,p7,p8,p9,p10,p11,p12,p13,p14,rfl,hU,hbU⟩:=hor.resolve_right id
      exact Fw.nil (.nx ⟨_,_,_,_,_,_,_,_,_,_,_,_,_,_,rfl,hU⟩)
  · subst he
    unfold q_1 q_1C q_2
    have t0:neD (.tup [.str "text", .int 0]) (.tup [.str "text", .int 0])=some (.bl false):=Y6h (n:=1) rfl (by decide)
    have t1:eqD (.tup [.str "text", .int 1]) (.tup [.str "text", .int 1])=some (.bl true):=eq_self (n:=1) rfl (by decide)
    refine Fw.if_ (b:=false) (W4 (Y6 (X4 (Z7 W1 Y5) (U4 rfl (Z47 last1))) (Z6f (ds:=[.str "text", .int 0]) (Z7 W1 (Z7 W1 Y5)) rfl (hz4 (by simp))) Z9 Z9 t0)) (Fw.iff (Fw.seqNil ?_))
    exact Fw.one (Fw.retP (Y6 (X4 (Z7 W1 Y5) (U4 rfl (Z47 last2))) (Z6f (ds:=[.str "text", .int 1]) (Z7 W1 (Z7 W1 Y5)) rfl (hz4 (by simp))) Z9 Z9 t1) Z9 rfl)
end Le
namespace Lw
open PySem PySem.Spec L2 Bv
open PyProof.Rows hiding St
variable [HasW]
theorem plain (ns:List Int) (hl:ns.length ≤ 63):g_law [.scr ns] = .ok (.bl true):=Le.plainE ns hl
end Lw
set_option maxHeartbeats 0
namespace Lw
end Lw
open PySem PySem.W PySem.Calls PyProof.Rows
theorem PySem.Challenge.cw_wordingkept_k09_texts_of_no_tool_holds : PySem.Challenge.rw_wordingkept_k09_texts_of_no_tool.Holds := by
  w_on; o_law
  refine HandSHeadRun.head_any (r:=Lw.Rw) (q:=Lw.Vw) (H:=Lw.hkL) (ob:=Lw.obL) (M:=30000) (loose:=Lw.looseL) (d:=HandSHeadRun.topDef Lw.Rw.prog 42) (kwd:=[]) Lw.obL_eq
    (by kernel_rfl) (fun s=>by kernel_rfl) Lw.runL (by kernel_rfl) (by kernel_rfl) (by kernel_rfl) (by rfl) (by first | assumption | decide +kernel) (by decide +kernel) ⟨rfl,rfl,rfl,rfl,rfl,by decide +kernel⟩ ?hw ?hc
  case hw=>w_witness2
  case hc =>
    refine Bv.walk_ofG (l:=PySem.Challenge.rw_wordingkept_k09_texts_of_no_tool) (n:=63) (k:=8) (x := "_law_script") rfl (by decide) (by kernel_rfl) ⟨rfl,by decide,by decide⟩ ?F
    intro w mg fa h Y G hmg0
    obtain ⟨K,KX,c⟩:=Y
    have hmg:mg ("law" : PySem.Str)=some (.ref fa):=by
      have e:(HandSHeadRun.topDef Lw.Rw.prog 42).name=("law" : PySem.Str):=by kernel_rfl
      rw [← e]
      exact hmg0
    letI:Bv.HasW:=⟨w⟩
    obtain ⟨fd,hb,hF⟩:=Lw.all (P:=(PySem.Challenge.rw_wordingkept_k09_texts_of_no_tool).prog) KX G c (by kernel_rfl) (by kernel_rfl) hmg
    exact ⟨K,fd,Bv.spP K 1 Lw.g_law,KX,hb,fun H a ns hl only hS=>Bv.law_sp Lw.plain H a ns hl only hS,hF⟩
