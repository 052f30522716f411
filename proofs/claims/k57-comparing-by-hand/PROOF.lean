import PyProof.Rows.All
import Wide.All
import OpenK.AllK
import Wide.FinOn
import HandS.ForMost
import HandS.Exc
import HandS.WordsExc
import HandS.IsInst
import HandS.Flow
import HandS.HeadHook1
import KE.KDictCopyH
import HandS.TupAny
import HandS.Deep
import HandS.Wide
import HandS.Star
import HandS.Walk
import HandS.ExcOwn
import HandS.ExcCtx
import HandS.SuiteRaise
import HandS.RaiseFrom
import KE.KExcRaise
import HandS.CallSlots
import HandS.Defaults
import HandS.HeadEnd
import HandS.Dict
import HandS.More
import HandS.List
import HandS.Text
import HandS.Style
import HandS.RaiseMore
import PyProof.ReprRoads
import HandS.NamedTupSort
import HandS.OwnEq
import KE.KCallOwn
import KE.KFmtOwn
import PyProof.InstNe
import HandS.HeadHook2
import HandS.ClsMeth
import HandS.Strs
import KE.GoesMore
import PyProof.Draws
import PyProof.EnumMake
import KE.GoesZip
import HandS.ExcInit
import KE.KExcInit
import KE.KExcSuper
import KE.KExcIs
import HandS.ExcIs
import HandS.ExcField
import OpenK.KOps
import OpenK.KMeth
import HandS.NoneIn
import HandS.DictComp
import HandS.SortInts
import Wide.Txt2
import HandS.Property
import KE.KEqDict
import PyProof.Rows.TupDisplay
import HandS.SetBool
import PyProof.Rows.SortShellAny
import HandS.Head0
import HandS.Head1
import HandS.Head2
import HandS.FStr
import KE.KxField
import PyProof.FString2
import PyProof.FString3
import HandS.Conv
import HandS.Iter
import HandS.Zip
import HandS.ReplaceLit
import HandS.Comp
import Lean
import KE.KStateDown
import PySem.Challenge.RW_wordingkept_k57_comparing_known_by_hand
set_option Elab.async false
set_option linter.all false
set_option maxRecDepth 100000
set_option maxHeartbeats 4000000
/-! By value: the data that a program hands about, the store of what it changes, and how both stand in the layer's heap. -/
namespace Bv
open PySem PySem.Spec L2
open PyProof.Rows hiding St
/-- the world of the run (its hashes) -/
class HasW where
  w : World
variable [HasW]

/-- data that nobody changes -/
inductive D where
  | non | bl (b : Bool) | int (i : Int) | str (x : Str)
  | tup (ds : List D) | lst (ds : List D) | dic (kvs : List (D × D))
  | obj (C : Str) (fs : List (Str × D)) | gl (x : Str) | scr (ns : List Int)
/-- a value: data, or the number of a thing in the store -/
inductive X where
  | d (v : D) | r (n : Nat)
/-- a thing that is changed -/
inductive O where
  | lst (xs : List X) | dic (kvs : List (D × X)) | ins (C : Str) (fs : List (Str × X))
  /-- a dict that stays as it is; a dict whose keys are tuples -/
  | fdc (kvs : List (D × X)) | tdc (kvs : List (D × X))
abbrev Sto := List O
abbrev Ev := List (Option X)
/-- what comes of a step -/
inductive R (α : Type) where
  | ok (a : α) (S : Sto) | err (C : Str) (fs : List (Str × D)) (S : Sto) | bad

def D.key? : D → Option Key
  | .int i => some (.inl i)
  | .str x => some (.inr x)
  | _ => none
/-- a leaf of a tuple that is a key -/
def D.leaf? : D → Option Leaf
  | .non => some .none
  | .bl b => some (.num (if b = true then 1 else 0))
  | .int i => some (.num i)
  | .str x => some (.text x)
  | _ => none
def leafs? : List D → Option (List Leaf)
  | [] => some []
  | d :: r => match d.leaf?, leafs? r with
    | some k, some l => some (k :: l)
    | _, _ => none
def D.tkey? : D → Option (List Leaf)
  | .tup ds => leafs? ds
  | _ => none
/-- a dict with such keys, as it lies in the heap -/
def lHash (ks : List Leaf) : Int := reduceHash (Builtin.Tuple.tupleHashOf (ks.map fun k => k.key.hash HasW.w))
def TDx (a : Addr) (xs : List (List Leaf × Addr × V)) (h : Heap) : Prop := (a == sysModules) = false ∧ ∃ ys : List (List Leaf × Addr × Value), Paired (fun p q => p.1 = q.1 ∧ p.2.1 = q.2.1 ∧ RelV p.2.2 q.2.2) xs ys ∧
  ∃ o es ep, h.get? a = some o ∧ o.ExactDict ∧ o.data = .dict es ep ∧ es.toList = ys.map (fun x => (⟨lHash x.1, .ref x.2.1, x.2.2⟩ : DictEntry)) ∧ (ys.map (·.1)).Nodup
abbrev TDo (a : Addr) (xs : List (List Leaf × Addr × V)) : HO := .ext (TDx a xs)

/-! ### data in the heap -/
abbrev Wd := Addr → Prop
def Wn (Z : Wd) (ρ : List Addr) : Wd := fun a => Z a ∨ a ∈ ρ
/-- a tuple of the written part -/
def KTup (K : PySem.W.Frag) (a : Addr) (xs : List V) : Prop := ∃ (o : Obj) (its : Array Value) (n : Nat), K.lookup a = some o ∧ o.cls = .type "tuple" ∧ o.data = .seq its n ∧ its.size ≤ sizeLine ∧ Vals xs its.toList
def Tp (K : PySem.W.Frag) (W : Wd) (H : Hp) (a : Addr) (xs : List V) : Prop := (¬ W a ∧ H a = some (.tup xs)) ∨ KTup K a xs
theorem Tp.sq {K : PySem.W.Frag} {W : Wd} {H : Hp} {a : Addr} {xs : List V} (h : Tp K W H a xs) : SqT K H a xs := by
  rcases h with ⟨_, h⟩ | h
  · exact .inl (.inl h)
  · exact .inr h

/-- a list that nobody changes: tracked, or of the written part -/
def KLst (K : PySem.W.Frag) (a : Addr) (xs : List V) : Prop := ∃ (o : Obj) (its : Array Value) (n : Nat), K.lookup a = some o ∧ o.cls = .type "list" ∧ o.dict = none ∧ o.data = .seq its n ∧ its.size ≤ sizeLine ∧ Vals xs its.toList
def Lp (K : PySem.W.Frag) (W : Wd) (H : Hp) (a : Addr) (xs : List V) : Prop := (¬ W a ∧ Rd H a (.lst xs)) ∨ KLst K a xs
theorem Lp.sl {K : PySem.W.Frag} {W : Wd} {H : Hp} {a : Addr} {xs : List V} (h : Lp K W H a xs) : SqL K H a xs := by
  rcases h with ⟨_, h⟩ | h
  · exact .inl h
  · exact .inr h

mutual
inductive AV (K : PySem.W.Frag) (W : Wd) (H : Hp) : D → V → Prop
  | non : AV K W H .non .non
  | bl (b : Bool) : AV K W H (.bl b) (.bl b)
  | int (i : Int) : AV K W H (.int i) (.int i)
  | str {x : Str} : PyData.strOk x = true → AV K W H (.str x) (.str x)
  | gl (x : Str) : AV K W H (.gl x) (.ref (He.ga K x))
  | scr {a : Addr} {ns : List Int} : Lp K W H a (ns.map V.int) → AV K W H (.scr ns) (.ref a)
  | tup {a : Addr} {xs : List V} {ds : List D} : Tp K W H a xs → AVs K W H ds xs → AV K W H (.tup ds) (.ref a)
  | lst {a : Addr} {xs : List V} {ds : List D} : ¬ W a → H a = some (.lst xs) → AVs K W H ds xs → AV K W H (.lst ds) (.ref a)
  | dic {a : Addr} {o : Obj} {ks : List (Key × V)} {kvs : List (D × D)} : ¬ W a → H a = some (.frz o (.dK ks)) → AVk K W H kvs ks → AV K W H (.dic kvs) (.ref a)
  | obj {C : Str} {a dx : Addr} {vs : List (Str × V)} {fs : List (Str × D)} : ¬ W a → H a = some (.ins (He.ga K C) dx vs) → AVf K W H fs vs → AV K W H (.obj C fs) (.ref a)
inductive AVs (K : PySem.W.Frag) (W : Wd) (H : Hp) : List D → List V → Prop
  | nil : AVs K W H [] []
  | cons {d : D} {v : V} {ds : List D} {vs : List V} : AV K W H d v → AVs K W H ds vs → AVs K W H (d :: ds) (v :: vs)
inductive AVk (K : PySem.W.Frag) (W : Wd) (H : Hp) : List (D × D) → List (Key × V) → Prop
  | nil : AVk K W H [] []
  | cons {k d : D} {q : Key} {v : V} {ds : List (D × D)} {vs : List (Key × V)} : k.key? = some q → AV K W H d v → AVk K W H ds vs → AVk K W H ((k, d) :: ds) ((q, v) :: vs)
inductive AVf (K : PySem.W.Frag) (W : Wd) (H : Hp) : List (Str × D) → List (Str × V) → Prop
  | nil : AVf K W H [] []
  | cons {f : Str} {d : D} {v : V} {ds : List (Str × D)} {vs : List (Str × V)} : AV K W H d v → AVf K W H ds vs → AVf K W H ((f, d) :: ds) ((f, v) :: vs)
end

/-- from W, H to W', H': what none may write stays so, and stays as it is -/
def Mv (W : Wd) (H : Hp) (W' : Wd) (H' : Hp) : Prop := ∀ a o, ¬ W a → H a = some o → ¬ W' a ∧ H' a = some o
theorem Mv.rd {W W' : Wd} {H H' : Hp} {a : Addr} {u : HO} (m : Mv W H W' H') (h : ¬ W a) (r : Rd H a u) : ¬ W' a ∧ Rd H' a u := by
  rcases r with r | ⟨o, r⟩
  · obtain ⟨h1, h2⟩ := m a _ h r
    exact ⟨h1, .inl h2⟩
  · obtain ⟨h1, h2⟩ := m a _ h r
    exact ⟨h1, .inr ⟨o, h2⟩⟩
theorem Mv.lp {K : PySem.W.Frag} {W W' : Wd} {H H' : Hp} {a : Addr} {xs : List V} (m : Mv W H W' H') (h : Lp K W H a xs) : Lp K W' H' a xs := by
  rcases h with ⟨h1, h2⟩ | h
  · exact .inl (m.rd h1 h2)
  · exact .inr h
theorem Mv.tp {K : PySem.W.Frag} {W W' : Wd} {H H' : Hp} {a : Addr} {xs : List V} (m : Mv W H W' H') (h : Tp K W H a xs) : Tp K W' H' a xs := by
  rcases h with ⟨h1, h2⟩ | h
  · exact .inl (m _ _ h1 h2)
  · exact .inr h
section
variable {K : PySem.W.Frag} {W W' : Wd} {H H' : Hp}
mutual
theorem AV.mv (m : Mv W H W' H') : ∀ {d : D} {v : V}, AV K W H d v → AV K W' H' d v
  | _, _, .non => .non
  | _, _, .bl b => .bl b
  | _, _, .int i => .int i
  | _, _, .str x => .str x
  | _, _, .scr h => .scr (m.lp h)
  | _, _, .gl x => .gl x
  | _, _, .tup h hs => .tup (m.tp h) (AVs.mv m hs)
  | _, _, .lst w h hs => .lst (m _ _ w h).1 (m _ _ w h).2 (AVs.mv m hs)
  | _, _, .dic w h hs => .dic (m _ _ w h).1 (m _ _ w h).2 (AVk.mv m hs)
  | _, _, .obj w h hs => .obj (m _ _ w h).1 (m _ _ w h).2 (AVf.mv m hs)
theorem AVs.mv (m : Mv W H W' H') : ∀ {ds : List D} {vs : List V}, AVs K W H ds vs → AVs K W' H' ds vs
  | _, _, .nil => .nil
  | _, _, .cons h hs => .cons (AV.mv m h) (AVs.mv m hs)
theorem AVk.mv (m : Mv W H W' H') : ∀ {ds : List (D × D)} {vs : List (Key × V)}, AVk K W H ds vs → AVk K W' H' ds vs
  | _, _, .nil => .nil
  | _, _, .cons k h hs => .cons k (AV.mv m h) (AVk.mv m hs)
theorem AVf.mv (m : Mv W H W' H') : ∀ {ds : List (Str × D)} {vs : List (Str × V)}, AVf K W H ds vs → AVf K W' H' ds vs
  | _, _, .nil => .nil
  | _, _, .cons h hs => .cons (AV.mv m h) (AVf.mv m hs)
end
end

/-! ### values and the store -/
/-- the place r of the store stands at the r-th address -/
inductive AX (K : PySem.W.Frag) (W : Wd) (ρ : List Addr) (H : Hp) : X → V → Prop
  | d {v : D} {u : V} : AV K W H v u → AX K W ρ H (.d v) u
  | r {n : Nat} {a : Addr} : ρ[n]? = some a → AX K W ρ H (.r n) (.ref a)
abbrev AXs (K : PySem.W.Frag) (W : Wd) (ρ : List Addr) (H : Hp) : List X → List V → Prop := Paired (AX K W ρ H)
theorem AX.mv {K : PySem.W.Frag} {W W' : Wd} {ρ ρ' : List Addr} {H H' : Hp} (m : Mv W H W' H') (p : ρ <+: ρ') {x : X} {v : V} (h : AX K W ρ H x v) : AX K W' ρ' H' x v := by
  cases h with
  | d h => exact .d (h.mv m)
  | r h =>
    refine .r ?_
    obtain ⟨t, rfl⟩ := p
    rw [List.getElem?_append_left (List.getElem?_eq_some_iff.mp h).1]
    exact h
theorem AXs.mv {K : PySem.W.Frag} {W W' : Wd} {ρ ρ' : List Addr} {H H' : Hp} (m : Mv W H W' H') (p : ρ <+: ρ') {xs : List X} {vs : List V} (h : AXs K W ρ H xs vs) : AXs K W' ρ' H' xs vs := Paired.mapP h fun _ _ q => q.mv m p

def AO (K : PySem.W.Frag) (W : Wd) (ρ : List Addr) (H : Hp) (o : O) (a : Addr) : Prop :=
  match o with
  | .lst xs => ∃ vs, H a = some (.lst vs) ∧ AXs K W ρ H xs vs
  | .dic kvs => ∃ ks : List (Key × V), H a = some (.dK ks) ∧ Paired (fun (p : D × X) (q : Key × V) => p.1.key? = some q.1 ∧ AX K W ρ H p.2 q.2) kvs ks
  | .fdc kvs => ∃ (ob : Obj) (ks : List (Key × V)), H a = some (.frz ob (.dK ks)) ∧ Paired (fun (p : D × X) (q : Key × V) => p.1.key? = some q.1 ∧ AX K W ρ H p.2 q.2) kvs ks
  | .tdc kvs => ∃ xs : List (List Leaf × Addr × V), H a = some (TDo a xs) ∧ Paired (fun (p : D × X) (q : List Leaf × Addr × V) => p.1.tkey? = some q.1 ∧ AV K W H p.1 (.ref q.2.1) ∧ AX K W ρ H p.2 q.2.2) kvs xs
  | .ins C fs => ∃ (dx : Addr) (vs : List (Str × V)), H a = some (.ins (He.ga K C) dx vs) ∧ Paired (fun (p : Str × X) (q : Str × V) => p.1 = q.1 ∧ AX K W ρ H p.2 q.2) fs vs
theorem AO.mv {K : PySem.W.Frag} {W W' : Wd} {ρ ρ' : List Addr} {H H' : Hp} {o : O} {a : Addr} (m : Mv W H W' H') (p : ρ <+: ρ') (k : ∀ u, H a = some u → H' a = some u) (x : AO K W ρ H o a) : AO K W' ρ' H' o a := by
  cases o with
  | lst xs => obtain ⟨vs, e, q⟩ := x; exact ⟨vs, k _ e, AXs.mv m p q⟩
  | dic kvs => obtain ⟨vs, e, q⟩ := x; exact ⟨vs, k _ e, Paired.mapP q fun _ _ z => ⟨z.1, z.2.mv m p⟩⟩
  | fdc kvs => obtain ⟨ob, vs, e, q⟩ := x; exact ⟨ob, vs, k _ e, Paired.mapP q fun _ _ z => ⟨z.1, z.2.mv m p⟩⟩
  | tdc kvs => obtain ⟨vs, e, q⟩ := x; exact ⟨vs, k _ e, Paired.mapP q fun _ _ z => ⟨z.1, z.2.1.mv m, z.2.2.mv m p⟩⟩
  | ins C fs => obtain ⟨dx, vs, e, q⟩ := x; exact ⟨dx, vs, k _ e, Paired.mapP q fun _ _ z => ⟨z.1, z.2.mv m p⟩⟩
theorem AO.there {K : PySem.W.Frag} {W : Wd} {ρ : List Addr} {H : Hp} {o : O} {a : Addr} (x : AO K W ρ H o a) : ∃ u, H a = some u := by
  cases o with
  | lst xs => obtain ⟨vs, e, _⟩ := x; exact ⟨_, e⟩
  | dic kvs => obtain ⟨vs, e, _⟩ := x; exact ⟨_, e⟩
  | fdc kvs => obtain ⟨ob, vs, e, _⟩ := x; exact ⟨_, e⟩
  | tdc kvs => obtain ⟨vs, e, _⟩ := x; exact ⟨_, e⟩
  | ins C fs => obtain ⟨dx, vs, e, _⟩ := x; exact ⟨_, e⟩
/-- frozen -/
def O.isF : O → Bool
  | .fdc _ => true
  | _ => false
theorem AO.nofrz {K : PySem.W.Frag} {W : Wd} {ρ : List Addr} {H : Hp} {o : O} {a : Addr} (x : AO K W ρ H o a) (h : o.isF = false) : ∀ ob u, H a ≠ some (.frz ob u) := fun ob u q => by
  cases o with
  | lst xs => obtain ⟨vs, e, _⟩ := x; rw [q] at e; cases e
  | dic kvs => obtain ⟨vs, e, _⟩ := x; rw [q] at e; cases e
  | fdc kvs => cases h
  | tdc kvs => obtain ⟨vs, e, _⟩ := x; rw [q] at e; cases e
  | ins C fs => obtain ⟨dx, vs, e, _⟩ := x; rw [q] at e; cases e
/-- the store S stands in H, at the addresses ρ; Z: what others may write -/
structure Sta (K : PySem.W.Frag) (Z : Wd) (ρ : List Addr) (S : Sto) (H : Hp) : Prop where
  nd : ρ.Nodup
  z : ∀ a, Z a → a ∉ ρ ∧ ∃ o, H a = some o
  len : S.length = ρ.length
  ob : ∀ (n : Nat) (o : O) (a : Addr), S[n]? = some o → ρ[n]? = some a → AO K (Wn Z ρ) ρ H o a
theorem Sta.mem {K : PySem.W.Frag} {Z : Wd} {ρ : List Addr} {S : Sto} {H : Hp} (s : Sta K Z ρ S H) {a : Addr} (h : a ∈ ρ) : ∃ (n : Nat) (o : O), S[n]? = some o ∧ ρ[n]? = some a := by
  obtain ⟨n, hn, e⟩ := List.getElem_of_mem h
  have h2 : n < S.length := by rw [s.len]; exact hn
  exact ⟨n, S[n], List.getElem?_eq_getElem h2, by rw [List.getElem?_eq_getElem hn, e]⟩
/-- steps of the store: new things come behind; what is not of it is kept -/
structure Go (ρ : List Addr) (H : Hp) (ρ' : List Addr) (H' : Hp) : Prop where
  pre : ρ <+: ρ'
  keep : ∀ a o, a ∉ ρ → H a = some o → a ∉ ρ' ∧ H' a = some o
  fz : ∀ a ob u, H a = some (.frz ob u) → H' a = some (.frz ob u)
theorem Go.refl (ρ : List Addr) (H : Hp) : Go ρ H ρ H := ⟨List.prefix_refl _, fun _ _ h q => ⟨h, q⟩, fun _ _ _ q => q⟩
theorem Go.trans {ρ ρ1 ρ2 : List Addr} {H H1 H2 : Hp} (a : Go ρ H ρ1 H1) (b : Go ρ1 H1 ρ2 H2) : Go ρ H ρ2 H2 :=
  ⟨a.pre.trans b.pre, fun c o h q => let ⟨h1, q1⟩ := a.keep c o h q; b.keep c o h1 q1, fun c ob u q => b.fz c ob u (a.fz c ob u q)⟩
theorem Go.mv {K : PySem.W.Frag} {Z : Wd} {ρ ρ' : List Addr} {S : Sto} {H H' : Hp} (s : Sta K Z ρ S H) (g : Go ρ H ρ' H') : Mv (Wn Z ρ) H (Wn Z ρ') H' := fun a o h q => by
  have h1 : a ∉ ρ := fun z => h (.inr z)
  obtain ⟨h2, q2⟩ := g.keep a o h1 q
  exact ⟨fun z => z.elim (fun z => h (.inl z)) h2, q2⟩
/-- the slots -/
structure EvOk (K : PySem.W.Frag) (W : Wd) (ρ : List Addr) (H : Hp) (e : Ev) (σ : St) : Prop where
  len : e.length = σ.length
  at_ : ∀ (i : Nat) (x : X), e[i]? = some (some x) → ∃ v, σ[i]? = some (some v) ∧ AX K W ρ H x v
theorem EvOk.mv {K : PySem.W.Frag} {W W' : Wd} {ρ ρ' : List Addr} {H H' : Hp} (m : Mv W H W' H') (p : ρ <+: ρ') {e : Ev} {σ : St} (h : EvOk K W ρ H e σ) : EvOk K W' ρ' H' e σ :=
  ⟨h.len, fun i x q => let ⟨v, h1, h2⟩ := h.at_ i x q; ⟨v, h1, h2.mv m p⟩⟩
theorem EvOk.set {K : PySem.W.Frag} {W : Wd} {ρ : List Addr} {H : Hp} {e : Ev} {σ : St} {i : Nat} {x : X} {v : V} (h : EvOk K W ρ H e σ) (a : AX K W ρ H x v) : EvOk K W ρ H (e.set i (some x)) (σ.set i (some v)) := by
  refine ⟨by rw [List.length_set, List.length_set]; exact h.len, fun j y q => ?_⟩
  by_cases hj : i = j
  · subst hj
    have hl : i < e.length := by
      have := (List.getElem?_eq_some_iff.mp q).1
      rwa [List.length_set] at this
    rw [List.getElem?_set_self hl] at q
    cases q
    exact ⟨v, by rw [List.getElem?_set_self (by rw [← h.len]; exact hl)], a⟩
  · rw [List.getElem?_set_ne hj] at q
    obtain ⟨u, h1, h2⟩ := h.at_ j y q
    exact ⟨u, by rw [List.getElem?_set_ne hj]; exact h1, h2⟩

/-! ### the readings -/
/-- what is wanted of an exception, at the slots where it comes -/
def ErrP (K : PySem.W.Frag) (Z : Wd) (ρ : List Addr) (H : Hp) (Wx : WX) (σ : St) (C : Str) (fs : List (Str × D)) (S' : Sto) : Prop :=
  ∀ (ρ' : List Addr) (H' : Hp) (d : Option Addr), Sta K Z ρ' S' H' → Go ρ H ρ' H' →
    ((d = none ∧ fs = []) ∨ ∃ (dd : Addr) (vs : List (Str × V)), d = some dd ∧ H dd = none ∧ ¬ Wn Z ρ' dd ∧ H' dd = some (.xd vs) ∧ AVf K (Wn Z ρ') H' fs vs) → Wx (.ref (He.ga K C)) d σ H'
/-- what is wanted of a step that hands back something of which rel tells how it stands -/
def PostG {α β : Type} (rel : Wd → List Addr → Hp → α → β → Prop) (K : PySem.W.Frag) (Z : Wd) (ρ : List Addr) (H : Hp) (Wx : WX) (σ : St) (Q : β → Hp → Prop) : R α → Prop
  | .ok x S' => ∀ (ρ' : List Addr) (H' : Hp) (v : β), Sta K Z ρ' S' H' → Go ρ H ρ' H' → rel (Wn Z ρ') ρ' H' x v → Q v H'
  | .err C fs S' => ErrP K Z ρ H Wx σ C fs S'
  | .bad => False
/-- a step by value -/
abbrev MG (α : Type) := Ev → Sto → R α
def RG {α β : Type} (rel : Wd → List Addr → Hp → α → β → Prop) (K : PySem.W.Frag) (Wx : WX) (m : MG α) : St → Hp → (β → Hp → Prop) → Prop := fun σ H Q => ∃ (Z : Wd) (ρ : List Addr) (e : Ev) (S : Sto), Sta K Z ρ S H ∧ EvOk K (Wn Z ρ) ρ H e σ ∧ PostG rel K Z ρ H Wx σ Q (m e S)
/-- an expression, an argument list, a test -/
abbrev M := MG X
abbrev Post (K : PySem.W.Frag) := PostG (AX K) K
abbrev RE (K : PySem.W.Frag) (Wx : WX) (m : M) : TE := RG (AX K) K Wx m
abbrev ME (X : Cx) (Wx : WX) (e : Expr) (m : M) : Prop := PE X e (RE X.K Wx m)
abbrev RA (K : PySem.W.Frag) (Wx : WX) (m : MG (List X)) : TA := RG (AXs K) K Wx m
abbrev MA (X : Cx) (Wx : WX) (es : List Expr) (m : MG (List Bv.X)) : Prop := PA X es (RA X.K Wx m)
abbrev relB : Wd → List Addr → Hp → Bool → Bool → Prop := fun _ _ _ b c => b = c
abbrev RB (K : PySem.W.Frag) (Wx : WX) (m : MG Bool) : L2.TT := RG relB K Wx m
abbrev MT (X : Cx) (Wx : WX) (e : Expr) (m : MG Bool) : Prop := PT X e (RB X.K Wx m)

def R.bind {α β : Type} (r : R α) (k : α → Sto → R β) : R β := match r with
  | .ok a S => k a S
  | .err C fs S => .err C fs S
  | .bad => .bad
theorem ErrP.shift {K : PySem.W.Frag} {Z : Wd} {ρ ρ1 : List Addr} {H H1 : Hp} {Wx : WX} {σ : St} {C : Str} {fs : List (Str × D)} {S' : Sto} (g : Go ρ H ρ1 H1) (s1 : ∀ a o, H a = some o → ∃ u, H1 a = some u) (h : ErrP K Z ρ H Wx σ C fs S') : ErrP K Z ρ1 H1 Wx σ C fs S' := fun ρ' H' d st go q => by
  refine h ρ' H' d st (g.trans go) ?_
  rcases q with q | ⟨dd, vs, h1, h2, h3⟩
  · exact .inl q
  · refine .inr ⟨dd, vs, h1, ?_, h3⟩
    cases e : H dd with
    | none => rfl
    | some o =>
      obtain ⟨u, z⟩ := s1 dd o e
      rw [h2] at z; cases z
theorem there_of {K : PySem.W.Frag} {Z : Wd} {ρ ρ1 : List Addr} {S1 : Sto} {H H1 : Hp} (g : Go ρ H ρ1 H1) (s1 : Sta K Z ρ1 S1 H1) : ∀ a o, H a = some o → ∃ u, H1 a = some u := fun a o q => by
  by_cases h : a ∈ ρ
  · have h1 : a ∈ ρ1 := g.pre.subset h
    obtain ⟨n, o, e1, e2⟩ := s1.mem h1
    exact (s1.ob n o a e1 e2).there
  · exact ⟨o, (g.keep a o h q).2⟩
theorem PostG.shift {α β : Type} {rel : Wd → List Addr → Hp → α → β → Prop} {K : PySem.W.Frag} {Z : Wd} {ρ ρ1 : List Addr} {S1 : Sto} {H H1 : Hp} {Wx : WX} {σ : St} {Q : β → Hp → Prop} {r : R α} (g : Go ρ H ρ1 H1) (s1 : Sta K Z ρ1 S1 H1) (h : PostG rel K Z ρ H Wx σ Q r) : PostG rel K Z ρ1 H1 Wx σ Q r := by
  cases r with
  | ok x S' => exact fun ρ' H' v st go a => h ρ' H' v st (g.trans go) a
  | err C fs S' => exact ErrP.shift g (there_of g s1) h
  | bad => exact h
/-- one step, then the rest -/
theorem tt_bind {α β γ δ : Type} {rel : Wd → List Addr → Hp → α → β → Prop} {rel' : Wd → List Addr → Hp → γ → δ → Prop} {K : PySem.W.Frag} {Wx : WX} {Z : Wd} {ρ : List Addr} {e : Ev} {S : Sto} {σ : St} {H : Hp} {Q : δ → Hp → Prop} {m : MG α} {k : α → Sto → R γ} {R' : β → Hp → Prop} (st : Sta K Z ρ S H) (ev : EvOk K (Wn Z ρ) ρ H e σ) (h : PostG rel' K Z ρ H Wx σ Q ((m e S).bind k))
    (next : ∀ ρ1 H1 v x S1, Sta K Z ρ1 S1 H1 → Go ρ H ρ1 H1 → EvOk K (Wn Z ρ1) ρ1 H1 e σ → rel (Wn Z ρ1) ρ1 H1 x v → PostG rel' K Z ρ1 H1 Wx σ Q (k x S1) → R' v H1) : RG rel K Wx m σ H R' := by
  refine ⟨Z, ρ, e, S, st, ev, ?_⟩
  cases q : m e S with
  | ok x S1 =>
    rw [q] at h
    exact fun ρ1 H1 v s1 g a => next ρ1 H1 v x S1 s1 g (ev.mv (g.mv st) g.pre) a (PostG.shift g s1 h)
  | err C fs S1 => rw [q] at h; exact h
  | bad => rw [q] at h; exact h

/-- the heap has grown by things that are not of the store -/
theorem Sta.grow {K : PySem.W.Frag} {Z : Wd} {ρ : List Addr} {S : Sto} {H H' : Hp} (s : Sta K Z ρ S H) (k : ∀ a o, H a = some o → H' a = some o) : Sta K Z ρ S H' := by
  have m : Mv (Wn Z ρ) H (Wn Z ρ) H' := fun a o h q => ⟨h, k a o q⟩
  refine ⟨s.nd, fun a h => ⟨(s.z a h).1, let ⟨o, q⟩ := (s.z a h).2; ⟨o, k a o q⟩⟩, s.len, fun n o a e1 e2 => ?_⟩
  exact AO.mv m (List.prefix_refl _) (k a) (s.ob n o a e1 e2)
theorem Go.grow {ρ : List Addr} {H H' : Hp} (k : ∀ a o, H a = some o → H' a = some o) : Go ρ H ρ H' := ⟨List.prefix_refl _, fun a o h q => ⟨h, k a o q⟩, fun a _ _ q => k a _ q⟩
theorem Sta.thereW {K : PySem.W.Frag} {Z : Wd} {ρ : List Addr} {S : Sto} {H : Hp} (s : Sta K Z ρ S H) {a : Addr} (h : Wn Z ρ a) : ∃ o, H a = some o := by
  rcases h with h | h
  · exact (s.z a h).2
  · obtain ⟨n, o, e1, e2⟩ := s.mem h
    exact (s.ob n o a e1 e2).there
/-- a thing of the store is changed -/
theorem Sta.put {K : PySem.W.Frag} {Z : Wd} {ρ : List Addr} {S : Sto} {H : Hp} {n : Nat} {a : Addr} {o' : O} {u : HO} (s : Sta K Z ρ S H) (hn : ρ[n]? = some a) (nf : ∀ ob u, H a ≠ some (.frz ob u)) (new : AO K (Wn Z ρ) ρ (upd H a u) o' a) : Sta K Z ρ (S.set n o') (upd H a u) ∧ Go ρ H ρ (upd H a u) := by
  have ha : a ∈ ρ := List.mem_of_getElem? hn
  have m : Mv (Wn Z ρ) H (Wn Z ρ) (upd H a u) := fun b o h q => ⟨h, by rw [upd_ne (fun z => h (.inr (by rw [z]; exact ha)))]; exact q⟩
  refine ⟨⟨s.nd, fun b h => ⟨(s.z b h).1, ?_⟩, by rw [List.length_set]; exact s.len, fun k o b e1 e2 => ?_⟩, ⟨List.prefix_refl _, fun b o h q => ⟨h, by rw [upd_ne (fun z => h (by rw [z]; exact ha))]; exact q⟩, fun b ob w q => by rw [upd_ne (fun z => nf ob w (by rw [← z]; exact q))]; exact q⟩⟩
  · obtain ⟨o, q⟩ := (s.z b h).2
    exact ⟨o, by rw [upd_ne (fun z => (s.z b h).1 (by rw [z]; exact ha))]; exact q⟩
  · by_cases hk : n = k
    · subst hk
      rw [hn] at e2; cases e2
      have hl : n < S.length := by
        have := (List.getElem?_eq_some_iff.mp e1).1
        rwa [List.length_set] at this
      rw [List.getElem?_set_self hl] at e1
      cases e1
      exact new
    · rw [List.getElem?_set_ne hk] at e1
      have hb : b ≠ a := fun z => by
        subst z
        obtain ⟨h1, q1⟩ := List.getElem?_eq_some_iff.mp hn
        obtain ⟨h2, q2⟩ := List.getElem?_eq_some_iff.mp e2
        exact hk ((List.getElem_inj s.nd).mp (q1.trans q2.symm))
      exact AO.mv m (List.prefix_refl _) (fun w q => by rw [upd_ne hb]; exact q) (s.ob k o b e1 e2)
/-- a new thing of the store -/
theorem Sta.push {K : PySem.W.Frag} {Z : Wd} {ρ : List Addr} {S : Sto} {H H' : Hp} {a : Addr} {o' : O} (s : Sta K Z ρ S H) (hn : H a = none) (k : ∀ b o, H b = some o → H' b = some o) (new : AO K (Wn Z (ρ ++ [a])) (ρ ++ [a]) H' o' a) : Sta K Z (ρ ++ [a]) (S ++ [o']) H' ∧ Go ρ H (ρ ++ [a]) H' := by
  have hne : ∀ b o, H b = some o → b ≠ a := fun b o q z => by rw [z, hn] at q; cases q
  have g : Go ρ H (ρ ++ [a]) H' := ⟨List.prefix_append _ _, fun b o h q => ⟨fun z => by
    rcases List.mem_append.mp z with z | z
    · exact h z
    · exact hne b o q (by simpa using z), k b o q⟩, fun b _ _ q => k b _ q⟩
  have hna : a ∉ ρ := fun z => by
    obtain ⟨n, o, e1, e2⟩ := s.mem z
    obtain ⟨w, q⟩ := (s.ob n o a e1 e2).there
    exact hne a w q rfl
  refine ⟨⟨?_, fun b h => ⟨fun z => ?_, ?_⟩, by rw [List.length_append, List.length_append, s.len]; rfl, fun m o b e1 e2 => ?_⟩, g⟩
  · rw [List.nodup_append]
    exact ⟨s.nd, by simp, fun x hx y hy z => by
      have : y = a := by simpa using hy
      subst this; subst z; exact hna hx⟩
  · obtain ⟨o, q⟩ := (s.z b h).2
    rcases List.mem_append.mp z with z | z
    · exact (s.z b h).1 z
    · exact hne b o q (by simpa using z)
  · obtain ⟨o, q⟩ := (s.z b h).2
    exact ⟨o, k b o q⟩
  · by_cases hm : m < ρ.length
    · rw [List.getElem?_append_left hm] at e2
      rw [List.getElem?_append_left (by rw [s.len]; exact hm)] at e1
      exact AO.mv (g.mv s) g.pre (k b) (s.ob m o b e1 e2)
    · rw [List.getElem?_append_right (by omega)] at e2
      rw [List.getElem?_append_right (by rw [s.len]; omega)] at e1
      have hz : m - ρ.length = 0 := by
        have := (List.getElem?_eq_some_iff.mp e2).1
        simp at this; omega
      rw [hz] at e2
      rw [s.len, hz] at e1
      cases e1; cases e2
      exact new
/-- a fresh place is of nobody -/
theorem Sta.fresh {K : PySem.W.Frag} {Z : Wd} {ρ : List Addr} {S : Sto} {H : Hp} (s : Sta K Z ρ S H) {a : Addr} (h : H a = none) : ¬ Wn Z ρ a := fun z => by
  obtain ⟨o, e⟩ := s.thereW z
  rw [h] at e; cases e
theorem upd_keep {H : Hp} {p : Addr} {o : HO} (h : H p = none) : ∀ a u, H a = some u → upd H p o a = some u := fun a u q => by
  rw [upd_ne (ne_of_none q h)]; exact q
/-- a value that is handed back by an operation which lays nothing of the store -/
theorem PostG.ret {α β : Type} {rel : Wd → List Addr → Hp → α → β → Prop} {K : PySem.W.Frag} {Z : Wd} {ρ : List Addr} {S : Sto} {H H' : Hp} {Wx : WX} {σ : St} {Q : β → Hp → Prop} {x : α} {v : β} (h : PostG rel K Z ρ H Wx σ Q (.ok x S)) (s : Sta K Z ρ S H) (k : ∀ a o, H a = some o → H' a = some o) (a : rel (Wn Z ρ) ρ H' x v) : Q v H' :=
  h ρ H' v (s.grow k) (Go.grow k) a
theorem PostG.ret0 {α β : Type} {rel : Wd → List Addr → Hp → α → β → Prop} {K : PySem.W.Frag} {Z : Wd} {ρ : List Addr} {S : Sto} {H : Hp} {Wx : WX} {σ : St} {Q : β → Hp → Prop} {x : α} {v : β} (h : PostG rel K Z ρ H Wx σ Q (.ok x S)) (s : Sta K Z ρ S H) (a : rel (Wn Z ρ) ρ H x v) : Q v H :=
  h ρ H v s (Go.refl _ _) a
end Bv
set_option Elab.async false
set_option linter.all false
set_option maxRecDepth 100000
set_option maxHeartbeats 4000000
/-! By value: expressions. -/
namespace Bv
open PySem PySem.Spec L2
open PyProof.Rows hiding St
variable [HasW]

/-! ### operands: as AV, or a list, a dict of the store by its items -/
inductive AW (K : PySem.W.Frag) (W : Wd) (H : Hp) : D → V → Prop
  | av {d : D} {v : V} : AV K W H d v → AW K W H d v
  | lst {a : Addr} {xs : List V} {ds : List D} : H a = some (.lst xs) → AVs K W H ds xs → AW K W H (.lst ds) (.ref a)
  | fdc {a : Addr} {ob : Obj} {ks : List (Key × V)} {kvs : List (D × D)} : H a = some (.frz ob (.dK ks)) → AVk K W H kvs ks → AW K W H (.dic kvs) (.ref a)
def X.d? : X → Option D
  | .d v => some v
  | .r _ => none
def ds? : List X → Option (List D)
  | [] => some []
  | x :: r => match x, ds? r with
    | .d v, some l => some (v :: l)
    | _, _ => none
def ks? : List (D × X) → Option (List (D × D))
  | [] => some []
  | (k, x) :: r => match x, ks? r with
    | .d v, some l => some ((k, v) :: l)
    | _, _ => none
/-- data that a value is at the moment -/
def X.get (S : Sto) : X → Option D
  | .d v => some v
  | .r n => match S[n]? with
    | some (.lst xs) => (ds? xs).map .lst
    | some (.fdc kvs) => (ks? kvs).map .dic
    | _ => none
section
variable {K : PySem.W.Frag} {W : Wd} {ρ : List Addr} {H : Hp}
theorem AXs.ds : ∀ {xs : List X} {vs : List V} {ds : List D}, AXs K W ρ H xs vs → ds? xs = some ds → AVs K W H ds vs
  | _, _, _, .nil, e => by cases e; exact .nil
  | x :: r, _, ds, .cons h hs, e => by
    cases x with
    | r n => simp [ds?] at e
    | d v =>
      unfold ds? at e
      cases q : ds? r with
      | none => rw [q] at e; cases e
      | some l =>
        rw [q] at e
        cases e
        cases h with
        | d h => exact .cons h (AXs.ds hs q)
theorem AXk.ks : ∀ {xs : List (D × X)} {vs : List (Key × V)} {ds : List (D × D)}, Paired (fun (p : D × X) (q : Key × V) => p.1.key? = some q.1 ∧ AX K W ρ H p.2 q.2) xs vs → ks? xs = some ds → AVk K W H ds vs
  | _, _, _, .nil, e => by cases e; exact .nil
  | (k, x) :: r, _, ds, .cons h hs, e => by
    cases x with
    | r n => simp [ks?] at e
    | d v =>
      unfold ks? at e
      cases q : ks? r with
      | none => rw [q] at e; cases e
      | some l =>
        rw [q] at e
        cases e
        obtain ⟨h1, h2⟩ := h
        cases h2 with
        | d h => exact .cons h1 h (AXk.ks hs q)
theorem Sta.at_ {Z : Wd} {S : Sto} (s : Sta K Z ρ S H) {n : Nat} {o : O} (e : S[n]? = some o) : ∃ a, ρ[n]? = some a ∧ AO K (Wn Z ρ) ρ H o a := by
  have h : n < ρ.length := by rw [← s.len]; exact (List.getElem?_eq_some_iff.mp e).1
  exact ⟨ρ[n], List.getElem?_eq_getElem h, s.ob n o _ e (List.getElem?_eq_getElem h)⟩
theorem AX.get {Z : Wd} {S : Sto} (s : Sta K Z ρ S H) {x : X} {v : V} {d : D} (a : AX K (Wn Z ρ) ρ H x v) (e : x.get S = some d) : AW K (Wn Z ρ) H d v := by
  cases a with
  | d h => cases e; exact .av h
  | r h =>
    rename_i n a
    have e1 : (match S[n]? with
      | some (.lst xs) => (ds? xs).map .lst
      | some (.fdc kvs) => (ks? kvs).map .dic
      | _ => none) = some d := e
    cases q : S[n]? with
    | none => rw [q] at e1; cases e1
    | some o =>
      rw [q] at e1
      obtain ⟨b, hb, x⟩ := s.at_ q
      rw [h] at hb; cases hb
      cases o with
      | lst xs =>
        obtain ⟨l, h1, h2⟩ := Option.map_eq_some_iff.mp (show (ds? xs).map D.lst = some d from e1)
        subst h2
        obtain ⟨vs, h3, h4⟩ := x
        exact .lst h3 (AXs.ds h4 h1)
      | fdc kvs =>
        obtain ⟨l, h1, h2⟩ := Option.map_eq_some_iff.mp (show (ks? kvs).map D.dic = some d from e1)
        subst h2
        obtain ⟨ob, vs, h3, h4⟩ := x
        exact .fdc h3 (AXk.ks h4 h1)
      | _ => cases e1
theorem AW.mv {W' : Wd} {H' : Hp} (m : Mv W H W' H') (k : ∀ a o, H a = some o → H' a = some o) {d : D} {v : V} (h : AW K W H d v) : AW K W' H' d v := by
  cases h with
  | av h => exact .av (h.mv m)
  | lst h hs => exact .lst (k _ _ h) (hs.mv m)
  | fdc h hs => exact .fdc (k _ _ h) (hs.mv m)
/-- a list that may be read -/
theorem AW.sq {ds : List D} {v : V} (h : AW K W H (.lst ds) v) : ∃ a xs, v = .ref a ∧ H a = some (.lst xs) ∧ AVs K W H ds xs := by
  cases h with
  | av h => cases h with | lst w r hs => exact ⟨_, _, rfl, r, hs⟩
  | lst h hs => exact ⟨_, _, rfl, h, hs⟩
theorem AW.tq {ds : List D} {v : V} (h : AW K W H (.tup ds) v) : ∃ a xs, v = .ref a ∧ Tp K W H a xs ∧ AVs K W H ds xs := by
  cases h with
  | av h => cases h with | tup t hs => exact ⟨_, _, rfl, t, hs⟩
theorem AW.dq {ds : List (D × D)} {v : V} (h : AW K W H (.dic ds) v) : ∃ a ob xs, v = .ref a ∧ H a = some (.frz ob (.dK xs)) ∧ AVk K W H ds xs := by
  cases h with
  | av h => cases h with | dic w r hs => exact ⟨_, _, _, rfl, r, hs⟩
  | fdc h hs => exact ⟨_, _, _, rfl, h, hs⟩
theorem AW.ob {C : Str} {fs : List (Str × D)} {v : V} (h : AW K W H (.obj C fs) v) : ∃ a dx vs, v = .ref a ∧ ¬ W a ∧ H a = some (.ins (He.ga K C) dx vs) ∧ AVf K W H fs vs := by
  cases h with
  | av h => cases h with | obj w r hs => exact ⟨_, _, _, rfl, w, r, hs⟩
theorem AVs.length : ∀ {ds : List D} {vs : List V}, AVs K W H ds vs → ds.length = vs.length
  | _, _, .nil => rfl
  | _, _, .cons _ t => by simp [AVs.length t]
theorem AVs.get : ∀ {ds : List D} {vs : List V} {i : Nat} {d : D}, AVs K W H ds vs → ds[i]? = some d → ∃ v, vs[i]? = some v ∧ AV K W H d v
  | _, _, _, _, .nil, e => by simp at e
  | _, _, 0, _, .cons h _, e => by simp at e; subst e; exact ⟨_, rfl, h⟩
  | _, _, i + 1, d, .cons _ t, e => by
    obtain ⟨v, h1, h2⟩ := AVs.get (i := i) (d := d) t (by simpa using e)
    exact ⟨v, by simpa using h1, h2⟩
theorem AVs.append : ∀ {ds es : List D} {vs us : List V}, AVs K W H ds vs → AVs K W H es us → AVs K W H (ds ++ es) (vs ++ us)
  | _, _, _, _, .nil, s => s
  | _, _, _, _, .cons r t, s => .cons r (AVs.append t s)
theorem AVs.take : ∀ {ds : List D} {vs : List V} (n : Nat), AVs K W H ds vs → AVs K W H (ds.take n) (vs.take n)
  | _, _, 0, _ => .nil
  | _, _, _ + 1, .nil => .nil
  | _, _, n + 1, .cons r t => .cons r (AVs.take n t)
theorem AVs.drop : ∀ {ds : List D} {vs : List V} (n : Nat), AVs K W H ds vs → AVs K W H (ds.drop n) (vs.drop n)
  | _, _, 0, r => r
  | _, _, _ + 1, .nil => .nil
  | _, _, n + 1, .cons _ t => AVs.drop n t
theorem AVf.look : ∀ {fs : List (Str × D)} {vs : List (Str × V)} {f : Str} {d : D}, AVf K W H fs vs → fs.lookup f = some d → ∃ v, vs.lookup f = some v ∧ AV K W H d v
  | _, _, _, _, .nil, e => by cases e
  | (g, x) :: r, _, f, d, .cons h hs, e => by
    rw [List.lookup_cons] at e ⊢
    cases q : f == g with
    | true => rw [q] at e; cases e; exact ⟨_, rfl, h⟩
    | false => rw [q] at e; exact AVf.look hs e
theorem AVf.none_of : ∀ {fs : List (Str × D)} {vs : List (Str × V)} {f : Str}, AVf K W H fs vs → fs.lookup f = none → vs.lookup f = none
  | _, _, _, .nil, e => rfl
  | (g, x) :: r, _, f, .cons h hs, e => by
    rw [List.lookup_cons] at e ⊢
    cases q : f == g with
    | true => rw [q] at e; cases e
    | false => rw [q] at e; exact AVf.none_of hs e
end

/-! ### leaves -/
def m_var (i : Nat) : M := fun e S => match e[i]? with
  | some (some x) => .ok x S
  | _ => .bad
def m_c (d : D) : M := fun _ S => .ok (.d d) S
section
variable {X : Cx} {Wx : WX} {pos : Pos}
theorem PE.of {X : Cx} {e : Expr} {t t' : TE} (h : PE X e t) (w : ∀ σ H Q, t' σ H Q → t σ H Q) : PE X e t' := ⟨fun pins s σ H Q I q => h.run pins s σ H Q I (w σ H Q q)⟩
theorem me_var (i : Nat) {x : Str} (hN : X.N[i]? = some x := by rfl) (hv : Vis X.env.scope x := by first | exact Or.inl rfl | exact Or.inr (Or.inl rfl) | exact Or.inr (Or.inr rfl)) (hd : (x == ("__debug__" : Str)) = false := by decide)
    (hcd : (x == ("__classdict__" : Str)) = false := by decide) : ME X Wx (.Name x pos) (m_var i) := PE.of (pe_var hN hv hd hcd) fun σ H Q ⟨Z, ρ, e, S, st, ev, p⟩ => by
  unfold m_var at p
  cases q : e[i]? with
  | none => rw [q] at p; exact p.elim
  | some o =>
    cases o with
    | none => rw [q] at p; exact p.elim
    | some x =>
      rw [q] at p
      obtain ⟨v, h1, h2⟩ := ev.at_ i x q
      exact ⟨v, h1, p.ret0 st h2⟩
theorem me_of {e : Expr} {d : D} {v : V} (h : PE X e (tC v)) (a : ∀ W H, AV X.K W H d v) : ME X Wx e (m_c d) := PE.of h fun σ H Q ⟨Z, ρ, e, S, st, ev, p⟩ => PostG.ret0 p st (.d (a _ _))
theorem me_int {i : Int} {j} : ME X Wx (.Constant (.int i) j pos) (m_c (.int i)) := me_of pe_int fun _ _ => .int i
theorem me_bl {b : Bool} {j} : ME X Wx (.Constant (.bool b) j pos) (m_c (.bl b)) := me_of pe_bl fun _ _ => .bl b
theorem me_non {j} : ME X Wx (.Constant .none j pos) (m_c .non) := me_of pe_non fun _ _ => .non
theorem me_str {x : Str} {j} (h : PyData.strOk x = true := by decide +kernel) : ME X Wx (.Constant (.str x) j pos) (m_c (.str x)) := me_of pe_str fun _ _ => .str h
/-- a constant of the module -/
theorem me_glob {x : Str} {d : D} {u : Value} (hg : Gl X x) (hm : X.mg x = some u) (h : ∃ v, (∀ W H, AV X.K W H d v) ∧ RelV v u) (hd : (x == ("__debug__" : Str)) = false := by decide) : ME X Wx (.Name x pos) (m_c d) := by
  obtain ⟨v, a, r⟩ := h
  exact me_of (pe_glob hg hm r hd) a
end

/-! ### operators -/
/-- f on data is the operation r -/
def Op2 (K : PySem.W.Frag) (r : R2) (f : D → D → Option D) : Prop := ∀ (W : Wd) (H : Hp) (d1 d2 : D) (v1 v2 : V) (d : D) (Q : VK), (∀ a, W a → ∃ o, H a = some o) → AW K W H d1 v1 → AW K W H d2 v2 → f d1 d2 = some d →
  (∀ H' v, Same H H' → AV K W H' d v → Q v H') → r v1 v2 H Q
def op2 (f : D → D → Option D) (S : Sto) (x y : X) : R X := match x.get S, y.get S with
  | some a, some b => (match f a b with
    | some d => .ok (.d d) S
    | none => .bad)
  | _, _ => .bad
def m_op2 (f : D → D → Option D) (ma mb : M) : M := fun e S => (ma e S).bind fun x S1 => (mb e S1).bind fun y S2 => op2 f S2 x y
section
variable {X : Cx} {Wx : WX} {pos : Pos} {a b c : Expr} {ma mb mc : M}
theorem same_mv {W : Wd} {H H' : Hp} (k : Same H H') : Mv W H W H' := fun a o h q => ⟨h, k a o q⟩
theorem op2_run {r : R2} {f : D → D → Option D} (hf : Op2 X.K r f) {Z : Wd} {ρ : List Addr} {S : Sto} {H : Hp} {σ : St} {Q : VK} {x y : Bv.X} {v1 v2 : V} (st : Sta X.K Z ρ S H) (a1 : AX X.K (Wn Z ρ) ρ H x v1) (a2 : AX X.K (Wn Z ρ) ρ H y v2)
    (p : Post X.K Z ρ H Wx σ Q (op2 f S x y)) : r v1 v2 H Q := by
  unfold op2 at p
  cases e1 : x.get S with
  | none => rw [e1] at p; exact p.elim
  | some d1 =>
    cases e2 : y.get S with
    | none => rw [e1, e2] at p; exact p.elim
    | some d2 =>
      rw [e1, e2] at p
      have p : Post X.K Z ρ H Wx σ Q (match f d1 d2 with
        | some d => .ok (.d d) S
        | none => .bad) := p
      cases e3 : f d1 d2 with
      | none => rw [e3] at p; exact p.elim
      | some d =>
        rw [e3] at p
        exact hf (Wn Z ρ) H d1 d2 v1 v2 d Q (fun _ h => st.thereW h) (a1.get st e1) (a2.get st e2) e3 fun H' v k h => p.ret st k (.d h)
/-- two operands, from the left -/
theorem two_run {r : R2} {f : D → D → Option D} (hf : Op2 X.K r f) {σ : St} {H : Hp} {Q : VK} (h : RE X.K Wx (m_op2 f ma mb) σ H Q) : tOp r (RE X.K Wx ma) (RE X.K Wx mb) σ H Q := by
  obtain ⟨Z, ρ, e, S, st, ev, p⟩ := h
  refine tt_bind st ev p fun ρ1 H1 v1 x S1 st1 g1 ev1 a1 p1 => ?_
  refine tt_bind st1 ev1 p1 fun ρ2 H2 v2 y S2 st2 g2 ev2 a2 p2 => ?_
  exact op2_run hf st2 (a1.mv (g2.mv st1) g2.pre) a2 p2
theorem me_op {op : Operator} {r : R2} {f : D → D → Option D} (ho : OpR X (binaryOp op) r) (hf : Op2 X.K r f) (ha : ME X Wx a ma) (hb : ME X Wx b mb) : ME X Wx (.BinOp a op b pos) (m_op2 f ma mb) :=
  PE.of (pe_op ho ha hb) fun _ _ _ h => two_run hf h
theorem me_cmp {op : CmpOp} {r : R2} {f : D → D → Option D} (ho : OpR X (compareOp op) r) (hf : Op2 X.K r f) (ha : ME X Wx a ma) (hb : ME X Wx b mb) (hm : behindInMarks op b = false := by first | exact nomark _ | (with_unfolding_all rfl)) : ME X Wx (.Compare a [op] [b] pos) (m_op2 f ma mb) :=
  PE.of (pe_cmpR ho ha hb hm) fun _ _ _ h => two_run hf h
/-- a op1 b op2 c -/
def m_chain (f g : D → D → Option D) (ma mb mc : M) : M := fun e S => (ma e S).bind fun x S1 => (mb e S1).bind fun y S2 => (op2 f S2 x y).bind fun z S3 => match z with
  | .d (.bl true) => (mc e S3).bind fun w S4 => op2 g S4 y w
  | .d (.bl false) => .ok (.d (.bl false)) S3
  | _ => .bad
end
end Bv
set_option Elab.async false
set_option linter.all false
set_option maxRecDepth 100000
set_option maxHeartbeats 4000000
/-! By value: operations on data. -/
namespace Bv
open PySem PySem.Spec L2
open PyProof.Rows hiding St
variable [HasW]

/-! ### data as the library's plain data -/
mutual
def D.py : D → Option PyData
  | .non => some .none
  | .bl b => some (.bool b)
  | .int i => some (.int i)
  | .str x => some (.str x)
  | .tup ds => match pys ds with
    | some l => some (.tuple l)
    | none => none
  | .lst ds => match pys ds with
    | some l => some (.list l)
    | none => none
  | .scr ns => some (.list (ns.map .int))
  | .dic _ => none
  | .obj _ _ => none
  | .gl _ => none
def pys : List D → Option (List PyData)
  | [] => some []
  | d :: r => match d.py, pys r with
    | some p, some l => some (p :: l)
    | _, _ => none
end
section
variable {K : PySem.W.Frag} {W : Wd} {H : Hp}
theorem dp_ints : ∀ ns : List Int, DpAll K H (ns.map V.int) (ns.map PyData.int)
  | [] => .nil
  | n :: r => .cons (.int n) (dp_ints r)
theorem lay_ints : ∀ ns : List Int, PyData.canLayAll0 (ns.map PyData.int) = true
  | [] => by simp [PyData.canLayAll0]
  | n :: r => by simp [PyData.canLayAll0, PyData.canLay0, lay_ints r]
mutual
theorem AV.dp : ∀ {d : D} {v : V} {p : PyData}, AV K W H d v → d.py = some p → Dp K H v p ∧ p.canLay0 = true
  | _, _, _, .non, e => by cases e; exact ⟨.non, by simp [PyData.canLay0]⟩
  | _, _, _, .bl b, e => by cases e; exact ⟨.bl b, by simp [PyData.canLay0]⟩
  | _, _, _, .int i, e => by cases e; exact ⟨.int i, by simp [PyData.canLay0]⟩
  | _, _, _, .str h, e => by cases e; exact ⟨.str _, by simpa [PyData.canLay0] using h⟩
  | _, _, _, .gl x, e => by cases e
  | _, _, _, .scr h, e => by cases e; exact ⟨.lst h.sl (dp_ints _), by simpa [PyData.canLay0] using lay_ints _⟩
  | .tup ds, _, p, .tup t hs, e => by
    have e1 : (match pys ds with
      | some l => some (PyData.tuple l)
      | none => none) = some p := by simpa [D.py] using e
    cases q : pys ds with
    | none => rw [q] at e1; cases e1
    | some l =>
      rw [q] at e1; cases e1
      obtain ⟨h1, h2⟩ := AVs.dp hs q
      exact ⟨.tup t.sq h1, by simpa [PyData.canLay0] using h2⟩
  | .lst ds, _, p, .lst w h hs, e => by
    have e1 : (match pys ds with
      | some l => some (PyData.list l)
      | none => none) = some p := by simpa [D.py] using e
    cases q : pys ds with
    | none => rw [q] at e1; cases e1
    | some l =>
      rw [q] at e1; cases e1
      obtain ⟨h1, h2⟩ := AVs.dp hs q
      exact ⟨.lst (.inl (.inl h)) h1, by simpa [PyData.canLay0] using h2⟩
  | _, _, _, .dic w h hs, e => by simp [D.py] at e
  | _, _, _, .obj w h hs, e => by simp [D.py] at e
theorem AVs.dp : ∀ {ds : List D} {vs : List V} {ps : List PyData}, AVs K W H ds vs → pys ds = some ps → DpAll K H vs ps ∧ PyData.canLayAll0 ps = true
  | _, _, _, .nil, e => by simp [pys] at e; subst e; exact ⟨.nil, by simp [PyData.canLayAll0]⟩
  | d :: r, _, ps, .cons h hs, e => by
    cases q1 : d.py with
    | none => simp [pys, q1] at e
    | some p =>
      cases q2 : pys r with
      | none => simp [pys, q1, q2] at e
      | some l =>
        simp [pys, q1, q2] at e
        subst e
        obtain ⟨h1, h2⟩ := AV.dp h q1
        obtain ⟨h3, h4⟩ := AVs.dp hs q2
        exact ⟨.cons h1 h3, by simp [PyData.canLayAll0, h2, h4]⟩
end
theorem AW.dp {d : D} {v : V} {p : PyData} (h : AW K W H d v) (e : d.py = some p) : Dp K H v p ∧ p.canLay0 = true := by
  cases h with
  | av h => exact h.dp e
  | lst h hs =>
    rename_i a xs ds
    have e1 : (match pys ds with
      | some l => some (PyData.list l)
      | none => none) = some p := by simpa [D.py] using e
    cases q : pys ds with
    | none => rw [q] at e1; cases e1
    | some l =>
      rw [q] at e1; cases e1
      obtain ⟨h1, h2⟩ := AVs.dp hs q
      exact ⟨.lst (.inl (.inl h)) h1, by simpa [PyData.canLay0] using h2⟩
  | fdc h hs => simp [D.py] at e
end
def dOk (p : PyData) : Bool := decide (p.depth ≤ 64)
theorem shaped_of {p : PyData} (h : p.canLay0 = true) (d : dOk p = true) : SeqAt.shaped p = true := by
  unfold SeqAt.shaped
  rw [h, Bool.true_and]
  exact d

/-! ### == and != , in and not in -/
def eqD (a b : D) : Option D := match a.py, b.py with
  | some p, some q => if dOk p && dOk q then some (.bl (PyData.eqv p q)) else none
  | _, _ => none
def neD (a b : D) : Option D := match a.py, b.py with
  | some p, some q => if dOk p && dOk q then some (.bl (!PyData.eqv p q)) else none
  | _, _ => none
section
variable {K : PySem.W.Frag}
theorem two_py {a b d : D} {f : PyData → PyData → D} (e : (match a.py, b.py with
  | some p, some q => if dOk p && dOk q then some (f p q) else none
  | _, _ => none) = some d) : ∃ p q, a.py = some p ∧ b.py = some q ∧ dOk p = true ∧ dOk q = true ∧ d = f p q := by
  cases q1 : a.py with
  | none => rw [q1] at e; cases e
  | some p =>
    cases q2 : b.py with
    | none => rw [q1, q2] at e; cases e
    | some q =>
      rw [q1, q2] at e
      have e : (if dOk p && dOk q then some (f p q) else none) = some d := e
      cases q3 : dOk p && dOk q with
      | false => rw [q3] at e; cases e
      | true =>
        rw [q3] at e
        cases e
        obtain ⟨h1, h2⟩ := Bool.and_eq_true_iff.mp q3
        exact ⟨p, q, rfl, rfl, h1, h2, rfl⟩
theorem o_eq : Op2 K (rEqD K) eqD := fun W H d1 d2 v1 v2 d Q hw a1 a2 e k => by
  obtain ⟨p, q, e1, e2, h1, h2, rfl⟩ := two_py (f := fun p q => .bl (PyData.eqv p q)) e
  obtain ⟨x1, y1⟩ := a1.dp e1
  obtain ⟨x2, y2⟩ := a2.dp e2
  exact ⟨p, q, x1, x2, shaped_of y1 h1, shaped_of y2 h2, k H _ (Same.refl H) (.bl _)⟩
theorem o_ne : Op2 K (rNeD K) neD := fun W H d1 d2 v1 v2 d Q hw a1 a2 e k => by
  obtain ⟨p, q, e1, e2, h1, h2, rfl⟩ := two_py (f := fun p q => .bl (!PyData.eqv p q)) e
  obtain ⟨x1, y1⟩ := a1.dp e1
  obtain ⟨x2, y2⟩ := a2.dp e2
  exact ⟨p, q, x1, x2, shaped_of y1 h1, shaped_of y2 h2, k H _ (Same.refl H) (.bl _)⟩
end
/-- in a list or a tuple of data, a sign in a text -/
def inB (a b : D) : Option Bool := match a.py, b.py with
  | some p, some (.list l) => if dOk p && dOk (.list l) then some (l.any fun z => PyData.eqv z p) else none
  | some p, some (.tuple l) => if dOk p && dOk (.tuple l) then some (l.any fun z => PyData.eqv z p) else none
  | some (.str x), some (.str y) => if x.cps.size = 1 then some (y.cps.toList.contains (x.cps.getD 0 0)) else none
  | _, _ => none
def inD (a b : D) : Option D := (inB a b).map .bl
def ninD (a b : D) : Option D := (inB a b).map fun c => .bl (!c)
def rInA (neg : Bool) (K : PySem.W.Frag) : R2 := fun x y H Q => (∃ d ds, Dp K H x d ∧ (Dp K H y (.list ds) ∨ Dp K H y (.tuple ds)) ∧ SeqAt.shaped d = true ∧ SeqAt.shaped (.list ds) = true ∧ Q (.bl (if neg then !ds.any fun z => PyData.eqv z d else ds.any fun z => PyData.eqv z d)) H) ∨
  ∃ (c : Nat) (z : Str), x = .str ⟨#[c]⟩ ∧ y = .str z ∧ Q (.bl (if neg then !decide (c ∈ z.cps.toList) else decide (c ∈ z.cps.toList))) H
theorem op_inA {X : Cx} (hu : X.A.units + 65 < cLine) : OpR X (compareOp .In) (rInA false X.K) := by
  intro pins s σ H x y v u Q I rx ry h
  rcases h with ⟨d, ds, hd, he, sd, se, q⟩ | ⟨c, z, rfl, rfl, q⟩
  · obtain ⟨as, r1⟩ := Dp.reads I d x v hd rx
    rcases he with he | he
    · obtain ⟨bs, r2⟩ := Dp.reads I (.list ds) y u he ry
      exact SeqAt.in_list_reads r2 r1 (SeqAt.canLay_of_shaped se) (SeqAt.canLay_of_shaped sd) (room_in_shaped sd hu) ⟨.bl _, H, I, rfl, q⟩
    · obtain ⟨bs, r2⟩ := Dp.reads I (.tuple ds) y u he ry
      exact SeqAt.in_tuple_reads r2 r1 (SeqAt.canLay_of_shaped se) (SeqAt.canLay_of_shaped sd) (room_in_shaped sd hu) ⟨.bl _, H, I, rfl, q⟩
  · exact op_in_sign pins s σ H _ _ v u Q I rx ry ⟨c, z, rfl, rfl, q⟩
theorem op_ninA {X : Cx} (hu : X.A.units + 65 < cLine) : OpR X (compareOp .NotIn) (rInA true X.K) := by
  intro pins s σ H x y v u Q I rx ry h
  rcases h with ⟨d, ds, hd, he, sd, se, q⟩ | ⟨c, z, rfl, rfl, q⟩
  · obtain ⟨as, r1⟩ := Dp.reads I d x v hd rx
    rcases he with he | he
    · obtain ⟨bs, r2⟩ := Dp.reads I (.list ds) y u he ry
      exact SeqAt.notIn_list_reads r2 r1 (SeqAt.canLay_of_shaped se) (SeqAt.canLay_of_shaped sd) (room_in_shaped sd hu) ⟨.bl _, H, I, rfl, q⟩
    · obtain ⟨bs, r2⟩ := Dp.reads I (.tuple ds) y u he ry
      exact SeqAt.notIn_tuple_reads r2 r1 (SeqAt.canLay_of_shaped se) (SeqAt.canLay_of_shaped sd) (room_in_shaped sd hu) ⟨.bl _, H, I, rfl, q⟩
  · exact op_notIn_sign pins s σ H _ _ v u Q I rx ry ⟨c, z, rfl, rfl, q⟩
theorem one_sign {x : Str} (h : x.cps.size = 1) : x = ⟨#[x.cps.getD 0 0]⟩ := by
  obtain ⟨a⟩ := x
  obtain ⟨l⟩ := a
  cases l with
  | nil => cases h
  | cons c r =>
    cases r with
    | nil => rfl
    | cons c' r => simp at h
theorem inB_ok {K : PySem.W.Frag} {W : Wd} {H : Hp} {a b : D} {v1 v2 : V} {c : Bool} (neg : Bool) {Q : VK} (a1 : AW K W H a v1) (a2 : AW K W H b v2) (e : inB a b = some c) (q : Q (.bl (if neg then !c else c)) H) : rInA neg K v1 v2 H Q := by
  unfold inB at e
  cases e1 : a.py with
  | none => rw [e1] at e; cases e
  | some p =>
    cases e2 : b.py with
    | none => rw [e1, e2] at e; cases p <;> cases e
    | some t =>
      rw [e1, e2] at e
      obtain ⟨x1, y1⟩ := a1.dp e1
      obtain ⟨x2, y2⟩ := a2.dp e2
      have seq : ∀ {l : List PyData}, (Dp K H v2 (.list l) ∨ Dp K H v2 (.tuple l)) → PyData.canLayAll0 l = true → dOk (.list l) = true → dOk p = true → c = (l.any fun z => PyData.eqv z p) → rInA neg K v1 v2 H Q := fun {l} h hl hd hp hc => by
        subst hc
        exact .inl ⟨p, l, x1, h, shaped_of y1 hp, shaped_of (by simpa [PyData.canLay0] using hl) hd, q⟩
      cases t with
      | list l =>
        have e : (if dOk p && dOk (.list l) then some (l.any fun z => PyData.eqv z p) else none) = some c := by cases p <;> exact e
        cases h : dOk p && dOk (.list l) with
        | false => rw [h] at e; cases e
        | true =>
          rw [h] at e
          cases e
          obtain ⟨h1, h2⟩ := Bool.and_eq_true_iff.mp h
          exact seq (.inl x2) (by simpa [PyData.canLay0] using y2) h2 h1 rfl
      | tuple l =>
        have e : (if dOk p && dOk (.tuple l) then some (l.any fun z => PyData.eqv z p) else none) = some c := by cases p <;> exact e
        cases h : dOk p && dOk (.tuple l) with
        | false => rw [h] at e; cases e
        | true =>
          rw [h] at e
          cases e
          obtain ⟨h1, h2⟩ := Bool.and_eq_true_iff.mp h
          exact seq (.inr x2) (by simpa [PyData.canLay0] using y2) (by simpa [dOk, PyData.depth] using h2) h1 rfl
      | str y =>
        cases p with
        | str x =>
          have e : (if x.cps.size = 1 then some (y.cps.toList.contains (x.cps.getD 0 0)) else none) = some c := e
          by_cases h : x.cps.size = 1
          · rw [if_pos h] at e
            cases e
            cases x1
            cases x2
            refine .inr ⟨x.cps.getD 0 0, y, by rw [← one_sign h], rfl, ?_⟩
            rw [List.contains_eq_mem] at q
            exact q
          · rw [if_neg h] at e; cases e
        | _ => cases e
      | none => cases p <;> cases e
      | bool _ => cases p <;> cases e
      | int _ => cases p <;> cases e
      | dict _ => cases p <;> cases e
section
variable {K : PySem.W.Frag}
theorem o_in : Op2 K (rInA false K) inD := fun W H d1 d2 v1 v2 d Q hw a1 a2 e k => by
  obtain ⟨c, h1, h2⟩ := Option.map_eq_some_iff.mp (show (inB d1 d2).map D.bl = some d from e)
  subst h2
  exact inB_ok false a1 a2 h1 (k H _ (Same.refl H) (.bl _))
theorem o_nin : Op2 K (rInA true K) ninD := fun W H d1 d2 v1 v2 d Q hw a1 a2 e k => by
  obtain ⟨c, h1, h2⟩ := Option.map_eq_some_iff.mp (show (inB d1 d2).map (fun c => D.bl (!c)) = some d from e)
  subst h2
  exact inB_ok true a1 a2 h1 (k H _ (Same.refl H) (.bl _))
end

/-! ### numbers -/
section
variable {K : PySem.W.Frag}
def ii (f : Int → Int → Option D) : D → D → Option D
  | .int i, .int j => f i j
  | _, _ => none
theorem AW.int_inv {W : Wd} {H : Hp} {i : Int} {v : V} (h : AW K W H (.int i) v) : v = .int i := by
  cases h with | av h => cases h; rfl
theorem AW.str_inv {W : Wd} {H : Hp} {x : Str} {v : V} (h : AW K W H (.str x) v) : v = .str x ∧ PyData.strOk x = true := by
  cases h with | av h => cases h with | str h => exact ⟨rfl, h⟩
theorem AW.bl_inv {W : Wd} {H : Hp} {b : Bool} {v : V} (h : AW K W H (.bl b) v) : v = .bl b := by
  cases h with | av h => cases h; rfl
theorem AW.non_inv {W : Wd} {H : Hp} {v : V} (h : AW K W H .non v) : v = .non := by
  cases h with | av h => cases h; rfl
theorem ii_inv {f : Int → Int → Option D} {a b d : D} (e : ii f a b = some d) : ∃ i j, a = .int i ∧ b = .int j ∧ f i j = some d := by
  cases a with
  | int i => cases b with
    | int j => exact ⟨i, j, rfl, rfl, e⟩
    | _ => cases e
  | _ => cases b <;> cases e
theorem o_int0 {g : Int → Int → Int} : Op2 K (rI0 fun i j => .int (g i j)) (ii fun i j => some (.int (g i j))) := fun W H d1 d2 v1 v2 d Q hw a1 a2 e k => by
  obtain ⟨i, j, rfl, rfl, e0⟩ := ii_inv e
  clear e
  have e := e0
  clear e0
  cases e
  cases a1.int_inv
  cases a2.int_inv
  exact ⟨i, j, rfl, rfl, k H _ (Same.refl H) (.int _)⟩
theorem o_intC {C : Int → Int → Prop} [∀ i j, Decidable (C i j)] {g : Int → Int → Int} : Op2 K (rI C fun i j => .int (g i j)) (ii fun i j => if C i j then some (.int (g i j)) else none) := fun W H d1 d2 v1 v2 d Q hw a1 a2 e k => by
  obtain ⟨i, j, rfl, rfl, e0⟩ := ii_inv e
  clear e
  have e := e0
  clear e0
  by_cases h : C i j
  · rw [if_pos h] at e
    cases e
    cases a1.int_inv
    cases a2.int_inv
    exact ⟨i, j, rfl, rfl, h, k H _ (Same.refl H) (.int _)⟩
  · rw [if_neg h] at e; cases e
theorem o_cmpI {g : Int → Int → Bool} : Op2 K (rI0 fun i j => .bl (g i j)) (ii fun i j => some (.bl (g i j))) := fun W H d1 d2 v1 v2 d Q hw a1 a2 e k => by
  obtain ⟨i, j, rfl, rfl, e0⟩ := ii_inv e
  clear e
  have e := e0
  clear e0
  cases e
  cases a1.int_inv
  cases a2.int_inv
  exact ⟨i, j, rfl, rfl, k H _ (Same.refl H) (.bl _)⟩
instance (i j : Int) : Decidable (CMul i j) := by unfold CMul; infer_instance
instance (i j : Int) : Decidable (CDiv i j) := by unfold CDiv; infer_instance
instance (i j : Int) : Decidable (CPow i j) := by unfold CPow; infer_instance
def subD : D → D → Option D := ii fun i j => some (.int (i - j))
def mulD : D → D → Option D := ii fun i j => if CMul i j then some (.int (i * j)) else none
def fdivD : D → D → Option D := ii fun i j => if CDiv i j then some (.int (i / j)) else none
def modD : D → D → Option D := ii fun i j => if 0 < j then some (.int (i % j)) else none
def powD : D → D → Option D := ii fun i j => if CPow i j then some (.int (i ^ j.toNat)) else none
def ltD : D → D → Option D := ii fun i j => some (.bl (decide (i < j)))
def leD : D → D → Option D := ii fun i j => some (.bl (decide (i ≤ j)))
def gtD : D → D → Option D := ii fun i j => some (.bl (decide (j < i)))
def geD : D → D → Option D := ii fun i j => some (.bl (decide (j ≤ i)))
end

/-! ### + of ints, texts, lists, tuples -/
section
variable {K : PySem.W.Frag} {W : Wd} {H : Hp}
theorem new_lst {p : Addr} {ds : List D} {xs : List V} (hw : ∀ a, W a → ∃ o, H a = some o) (hp : H p = none) (a : AVs K W H ds xs) : AV K W (upd H p (.lst xs)) (.lst ds) (.ref p) :=
  .lst (fun z => by obtain ⟨o, e⟩ := hw p z; rw [hp] at e; cases e) upd_same (a.mv (same_mv (upd_keep hp)))
theorem new_tup {p : Addr} {ds : List D} {xs : List V} (hw : ∀ a, W a → ∃ o, H a = some o) (hp : H p = none) (a : AVs K W H ds xs) : AV K W (upd H p (.tup xs)) (.tup ds) (.ref p) :=
  .tup (.inl ⟨fun z => (by obtain ⟨o, e⟩ := hw p z; rw [hp] at e; cases e), upd_same⟩) (a.mv (same_mv (upd_keep hp)))
theorem strOk_append {x y : Str} (hx : PyData.strOk x = true) (hy : PyData.strOk y = true) : PyData.strOk (x ++ y) = true := by
  unfold PyData.strOk at *
  have e : (x ++ y).cps = x.cps ++ y.cps := rfl
  rw [e, Array.all_append, hx, hy]; rfl
end
def addD (a b : D) : Option D := match a, b with
  | .int i, .int j => some (.int (i + j))
  | .str x, .str y => if x.length + y.length ≤ sizeLine then some (.str (x ++ y)) else none
  | .lst xs, .lst ys => if xs.length + ys.length ≤ sizeLine then some (.lst (xs ++ ys)) else none
  | .tup xs, .tup ys => if xs.length + ys.length ≤ sizeLine then some (.tup (xs ++ ys)) else none
  | _, _ => none
def rAddA (K : PySem.W.Frag) : R2 := fun x y H Q => ((rI0 fun i j => .int (i + j)) x y H Q) ∨ ((∃ i j, x = .str i ∧ y = .str j ∧ i.length + j.length ≤ sizeLine ∧ Q (.str (i ++ j)) H) ∨ (rCat x y H Q ∨ rCatA K x y H Q))
theorem op_addA {X : Cx} : OpR X (binaryOp .Add) (rAddA X.K) := OpR.or op_add (OpR.or op_add_str (OpR.or op_cat op_catA))
theorem o_add {K : PySem.W.Frag} : Op2 K (rAddA K) addD := fun W H d1 d2 v1 v2 d Q hw a1 a2 e k => by
  cases d1 with
  | int i => cases d2 with
    | int j =>
      cases e
      cases a1.int_inv
      cases a2.int_inv
      exact .inl ⟨i, j, rfl, rfl, k H _ (Same.refl H) (.int _)⟩
    | _ => cases e
  | str x => cases d2 with
    | str y =>
      have e : (if x.length + y.length ≤ sizeLine then some (D.str (x ++ y)) else none) = some d := e
      by_cases h : x.length + y.length ≤ sizeLine
      · rw [if_pos h] at e
        cases e
        obtain ⟨rfl, h1⟩ := a1.str_inv
        obtain ⟨rfl, h2⟩ := a2.str_inv
        exact .inr (.inl ⟨x, y, rfl, rfl, h, k H _ (Same.refl H) (.str (strOk_append h1 h2))⟩)
      · rw [if_neg h] at e; cases e
    | _ => cases e
  | lst xs => cases d2 with
    | lst ys =>
      have e : (if xs.length + ys.length ≤ sizeLine then some (D.lst (xs ++ ys)) else none) = some d := e
      by_cases h : xs.length + ys.length ≤ sizeLine
      · rw [if_pos h] at e
        cases e
        obtain ⟨a, vs, rfl, h1, q1⟩ := a1.sq
        obtain ⟨b, us, rfl, h2, q2⟩ := a2.sq
        refine .inr (.inr (.inl ⟨a, b, vs, us, rfl, rfl, h1, h2, by rw [← q1.length, ← q2.length]; exact h, fun p hp => ?_⟩))
        exact k _ _ (upd_keep hp) (new_lst hw hp (q1.append q2))
      · rw [if_neg h] at e; cases e
    | _ => cases e
  | tup xs => cases d2 with
    | tup ys =>
      have e : (if xs.length + ys.length ≤ sizeLine then some (D.tup (xs ++ ys)) else none) = some d := e
      by_cases h : xs.length + ys.length ≤ sizeLine
      · rw [if_pos h] at e
        cases e
        obtain ⟨a, vs, rfl, h1, q1⟩ := a1.tq
        obtain ⟨b, us, rfl, h2, q2⟩ := a2.tq
        refine .inr (.inr (.inr ⟨a, b, vs, us, rfl, rfl, h1.sq, h2.sq, by rw [← q1.length, ← q2.length]; exact h, fun z => ?_, fun z1 z2 => ?_, fun _ _ p hp => ?_⟩))
        · subst z
          cases q1
          exact k H _ (Same.refl H) (.tup h2 q2)
        · subst z2
          cases q2
          rw [List.append_nil] at k
          exact k H _ (Same.refl H) (.tup h1 q1)
        · exact k _ _ (upd_keep hp) (new_tup hw hp (q1.append q2))
      · rw [if_neg h] at e; cases e
    | _ => cases e
  | _ => cases e

/-! ### is None -/
def D.isNon : D → Bool
  | .non => true
  | _ => false
def isD (a b : D) : Option D := match b with
  | .non => some (.bl a.isNon)
  | _ => none
def isnD (a b : D) : Option D := match b with
  | .non => some (.bl (!a.isNon))
  | _ => none
theorem AW.isN {K : PySem.W.Frag} {W : Wd} {H : Hp} {d : D} {v : V} (h : AW K W H d v) : decide (v = .non) = d.isNon := by
  cases h with
  | av h => cases h <;> simp [D.isNon]
  | lst h hs => simp [D.isNon]
  | fdc h hs => simp [D.isNon]
theorem o_is {K : PySem.W.Frag} : Op2 K (fun x y H Q => y = .non ∧ Q (.bl (decide (x = .non))) H) isD := fun W H d1 d2 v1 v2 d Q hw a1 a2 e k => by
  cases d2 with
  | non =>
    cases a2.non_inv
    refine ⟨rfl, ?_⟩
    rw [a1.isN]
    cases e
    exact k H _ (Same.refl H) (.bl _)
  | _ => cases e
theorem o_isn {K : PySem.W.Frag} : Op2 K (fun x y H Q => y = .non ∧ Q (.bl (!decide (x = .non))) H) isnD := fun W H d1 d2 v1 v2 d Q hw a1 a2 e k => by
  cases d2 with
  | non =>
    cases a2.non_inv
    refine ⟨rfl, ?_⟩
    rw [a1.isN]
    cases e
    exact k H _ (Same.refl H) (.bl _)
  | _ => cases e
end Bv
set_option Elab.async false
set_option linter.all false
set_option maxRecDepth 100000
set_option maxHeartbeats 4000000
/-! By value: truth, tests, and, or, not, conditional expressions; argument lists, displays; attributes; built-in functions. -/
namespace Bv
open PySem PySem.Spec L2
open PyProof.Rows hiding St
variable [HasW]

/-! ### truth -/
def truthD : D → Option Bool
  | .non => some false
  | .bl b => some b
  | .int i => some (i != 0)
  | .str x => if x.length ≤ sizeLine then some ((x.length : Int) != 0) else none
  | .lst ds => some (!ds.isEmpty)
  | .tup ds => some (!ds.isEmpty)
  | .dic _ => none
  | .scr ns => some (!ns.isEmpty)
  | .obj _ _ => none
  | .gl _ => none
theorem AVs.isEmpty {K : PySem.W.Frag} {W : Wd} {H : Hp} : ∀ {ds : List D} {vs : List V}, AVs K W H ds vs → ds.isEmpty = vs.isEmpty
  | _, _, .nil => rfl
  | _, _, .cons _ _ => rfl
theorem AVk.isEmpty {K : PySem.W.Frag} {W : Wd} {H : Hp} : ∀ {ds : List (D × D)} {vs : List (Key × V)}, AVk K W H ds vs → ds.isEmpty = vs.isEmpty
  | _, _, .nil => rfl
  | _, _, .cons _ _ _ => rfl
theorem AW.tru {K : PySem.W.Frag} {W : Wd} {H : Hp} {d : D} {v : V} {b : Bool} (h : AW K W H d v) (e : truthD d = some b) : TruV K v H b := by
  cases d with
  | non => cases h.non_inv; cases e; rfl
  | bl c => cases h.bl_inv; cases e; rfl
  | int i => cases h.int_inv; cases e; rfl
  | str x =>
    obtain ⟨rfl, _⟩ := h.str_inv
    have e : (if x.length ≤ sizeLine then some ((x.length : Int) != 0) else none) = some b := e
    by_cases hx : x.length ≤ sizeLine
    · rw [if_pos hx] at e
      cases e
      exact ⟨hx, rfl⟩
    · rw [if_neg hx] at e; cases e
  | lst ds =>
    obtain ⟨a, xs, rfl, h1, h2⟩ := h.sq
    cases e
    exact .inl ⟨xs, .inl (.inl h1), by rw [h2.isEmpty]⟩
  | tup ds =>
    obtain ⟨a, xs, rfl, h1, h2⟩ := h.tq
    cases e
    exact .inr (.inl ⟨xs, h1.sq, by rw [h2.isEmpty]⟩)
  | dic ds => cases e
  | scr ns =>
    cases e
    cases h with
    | av h => cases h with
      | scr r => exact .inl ⟨_, r.sl, by simp⟩
  | obj _ _ => cases e
  | gl _ => cases e
def truthX (S : Sto) (x : X) : Option Bool := (x.get S).bind truthD
def m_truth (m : M) : MG Bool := fun e S => (m e S).bind fun x S1 => match truthX S1 x with
  | some b => .ok b S1
  | none => .bad
def tb : X → Sto → R Bool := fun x S => match x with
  | .d (.bl b) => .ok b S
  | _ => .bad
/-- a comparison as a test -/
def m_tb (m : M) : MG Bool := fun e S => (m e S).bind tb
def m_notb (m : MG Bool) : MG Bool := fun e S => (m e S).bind fun b S1 => .ok (!b) S1
def m_andb (ma mb : MG Bool) : MG Bool := fun e S => (ma e S).bind fun b S1 => if b then mb e S1 else .ok false S1
def m_orb (ma mb : MG Bool) : MG Bool := fun e S => (ma e S).bind fun b S1 => if b then .ok true S1 else mb e S1
def m_bl (m : MG Bool) : M := fun e S => (m e S).bind fun b S1 => .ok (.d (.bl b)) S1
def m_not (m : M) : M := m_bl (m_notb (m_truth m))
def m_and (ma mb : M) : M := fun e S => (ma e S).bind fun x S1 => match truthX S1 x with
  | some true => mb e S1
  | some false => .ok x S1
  | none => .bad
def m_or (ma mb : M) : M := fun e S => (ma e S).bind fun x S1 => match truthX S1 x with
  | some true => .ok x S1
  | some false => mb e S1
  | none => .bad
def m_if (mt : MG Bool) (ma mb : M) : M := fun e S => (mt e S).bind fun b S1 => if b then ma e S1 else mb e S1
section
variable {X : Cx} {Wx : WX} {pos : Pos} {a b c : Expr} {ma mb mc : M} {rest : List Expr} {mt mu : MG Bool}
theorem AX.tru {K : PySem.W.Frag} {Z : Wd} {ρ : List Addr} {S : Sto} {H : Hp} {x : Bv.X} {v : V} {k : Bool} (st : Sta K Z ρ S H) (h : AX K (Wn Z ρ) ρ H x v) (e : truthX S x = some k) : TruV K v H k := by
  obtain ⟨d, h1, h2⟩ := Option.bind_eq_some_iff.mp e
  exact (h.get st h1).tru h2
theorem mt_truth (h : ME X Wx a ma) (he : ∀ whole, isTrue a X.env whole = (do let v ← whole; standAt a.pos; holding [v] (truthy v)) := by intro _; rfl) : MT X Wx a (m_truth ma) := by
  refine ⟨fun pins s σ H Q I hq => (pt_truth h he).run pins s σ H Q I ?_⟩
  obtain ⟨Z, ρ, e, S, st, ev, p⟩ := hq
  refine tt_bind st ev p fun ρ1 H1 v x S1 st1 g1 ev1 a1 p1 => ?_
  cases q : truthX S1 x with
  | none => rw [q] at p1; exact p1.elim
  | some k =>
    rw [q] at p1
    exact ⟨k, a1.tru st1 q, p1.ret0 st1 rfl⟩
theorem mt_cmp {op : CmpOp} {r : R2} {f : D → D → Option D} (ho : OpR X (compareOp op) r) (hf : Op2 X.K r f) (ha : ME X Wx a ma) (hb : ME X Wx b mb) (hm : behindInMarks op b = false := by first | exact nomark _ | (with_unfolding_all rfl)) : MT X Wx (.Compare a [op] [b] pos) (m_tb (m_op2 f ma mb)) := by
  refine ⟨fun pins s σ H Q I hq => (pt_cmpR ho ha hb hm).run pins s σ H Q I ?_⟩
  obtain ⟨Z, ρ, e, S, st, ev, p⟩ := hq
  show tOp r (RE X.K Wx ma) (RE X.K Wx mb) σ H fun x H' => ∃ k, x = .bl k ∧ Q k H'
  refine two_run (f := f) hf ?_
  refine tt_bind st ev p fun ρ1 H1 v x S1 st1 g1 ev1 a1 p1 => ?_
  cases x with
  | r n => exact p1.elim
  | d d =>
    cases d with
    | bl k =>
      cases a1 with
      | d h =>
        cases h
        exact ⟨k, rfl, p1.ret0 st1 rfl⟩
    | _ => exact p1.elim
theorem mt_not (h : MT X Wx a mt) : MT X Wx (.UnaryOp .Not a pos) (m_notb mt) := by
  refine ⟨fun pins s σ H Q I hq => (pt_not h).run pins s σ H Q I ?_⟩
  obtain ⟨Z, ρ, e, S, st, ev, p⟩ := hq
  refine tt_bind st ev p fun ρ1 H1 v x S1 st1 g1 ev1 a1 p1 => ?_
  cases (show x = v from a1)
  exact p1.ret0 st1 rfl
abbrev MW (X : Cx) (Wx : WX) (e : Expr) (m : MG Bool) : Prop := PW X e (RB X.K Wx m)
theorem mw_and1 (h : MT X Wx a mt) : MW X Wx (.BoolOp .And [a] pos) mt := pw_and1 h
theorem mw_or1 (h : MT X Wx a mt) : MW X Wx (.BoolOp .Or [a] pos) mt := pw_or1 h
theorem mw_and (h : MT X Wx a mt) (h2 : MW X Wx (.BoolOp .And (b :: rest) pos) mu) : MW X Wx (.BoolOp .And (a :: b :: rest) pos) (m_andb mt mu) := by
  refine ⟨fun wh pins s σ H Q I hq => (pw_and h h2).run wh pins s σ H Q I ?_⟩
  obtain ⟨Z, ρ, e, S, st, ev, p⟩ := hq
  refine tt_bind st ev p fun ρ1 H1 v x S1 st1 g1 ev1 a1 p1 => ?_
  cases (show x = v from a1)
  cases v with
  | true => exact ⟨Z, ρ1, e, S1, st1, ev1, p1⟩
  | false => exact p1.ret0 st1 rfl
theorem mw_or (h : MT X Wx a mt) (h2 : MW X Wx (.BoolOp .Or (b :: rest) pos) mu) : MW X Wx (.BoolOp .Or (a :: b :: rest) pos) (m_orb mt mu) := by
  refine ⟨fun wh pins s σ H Q I hq => (pw_or h h2).run wh pins s σ H Q I ?_⟩
  obtain ⟨Z, ρ, e, S, st, ev, p⟩ := hq
  refine tt_bind st ev p fun ρ1 H1 v x S1 st1 g1 ev1 a1 p1 => ?_
  cases (show x = v from a1)
  cases v with
  | true => exact p1.ret0 st1 rfl
  | false => exact ⟨Z, ρ1, e, S1, st1, ev1, p1⟩
theorem mt_w (h : MW X Wx a mt) : MT X Wx a mt := h.pt
/-- as values -/
theorem me_not (h : ME X Wx a ma) : ME X Wx (.UnaryOp .Not a pos) (m_not ma) := PE.of (pe_notT h) fun σ H Q ⟨Z, ρ, e, S, st, ev, p⟩ => by
  have p : Post X.K Z ρ H Wx σ Q ((ma e S).bind fun x S1 => ((match truthX S1 x with
    | some b => R.ok b S1
    | none => .bad).bind fun b S1 => R.ok (!b) S1).bind fun b S1 => .ok (.d (.bl b)) S1) := by
    have e1 : m_not ma e S = _ := rfl
    rw [e1] at p
    unfold m_not m_bl m_notb m_truth at p
    cases q : ma e S with
    | ok x S1 => rw [q] at p; exact p
    | err C fs S1 => rw [q] at p; exact p
    | bad => rw [q] at p; exact p
  refine tt_bind st ev p fun ρ1 H1 v x S1 st1 g1 ev1 a1 p1 => ?_
  cases q : truthX S1 x with
  | none => rw [q] at p1; exact p1.elim
  | some k =>
    rw [q] at p1
    exact ⟨k, a1.tru st1 q, PostG.ret0 p1 st1 (.d (.bl _))⟩
theorem me_one {op} (h : ME X Wx a ma) : ME X Wx (.BoolOp op [a] pos) ma := pe_one h
theorem me_and (h : ME X Wx a ma) (h2 : ME X Wx (.BoolOp .And (b :: rest) pos) mb) : ME X Wx (.BoolOp .And (a :: b :: rest) pos) (m_and ma mb) := PE.of (pe_andT h h2) fun σ H Q ⟨Z, ρ, e, S, st, ev, p⟩ => by
  refine tt_bind st ev p fun ρ1 H1 v x S1 st1 g1 ev1 a1 p1 => ?_
  cases q : truthX S1 x with
  | none => rw [q] at p1; exact p1.elim
  | some k =>
    rw [q] at p1
    refine ⟨k, a1.tru st1 q, ?_⟩
    cases k with
    | true => rw [if_pos rfl]; exact ⟨Z, ρ1, e, S1, st1, ev1, p1⟩
    | false => rw [if_neg Bool.false_ne_true]; exact PostG.ret0 p1 st1 a1
theorem me_or (h : ME X Wx a ma) (h2 : ME X Wx (.BoolOp .Or (b :: rest) pos) mb) : ME X Wx (.BoolOp .Or (a :: b :: rest) pos) (m_or ma mb) := PE.of (pe_orT h h2) fun σ H Q ⟨Z, ρ, e, S, st, ev, p⟩ => by
  refine tt_bind st ev p fun ρ1 H1 v x S1 st1 g1 ev1 a1 p1 => ?_
  cases q : truthX S1 x with
  | none => rw [q] at p1; exact p1.elim
  | some k =>
    rw [q] at p1
    refine ⟨k, a1.tru st1 q, ?_⟩
    cases k with
    | true => rw [if_pos rfl]; exact PostG.ret0 p1 st1 a1
    | false => rw [if_neg Bool.false_ne_true]; exact ⟨Z, ρ1, e, S1, st1, ev1, p1⟩
theorem me_if (hc : MT X Wx c mt) (h : ME X Wx a ma) (h2 : ME X Wx b mb) : ME X Wx (.IfExp c a b pos) (m_if mt ma mb) := PE.of (pe_ifExp hc h h2) fun σ H Q ⟨Z, ρ, e, S, st, ev, p⟩ => by
  refine tt_bind st ev p fun ρ1 H1 v x S1 st1 g1 ev1 a1 p1 => ?_
  cases (show x = v from a1)
  cases v with
  | true => exact ⟨Z, ρ1, e, S1, st1, ev1, p1⟩
  | false => exact ⟨Z, ρ1, e, S1, st1, ev1, p1⟩
/-- a op1 b op2 c -/
theorem chain_run {r r' : R2} {f g : D → D → Option D} (hf : Op2 X.K r f) (hg : Op2 X.K r' g) {σ : St} {H : Hp} {Q : VK} (h : RE X.K Wx (m_chain f g ma mb mc) σ H Q) : tChain r r' (RE X.K Wx ma) (RE X.K Wx mb) (RE X.K Wx mc) σ H Q := by
  obtain ⟨Z, ρ, e, S, st, ev, p⟩ := h
  refine tt_bind st ev p fun ρ1 H1 v x S1 st1 g1 ev1 a1 p1 => ?_
  refine tt_bind st1 ev1 p1 fun ρ2 H2 u y S2 st2 g2 ev2 a2 p2 => ?_
  have a1' := a1.mv (g2.mv st1) g2.pre
  have := ev2
  -- the first link
  have key : ∀ d : D, op2 f S2 x y = R.ok (Bv.X.d d) S2 → ∃ d1 d2, x.get S2 = some d1 ∧ y.get S2 = some d2 ∧ f d1 d2 = some d := fun d q => by
    unfold op2 at q
    cases e1 : x.get S2 with
    | none => rw [e1] at q; cases q
    | some d1 =>
      cases e2 : y.get S2 with
      | none => rw [e1, e2] at q; cases q
      | some d2 =>
        rw [e1, e2] at q
        have q : (match f d1 d2 with
          | some d => R.ok (Bv.X.d d) S2
          | none => .bad) = .ok (Bv.X.d d) S2 := q
        cases e3 : f d1 d2 with
        | none => rw [e3] at q; cases q
        | some d3 => rw [e3] at q; cases q; exact ⟨d1, d2, rfl, rfl, e3⟩
  cases q : op2 f S2 x y with
  | bad => rw [q] at p2; exact p2.elim
  | err C fs S3 => unfold op2 at q; split at q <;> (first | cases q | (split at q <;> cases q))
  | ok z S3 =>
    have hz : ∃ d : D, z = Bv.X.d d ∧ S3 = S2 := by
      unfold op2 at q
      split at q
      · split at q
        · cases q; exact ⟨_, rfl, rfl⟩
        · cases q
      · cases q
    obtain ⟨d, rfl, rfl⟩ := hz
    obtain ⟨d1, d2, e1, e2, e3⟩ := key d q
    rw [q] at p2
    refine hf (Wn Z ρ2) H2 d1 d2 v u d _ (fun _ h => st2.thereW h) (a1'.get st2 e1) (a2.get st2 e2) e3 fun H3 w k a3 => ?_
    cases d with
    | bl kk =>
      cases a3
      refine ⟨kk, rfl, ?_⟩
      have st3 := st2.grow k
      have g3 : Go ρ2 H2 ρ2 H3 := Go.grow k
      have ev3 := ev2.mv (g3.mv st2) g3.pre
      cases kk with
      | true =>
        rw [if_pos rfl]
        refine tt_bind st3 ev3 (PostG.shift g3 st3 p2) fun ρ4 H4 w' y' S4 st4 g4 ev4 a4 p4 => ?_
        exact op2_run hg st4 (a2.mv ((g3.trans g4).mv st2) (g3.trans g4).pre) a4 p4
      | false =>
        rw [if_neg Bool.false_ne_true]
        exact PostG.ret p2 st2 k (.d (.bl _))
    | _ => exact p2.elim
theorem me_chain {op op' : CmpOp} {r r' : R2} {f g : D → D → Option D} (ho : OpR X (compareOp op) r) (ho' : OpR X (compareOp op') r') (hf : Op2 X.K r f) (hg : Op2 X.K r' g) (ha : ME X Wx a ma) (hb : ME X Wx b mb) (hc : ME X Wx c mc)
    (hm : lastMarks [op, op'] [b, c] = false := by with_unfolding_all rfl) : ME X Wx (.Compare a [op, op'] [b, c] pos) (m_chain f g ma mb mc) := PE.of (pe_chain ho ho' ha hb hc hm) fun _ _ _ h => chain_run hf hg h
/-- a test of which the value is a bool, from the reading of the value -/
theorem tb_run {m : M} {σ : St} {H : Hp} {Q : Bool → Hp → Prop} (h : RB X.K Wx (m_tb m) σ H Q) : RE X.K Wx m σ H fun x H' => ∃ k, x = .bl k ∧ Q k H' := by
  obtain ⟨Z, ρ, e, S, st, ev, p⟩ := h
  refine tt_bind st ev p fun ρ1 H1 v x S1 st1 g1 ev1 a1 p1 => ?_
  cases x with
  | r n => exact p1.elim
  | d d =>
    cases d with
    | bl k =>
      cases a1 with
      | d h =>
        cases h
        exact ⟨k, rfl, p1.ret0 st1 rfl⟩
    | _ => exact p1.elim
theorem mt_chain {op op' : CmpOp} {r r' : R2} {f g : D → D → Option D} (ho : OpR X (compareOp op) r) (ho' : OpR X (compareOp op') r') (hf : Op2 X.K r f) (hg : Op2 X.K r' g) (ha : ME X Wx a ma) (hb : ME X Wx b mb) (hc : ME X Wx c mc)
    (hm : lastMarks [op, op'] [b, c] = false := by with_unfolding_all rfl) : MT X Wx (.Compare a [op, op'] [b, c] pos) (m_tb (m_chain f g ma mb mc)) :=
  ⟨fun pins s σ H Q I hq => (pt_chain ho ho' ha hb hc hm).run pins s σ H Q I (chain_run hf hg (tb_run hq))⟩
end
end Bv
set_option Elab.async false
set_option linter.all false
set_option maxRecDepth 100000
set_option maxHeartbeats 4000000
/-! By value: argument lists, displays, attributes, subscripts, slices, calls of what is built in. -/
namespace Bv
open PySem PySem.Spec L2
open PyProof.Rows hiding St
variable [HasW]

/-- a step that may not be there -/
def optR {α : Type} (o : Option α) (S : Sto) : R α := match o with
  | some a => .ok a S
  | none => .bad
theorem PostG.opt {α β : Type} {rel : Wd → List Addr → Hp → α → β → Prop} {K : PySem.W.Frag} {Z : Wd} {ρ : List Addr} {H : Hp} {Wx : WX} {σ : St} {Q : β → Hp → Prop} {o : Option α} {S : Sto} (p : PostG rel K Z ρ H Wx σ Q (optR o S)) : ∃ a, o = some a ∧ PostG rel K Z ρ H Wx σ Q (.ok a S) := by
  cases o with
  | none => exact p.elim
  | some a => exact ⟨a, rfl, p⟩

/-! ### argument lists -/
def m_nil : MG (List X) := fun _ S => .ok [] S
def m_cons (m : M) (ms : MG (List X)) : MG (List X) := fun e S => (m e S).bind fun x S1 => (ms e S1).bind fun xs S2 => .ok (x :: xs) S2
/-- the items of a list, a tuple -/
def items (S : Sto) : X → Option (List X)
  | .d (.lst ds) => some (ds.map .d)
  | .d (.tup ds) => some (ds.map .d)
  | .d _ => none
  | .r n => match S[n]? with
    | some (.lst xs) => some xs
    | _ => none
def m_star (m : M) (ms : MG (List X)) : MG (List X) := fun e S => (m e S).bind fun x S1 => match items S1 x with
  | some ys => (ms e S1).bind fun xs S2 => .ok (ys ++ xs) S2
  | none => .bad
section
variable {X : Cx} {Wx : WX} {pos p : Pos} {a b c : Expr} {es : List Expr} {ma mb mc m : M} {ms : MG (List Bv.X)}
theorem Paired.append {α β : Type} {F : α → β → Prop} : ∀ {l1 l2 : List α} {r1 r2 : List β}, Paired F l1 r1 → Paired F l2 r2 → Paired F (l1 ++ l2) (r1 ++ r2)
  | _, _, _, _, .nil, s => s
  | _, _, _, _, .cons r t, s => .cons r (Paired.append t s)
theorem AVs.axs {K : PySem.W.Frag} {W : Wd} {ρ : List Addr} {H : Hp} : ∀ {ds : List D} {vs : List V}, AVs K W H ds vs → AXs K W ρ H (ds.map .d) vs
  | _, _, .nil => .nil
  | _, _, .cons h hs => .cons (.d h) (AVs.axs hs)
theorem AX.items {K : PySem.W.Frag} {Z : Wd} {ρ : List Addr} {S : Sto} {H : Hp} {x : Bv.X} {v : V} {ys : List Bv.X} (st : Sta K Z ρ S H) (h : AX K (Wn Z ρ) ρ H x v) (e : items S x = some ys) :
    ∃ q xs, v = .ref q ∧ (SqT K H q xs ∨ SqL K H q xs) ∧ AXs K (Wn Z ρ) ρ H ys xs := by
  cases h with
  | d h =>
    cases h with
    | lst w r hs => cases e; exact ⟨_, _, rfl, .inr (.inl (.inl r)), hs.axs⟩
    | tup t hs => cases e; exact ⟨_, _, rfl, .inl t.sq, hs.axs⟩
    | _ => cases e
  | r h =>
    rename_i n q
    have e1 : (match S[n]? with
      | some (.lst xs) => some xs
      | _ => none) = some ys := e
    cases z : S[n]? with
    | none => rw [z] at e1; cases e1
    | some o =>
      rw [z] at e1
      cases o with
      | lst xs =>
        cases e1
        obtain ⟨vs, h1, h2⟩ := st.ob n _ q z h
        exact ⟨q, vs, rfl, .inr (.inl (.inl h1)), h2⟩
      | _ => cases e1
theorem ma_nil : MA X Wx [] m_nil := ⟨fun pos pins s σ H Q I h => pa_nil.run pos pins s σ H Q I (by
  obtain ⟨Z, ρ, e, S, st, ev, p⟩ := h
  exact PostG.ret0 p st .nil)⟩
theorem PA.of {X : Cx} {es : List Expr} {t t' : TA} (h : PA X es t) (w : ∀ σ H Q, t' σ H Q → t σ H Q) : PA X es t' := ⟨fun pos pins s σ H Q I q => h.run pos pins s σ H Q I (w σ H Q q)⟩
theorem ma_cons (h : ME X Wx a ma) (h2 : MA X Wx es ms) (hs : starEach (a :: es) X.env = (false, eval a X.env) :: starEach es X.env := by rfl) : MA X Wx (a :: es) (m_cons ma ms) := PA.of (pa_cons h h2 hs) fun σ H Q ⟨Z, ρ, e, S, st, ev, p⟩ => by
  refine tt_bind st ev p fun ρ1 H1 v x S1 st1 g1 ev1 a1 p1 => ?_
  refine tt_bind st1 ev1 p1 fun ρ2 H2 vs xs S2 st2 g2 ev2 a2 p2 => ?_
  exact PostG.ret0 p2 st2 (.cons (a1.mv (g2.mv st1) g2.pre) a2)
theorem ma_star (h : ME X Wx a ma) (h2 : MA X Wx es ms) (hs : starEach (.Starred a p :: es) X.env = (true, eval a X.env) :: starEach es X.env := by rfl) : MA X Wx (.Starred a p :: es) (m_star ma ms) := PA.of (StX.pa_star h h2 hs) fun σ H Q ⟨Z, ρ, e, S, st, ev, p⟩ => by
  refine tt_bind st ev p fun ρ1 H1 v x S1 st1 g1 ev1 a1 p1 => ?_
  cases q : items S1 x with
  | none => rw [q] at p1; exact p1.elim
  | some ys =>
    rw [q] at p1
    obtain ⟨b, us, rfl, hq, ha⟩ := a1.items st1 q
    refine ⟨b, us, rfl, hq, ?_⟩
    refine tt_bind st1 ev1 p1 fun ρ2 H2 vs xs S2 st2 g2 ev2 a2 p2 => ?_
    exact PostG.ret0 p2 st2 (Paired.append (ha.mv (g2.mv st1) g2.pre) a2)

/-! ### displays -/
def dispT (xs : List Bv.X) (S : Sto) : R Bv.X := match ds? xs with
  | some ds => if ds.length ≤ sizeLine then .ok (.d (.tup ds)) S else .bad
  | none => .bad
def dispL (xs : List Bv.X) (S : Sto) : R Bv.X := match ds? xs with
  | some ds => if ds.length ≤ sizeLine then .ok (.d (.lst ds)) S else .bad
  | none => .bad
/-- a list that will be changed -/
def dispN (xs : List Bv.X) (S : Sto) : R Bv.X := if xs.length ≤ sizeLine then .ok (.r S.length) (S ++ [.lst xs]) else .bad
def m_tup (ms : MG (List Bv.X)) : M := fun e S => (ms e S).bind dispT
def m_lst (ms : MG (List Bv.X)) : M := fun e S => (ms e S).bind dispL
def m_lstN (ms : MG (List Bv.X)) : M := fun e S => (ms e S).bind dispN
theorem Paired.length {α β : Type} {F : α → β → Prop} : ∀ {l : List α} {r : List β}, Paired F l r → l.length = r.length
  | _, _, .nil => rfl
  | _, _, .cons _ t => by simp [Paired.length t]
theorem me_tup {x1} (h : MA X Wx es ms) : ME X Wx (.Tuple es x1 pos) (m_tup ms) := PE.of (pe_tup h) fun σ H Q ⟨Z, ρ, e, S, st, ev, p⟩ => by
  refine tt_bind st ev p fun ρ1 H1 vs xs S1 st1 g1 ev1 a1 p1 => ?_
  unfold dispT at p1
  cases q : ds? xs with
  | none => rw [q] at p1; exact p1.elim
  | some ds =>
    rw [q] at p1
    have p1 : Post X.K Z ρ1 H1 Wx σ Q (if ds.length ≤ sizeLine then .ok (.d (.tup ds)) S1 else .bad) := p1
    by_cases hl : ds.length ≤ sizeLine
    · rw [if_pos hl] at p1
      have av := AXs.ds a1 q
      exact ⟨by rw [← av.length]; exact hl, fun p hp => PostG.ret p1 st1 (upd_keep hp) (.d (new_tup (fun _ h => st1.thereW h) hp av))⟩
    · rw [if_neg hl] at p1; exact p1.elim
theorem me_lst (h : MA X Wx es ms) : ME X Wx (.List es pos) (m_lst ms) := PE.of (pe_lst h) fun σ H Q ⟨Z, ρ, e, S, st, ev, p⟩ => by
  refine tt_bind st ev p fun ρ1 H1 vs xs S1 st1 g1 ev1 a1 p1 => ?_
  unfold dispL at p1
  cases q : ds? xs with
  | none => rw [q] at p1; exact p1.elim
  | some ds =>
    rw [q] at p1
    have p1 : Post X.K Z ρ1 H1 Wx σ Q (if ds.length ≤ sizeLine then .ok (.d (.lst ds)) S1 else .bad) := p1
    by_cases hl : ds.length ≤ sizeLine
    · rw [if_pos hl] at p1
      have av := AXs.ds a1 q
      exact ⟨by rw [← av.length]; exact hl, fun p hp => PostG.ret p1 st1 (upd_keep hp) (.d (new_lst (fun _ h => st1.thereW h) hp av))⟩
    · rw [if_neg hl] at p1; exact p1.elim
theorem Sta.pushL {K : PySem.W.Frag} {Z : Wd} {ρ : List Addr} {S : Sto} {H : Hp} {q : Addr} {xs : List Bv.X} {vs : List V} (s : Sta K Z ρ S H) (hq : H q = none) (a : AXs K (Wn Z ρ) ρ H xs vs) :
    Sta K Z (ρ ++ [q]) (S ++ [.lst xs]) (upd H q (.lst vs)) ∧ Go ρ H (ρ ++ [q]) (upd H q (.lst vs)) := by
  have g : Go ρ H (ρ ++ [q]) (upd H q (.lst vs)) := ⟨List.prefix_append _ _, fun b o h e => ⟨fun z => (by
    rcases List.mem_append.mp z with z | z
    · exact h z
    · have : b = q := by simpa using z
      rw [this, hq] at e; cases e), upd_keep hq b o e⟩, fun b _ _ e => upd_keep hq b _ e⟩
  exact s.push hq (upd_keep hq) ⟨vs, upd_same, a.mv (g.mv s) g.pre⟩
theorem me_lstN (h : MA X Wx es ms) : ME X Wx (.List es pos) (m_lstN ms) := PE.of (pe_lst h) fun σ H Q ⟨Z, ρ, e, S, st, ev, p⟩ => by
  refine tt_bind st ev p fun ρ1 H1 vs xs S1 st1 g1 ev1 a1 p1 => ?_
  unfold dispN at p1
  by_cases hl : xs.length ≤ sizeLine
  · rw [if_pos hl] at p1
    refine ⟨by rw [← Paired.length a1]; exact hl, fun q hq => ?_⟩
    obtain ⟨h1, h2⟩ := st1.pushL hq a1
    exact p1 _ _ _ h1 h2 (.r (by rw [st1.len]; simp))
  · rw [if_neg hl] at p1; exact p1.elim

/-! ### attributes -/
/-- of which classes an attribute is read -/
def attrO (Cs : List Str) (f : Str) (S : Sto) : Bv.X → Option Bv.X
  | .d (.obj C fs) => if Cs.contains C then (fs.lookup f).map .d else none
  | .d _ => none
  | .r n => match S[n]? with
    | some (.ins C fs) => if Cs.contains C then fs.lookup f else none
    | _ => none
def m_attr (Cs : List Str) (f : Str) (m : M) : M := fun e S => (m e S).bind fun x S1 => optR (attrO Cs f S1 x) S1
/-- the classes Cs are plain, none of them has an attribute f of its own -/
def AttrOk (K : PySem.W.Frag) (Cs : List Str) (f : Str) : Prop := ∀ C ∈ Cs, Cls K (He.ga K C) ∧ NoAttr K (He.ga K C) f
theorem pairF_look {K : PySem.W.Frag} {W : Wd} {ρ : List Addr} {H : Hp} : ∀ {fs : List (Str × Bv.X)} {vs : List (Str × V)} {f : Str} {x : Bv.X}, Paired (fun (p : Str × Bv.X) (q : Str × V) => p.1 = q.1 ∧ AX K W ρ H p.2 q.2) fs vs → fs.lookup f = some x → ∃ v, vs.lookup f = some v ∧ AX K W ρ H x v
  | _, _, _, _, .nil, e => by cases e
  | (g, y) :: r, (g', v) :: r', f, x, .cons ⟨h1, h2⟩ hs, e => by
    cases (show g = g' from h1)
    rw [List.lookup_cons] at e ⊢
    cases q : f == g with
    | true => rw [q] at e; cases e; exact ⟨_, rfl, h2⟩
    | false => rw [q] at e; exact pairF_look hs e
theorem pairF_none {K : PySem.W.Frag} {W : Wd} {ρ : List Addr} {H : Hp} : ∀ {fs : List (Str × Bv.X)} {vs : List (Str × V)} {f : Str}, Paired (fun (p : Str × Bv.X) (q : Str × V) => p.1 = q.1 ∧ AX K W ρ H p.2 q.2) fs vs → fs.lookup f = none → vs.lookup f = none
  | _, _, _, .nil, e => rfl
  | (g, y) :: r, (g', v) :: r', f, .cons ⟨h1, h2⟩ hs, e => by
    cases (show g = g' from h1)
    rw [List.lookup_cons] at e ⊢
    cases q : f == g with
    | true => rw [q] at e; cases e
    | false => rw [q] at e; exact pairF_none hs e
theorem ite_some {α : Type} {c : Bool} {o : Option α} {a : α} (h : (if c then o else none) = some a) : c = true ∧ o = some a := by
  cases c with
  | true => exact ⟨rfl, h⟩
  | false => cases h
theorem me_attr {f : Str} (Cs : List Str) (T : AttrOk X.K Cs f) (h : ME X Wx a ma) (hb : attributeBase a f X.env (eval a X.env) = eval a X.env := by rfl) : ME X Wx (.Attribute a f pos) (m_attr Cs f ma) := PE.of (pe_fld h hb) fun σ H Q ⟨Z, ρ, e, S, st, ev, p⟩ => by
  refine tt_bind st ev p fun ρ1 H1 v x S1 st1 g1 ev1 a1 p1 => ?_
  obtain ⟨y, hy, p2⟩ := p1.opt
  clear p1
  cases a1 with
  | d h1 =>
    cases h1 with
    | obj w r hs =>
      rename_i C q dx vs fs
      obtain ⟨hc, hl⟩ := ite_some (show (if Cs.contains C then (fs.lookup f).map Bv.X.d else none) = some y from hy)
      obtain ⟨d, z, rfl⟩ := Option.map_eq_some_iff.mp hl
      obtain ⟨v, h2, h3⟩ := hs.look z
      obtain ⟨t1, t2⟩ := T C (by simpa using hc)
      exact ⟨_, _, _, _, v, rfl, r, t1, t2, h2, PostG.ret0 p2 st1 (.d h3)⟩
    | _ => cases hy
  | r h1 =>
    rename_i n q
    cases z : S1[n]? with
    | none => simp [attrO, z] at hy
    | some o =>
      cases o with
      | ins C fs =>
        obtain ⟨hc, hl⟩ := ite_some (show (if Cs.contains C then fs.lookup f else none) = some y by simpa [attrO, z] using hy)
        obtain ⟨dx, vs, h2, h3⟩ := st1.ob n _ q z h1
        obtain ⟨v, h4, h5⟩ := pairF_look h3 hl
        obtain ⟨t1, t2⟩ := T C (by simpa using hc)
        exact ⟨_, _, _, _, v, rfl, h2, t1, t2, h4, PostG.ret0 p2 st1 h5⟩
      | _ => simp [attrO, z] at hy

/-! ### subscripts and slices -/
def ixD : Bv.X → Int → Option Bv.X
  | .d (.str z), i => if decide (z.length ≤ sizeLine) then (atI z.cps.toList i).map fun c => .d (.str ⟨#[c]⟩) else none
  | .d (.scr ns), i => (atI ns i).map fun z => .d (.int z)
  | _, _ => none
def ixO (S : Sto) (x : Bv.X) (i : Int) : Option Bv.X := match items S x with
  | some xs => atI xs i
  | none => ixD x i
def intX : Bv.X → Option Int
  | .d (.int i) => some i
  | _ => none
def m_ix (ma mb : M) : M := fun e S => (ma e S).bind fun x S1 => (mb e S1).bind fun y S2 => optR ((intX y).bind (ixO S2 x)) S2
theorem AX.int {K : PySem.W.Frag} {W : Wd} {ρ : List Addr} {H : Hp} {x : Bv.X} {v : V} {i : Int} (a : AX K W ρ H x v) (h : intX x = some i) : v = .int i := by
  cases a with
  | r _ => cases h
  | d h1 =>
    cases h1 with
    | int j => cases h; rfl
    | _ => cases h
theorem atI_pair {α β : Type} {F : α → β → Prop} {l : List α} {r : List β} (p : Paired F l r) {i : Int} {a : α} (e : atI l i = some a) : ∃ b, atI r i = some b ∧ F a b := by
  unfold atI at *
  rw [Paired.length p] at e
  cases q : ixN r.length i with
  | none => rw [q] at e; cases e
  | some j =>
    rw [q] at e
    have e : l[j]? = some a := e
    have go : ∀ {l : List α} {r : List β} {j : Nat}, Paired F l r → l[j]? = some a → ∃ b, r[j]? = some b ∧ F a b := fun {l r j} p => by
      induction p generalizing j with
      | nil => intro z; simp at z
      | cons x _ ih =>
        intro z
        cases j with
        | zero => simp at z; subst z; exact ⟨_, rfl, x⟩
        | succ n => simp at z; obtain ⟨b, h1, h2⟩ := ih z; exact ⟨b, by simpa using h1, h2⟩
    obtain ⟨b, h1, h2⟩ := go p e
    exact ⟨b, h1, h2⟩
theorem strOk_mem {z : Str} {c : Nat} (h : PyData.strOk z = true) (m : c ∈ z.cps.toList) : c < 0x110000 := by
  have h2 := Array.all_eq_true_iff_forall_mem.mp (show z.cps.all (· < 0x110000) = true from h) c (by simpa using m)
  simpa using h2
theorem strOk_of {z : Str} (h : ∀ c ∈ z.cps.toList, c < 0x110000) : PyData.strOk z = true := by
  show z.cps.all (· < 0x110000) = true
  exact Array.all_eq_true_iff_forall_mem.mpr fun c m => by simpa using h c (by simpa using m)
theorem atI_mem {α : Type} {l : List α} {i : Int} {a : α} (e : atI l i = some a) : a ∈ l := by
  unfold atI at e
  cases q : ixN l.length i with
  | none => rw [q] at e; cases e
  | some j => rw [q] at e; exact List.mem_of_getElem? e
theorem me_ix (ha : ME X Wx a ma) (hb : ME X Wx b mb) (hs : PlainIx b := by exact fun _ _ => rfl) : ME X Wx (.Subscript a b pos) (m_ix ma mb) := PE.of (pe_ix ix_seq ha hb hs) fun σ H Q ⟨Z, ρ, e, S, st, ev, p⟩ => by
  refine tt_bind st ev p fun ρ1 H1 v x S1 st1 g1 ev1 a1 p1 => ?_
  refine tt_bind st1 ev1 p1 fun ρ2 H2 u y S2 st2 g2 ev2 a2 p2 => ?_
  have a1' := a1.mv (g2.mv st1) g2.pre
  clear a1
  obtain ⟨w, hw0, p2'⟩ := p2.opt
  clear p2 p1 p
  obtain ⟨i, hi, hw⟩ := Option.bind_eq_some_iff.mp hw0
  clear hw0
  have eu := a2.int hi
  subst eu
  cases q : items S2 x with
  | some xs =>
    have q2 : atI xs i = some w := by simpa [ixO, q] using hw
    obtain ⟨b, us, rfl, hq, ha⟩ := a1'.items st2 q
    obtain ⟨w', h1, h2⟩ := atI_pair ha q2
    rcases hq with hq | hq
    · exact .inr (.inl ⟨_, us, i, w', rfl, rfl, hq, h1, PostG.ret0 p2' st2 h2⟩)
    · exact .inl ⟨_, us, i, w', rfl, rfl, hq, h1, PostG.ret0 p2' st2 h2⟩
  | none =>
    have hw2 : ixD x i = some w := by simpa [ixO, q] using hw
    clear hw
    cases a1' with
    | r h => cases hw2
    | d h =>
      cases h with
      | str hz =>
        rename_i z
        obtain ⟨hl, hc⟩ := ite_some hw2
        obtain ⟨c, q2, rfl⟩ := Option.map_eq_some_iff.mp hc
        refine .inr (.inr ⟨z, i, c, rfl, rfl, of_decide_eq_true hl, q2, PostG.ret0 p2' st2 (.d (.str ?_))⟩)
        have hc := strOk_mem hz (atI_mem q2)
        exact strOk_of fun c' m => by
          have : c' = c := by simpa using m
          rw [this]; exact hc
      | scr r =>
        rename_i q' ns
        obtain ⟨z, q2, rfl⟩ := Option.map_eq_some_iff.mp hw2
        refine .inl ⟨_, ns.map V.int, i, .int z, rfl, rfl, r.sl, ?_, PostG.ret0 p2' st2 (.d (.int z))⟩
        unfold atI at *
        rw [List.length_map]
        cases q3 : ixN ns.length i with
        | none => rw [q3] at q2; cases q2
        | some j =>
          rw [q3] at q2
          have q2 : ns[j]? = some z := q2
          show (ns.map V.int)[j]? = some (.int z)
          rw [List.getElem?_map, q2]; rfl
      | _ => cases hw2
end
end Bv
set_option Elab.async false
set_option linter.all false
set_option maxRecDepth 100000
set_option maxHeartbeats 4000000
/-! By value: statements. -/
namespace Bv
open PySem PySem.Spec L2
open PyProof.Rows hiding St
variable [HasW]

/-- how a block ends: it goes on, hands back a value, breaks, continues; or hands back data, its own store thrown away -/
inductive Out where
  | nx (e : Ev) | rt (x : X) | bk (e : Ev) | ct (e : Ev) | rp (d : D)
inductive RO where
  | go (o : Out) (S : Sto) | err (C : Str) (fs : List (Str × D)) (e : Ev) (S : Sto) | bad
abbrev MS := Ev → Sto → RO
/-- an exception's own dict -/
def ErrO (K : PySem.W.Frag) (W : Wd) (H H' : Hp) (fs : List (Str × D)) (d : Option Addr) : Prop :=
  (d = none ∧ fs = []) ∨ ∃ (dd : Addr) (vs : List (Str × V)), d = some dd ∧ H dd = none ∧ ¬ W dd ∧ H' dd = some (.xd vs) ∧ AVf K W H' fs vs
def PostS (K : PySem.W.Frag) (Z : Wd) (ρ : List Addr) (H : Hp) (Wx : WX) (D : Ends) : RO → Prop
  | .go (.nx e) S' => ∀ (ρ' : List Addr) (H' : Hp) (σ' : St), Sta K Z ρ' S' H' → Go ρ H ρ' H' → EvOk K (Wn Z ρ') ρ' H' e σ' → D.nx σ' H'
  | .go (.bk e) S' => ∀ (ρ' : List Addr) (H' : Hp) (σ' : St), Sta K Z ρ' S' H' → Go ρ H ρ' H' → EvOk K (Wn Z ρ') ρ' H' e σ' → D.bk σ' H'
  | .go (.ct e) S' => ∀ (ρ' : List Addr) (H' : Hp) (σ' : St), Sta K Z ρ' S' H' → Go ρ H ρ' H' → EvOk K (Wn Z ρ') ρ' H' e σ' → D.ct σ' H'
  | .go (.rt x) S' => ∀ (ρ' : List Addr) (H' : Hp) (v : V), Sta K Z ρ' S' H' → Go ρ H ρ' H' → AX K (Wn Z ρ') ρ' H' x v → D.rt v H'
  | .go (.rp d) _ => ∀ (H' : Hp) (v : V), (∀ a o, a ∉ ρ → H a = some o → H' a = some o) → AV K Z H' d v → D.rt v H'
  | .err C fs e S' => ∀ (ρ' : List Addr) (H' : Hp) (σ' : St) (d : Option Addr), Sta K Z ρ' S' H' → Go ρ H ρ' H' → EvOk K (Wn Z ρ') ρ' H' e σ' → ErrO K (Wn Z ρ') H H' fs d → Wx (.ref (He.ga K C)) d σ' H'
  | .bad => False
def RS (K : PySem.W.Frag) (Wx : WX) (m : MS) : TS := fun D σ H => ∃ (Z : Wd) (ρ : List Addr) (e : Ev) (S : Sto), Sta K Z ρ S H ∧ EvOk K (Wn Z ρ) ρ H e σ ∧ PostS K Z ρ H Wx D (m e S)
abbrev MP (X : Cx) (Wx : WX) (st : Stmt) (m : MS) : Prop := PS X st (RS X.K Wx m)
abbrev MPs (X : Cx) (Wx : WX) (sts : List Stmt) (m : MS) : Prop := PSs X sts (RS X.K Wx m)
def R.so {α : Type} (r : R α) (e : Ev) (k : α → Sto → RO) : RO := match r with
  | .ok a S => k a S
  | .err C fs S => .err C fs e S
  | .bad => .bad
section
variable {K : PySem.W.Frag} {Z : Wd} {ρ ρ1 : List Addr} {S S1 : Sto} {H H1 : Hp} {Wx : WX} {σ : St} {D : Ends}
theorem ErrO.back {W : Wd} {H' : Hp} {fs : List (Str × Bv.D)} {d : Option Addr} (s1 : ∀ a o, H a = some o → ∃ u, H1 a = some u) (h : ErrO K W H1 H' fs d) : ErrO K W H H' fs d := by
  rcases h with q | ⟨dd, vs, h1, h2, h3⟩
  · exact .inl q
  · refine .inr ⟨dd, vs, h1, ?_, h3⟩
    cases e : H dd with
    | none => rfl
    | some o =>
      obtain ⟨u, z⟩ := s1 dd o e
      rw [h2] at z; cases z
theorem PostS.shift {r : RO} (g : Go ρ H ρ1 H1) (s1 : Sta K Z ρ1 S1 H1) (h : PostS K Z ρ H Wx D r) : PostS K Z ρ1 H1 Wx D r := by
  cases r with
  | go o S' =>
    cases o with
    | nx e => exact fun ρ' H' σ' st go ev => h ρ' H' σ' st (g.trans go) ev
    | bk e => exact fun ρ' H' σ' st go ev => h ρ' H' σ' st (g.trans go) ev
    | ct e => exact fun ρ' H' σ' st go ev => h ρ' H' σ' st (g.trans go) ev
    | rt x => exact fun ρ' H' v st go a => h ρ' H' v st (g.trans go) a
    | rp d => exact fun H' v k a => h H' v (fun b o hb q => let ⟨h1, q1⟩ := g.keep b o hb q; k b o h1 q1) a
  | err C fs e S' => exact fun ρ' H' σ' d st go ev q => h ρ' H' σ' d st (g.trans go) ev (q.back (there_of g s1))
  | bad => exact h
/-- an expression, then the rest of the statement -/
theorem so_bind {α β : Type} {rel : Wd → List Addr → Hp → α → β → Prop} {e : Ev} {m : MG α} {k : α → Sto → RO} {R' : β → Hp → Prop} (st : Sta K Z ρ S H) (ev : EvOk K (Wn Z ρ) ρ H e σ) (h : PostS K Z ρ H Wx D ((m e S).so e k))
    (next : ∀ ρ1 H1 v x S1, Sta K Z ρ1 S1 H1 → Go ρ H ρ1 H1 → EvOk K (Wn Z ρ1) ρ1 H1 e σ → rel (Wn Z ρ1) ρ1 H1 x v → PostS K Z ρ1 H1 Wx D (k x S1) → R' v H1) : RG rel K Wx m σ H R' := by
  refine ⟨Z, ρ, e, S, st, ev, ?_⟩
  cases q : m e S with
  | ok x S1 =>
    rw [q] at h
    exact fun ρ1 H1 v s1 g a => next ρ1 H1 v x S1 s1 g (ev.mv (g.mv st) g.pre) a (PostS.shift g s1 h)
  | err C fs S1 =>
    rw [q] at h
    exact fun ρ' H' d s1 g z => h ρ' H' σ d s1 g (ev.mv (g.mv st) g.pre) z
  | bad => rw [q] at h; exact h
/-- it goes on -/
theorem PostS.next {e : Ev} (h : PostS K Z ρ H Wx D (.go (.nx e) S)) (st : Sta K Z ρ S H) (ev : EvOk K (Wn Z ρ) ρ H e σ) : D.nx σ H := h ρ H σ st (Go.refl _ _) ev
end

/-! ### blocks -/
def s_nil : MS := fun e S => .go (.nx e) S
def RO.then (r : RO) (m : MS) : RO := match r with
  | .go (.nx e) S => m e S
  | r => r
def s_seq (m1 m2 : MS) : MS := fun e S => (m1 e S).then m2
def s_break : MS := fun e S => .go (.bk e) S
def s_cont : MS := fun e S => .go (.ct e) S
def s_expr (m : M) : MS := fun e S => (m e S).so e fun _ S1 => .go (.nx e) S1
def s_set (i : Nat) (m : M) : MS := fun e S => (m e S).so e fun x S1 => .go (.nx (e.set i (some x))) S1
def s_ret (m : M) : MS := fun e S => (m e S).so e fun x S1 => .go (.rt x) S1
/-- data is handed back, whatever else was made -/
def s_retP (m : M) : MS := fun e S => (m e S).so e fun x S1 => match x.get S1 with
  | some d => .go (.rp d) S1
  | none => .bad
def s_retN : MS := fun _ S => .go (.rt (.d .non)) S
def s_retNP : MS := fun _ S => .go (.rp .non) S
/-- data of many values -/
def gets (S : Sto) : List X → Option (List D)
  | [] => some []
  | x :: r => match x.get S, gets S r with
    | some d, some l => some (d :: l)
    | _, _ => none
def s_retT (ms : MG (List X)) : MS := fun e S => (ms e S).so e fun xs S1 => match gets S1 xs with
  | some ds => if ds.length ≤ sizeLine then .go (.rp (.tup ds)) S1 else .bad
  | none => .bad
def s_if (mt : MG Bool) (m1 m2 : MS) : MS := fun e S => (mt e S).so e fun b S1 => if b then m1 e S1 else m2 e S1
section
variable {X : Cx} {Wx : WX} {pos p : Pos} {a b c : Expr} {st : Stmt} {es : List Expr} {rest sts sts2 : List Stmt} {ma mb mc m : M} {ms : MG (List Bv.X)} {mt : MG Bool} {m1 m2 : MS}
theorem PS.of {X : Cx} {st : Stmt} {t t' : TS} (h : PS X st t) (w : ∀ D σ H, t' D σ H → t D σ H) : PS X st t' := ⟨fun pins s σ H D I q => h.run pins s σ H D I (w D σ H q)⟩
theorem PSs.of {X : Cx} {sts : List Stmt} {t t' : TS} (h : PSs X sts t) (w : ∀ D σ H, t' D σ H → t D σ H) : PSs X sts t' := ⟨fun pins s σ H D I q => h.run pins s σ H D I (w D σ H q)⟩
theorem mps_nil : MPs X Wx [] s_nil := PSs.of pss_nil fun D σ H ⟨Z, ρ, e, S, st, ev, p⟩ => p.next st ev
theorem mps_cons (h1 : MP X Wx st m1) (h2 : MPs X Wx rest m2) : MPs X Wx (st :: rest) (s_seq m1 m2) := PSs.of (pss_cons h1 h2) fun D σ H ⟨Z, ρ, e, S, st, ev, p⟩ => by
  refine ⟨Z, ρ, e, S, st, ev, ?_⟩
  have p : PostS X.K Z ρ H Wx D ((m1 e S).then m2) := p
  cases q : m1 e S with
  | go o S1 =>
    rw [q] at p
    cases o with
    | nx e1 => exact fun ρ' H' σ' st' go ev' => ⟨Z, ρ', e1, S1, st', ev', PostS.shift go st' p⟩
    | _ => exact p
  | err C fs e1 S1 => rw [q] at p; exact p
  | bad => rw [q] at p; exact p
theorem mps_one (h1 : MP X Wx st m1) : MPs X Wx [st] m1 := pss_one h1
theorem mp_pass : MP X Wx (.Pass pos) s_nil := PS.of ps_pass fun D σ H ⟨Z, ρ, e, S, st, ev, p⟩ => p.next st ev
theorem mp_doc {x j pos'} : MP X Wx (.Expr (.Constant (.str x) j pos) pos') s_nil := PS.of ps_doc fun D σ H ⟨Z, ρ, e, S, st, ev, p⟩ => p.next st ev
theorem mp_break : MP X Wx (.Break pos) s_break := PS.of ps_break fun D σ H ⟨Z, ρ, e, S, st, ev, p⟩ => p ρ H σ st (Go.refl _ _) ev
theorem mp_continue : MP X Wx (.Continue pos) s_cont := PS.of ps_continue fun D σ H ⟨Z, ρ, e, S, st, ev, p⟩ => p ρ H σ st (Go.refl _ _) ev
theorem mp_expr (h : ME X Wx a ma) (hs : swapsWith a none pos.line X.env = pure false := by rfl) : MP X Wx (.Expr a pos) (s_expr ma) := PS.of (ps_expr h hs) fun D σ H ⟨Z, ρ, e, S, st, ev, p⟩ =>
  so_bind st ev p fun ρ1 H1 v x S1 st1 g1 ev1 a1 p1 => p1.next st1 ev1
theorem mp_set {i : Nat} {x : Str} {pos' : Pos} (hN : X.N.Nodup) (hi : X.N[i]? = some x) (hx : Loc X.env.scope x) (he : ME X Wx a ma) (hs : swapsWith a (some (.Name x pos')) pos.line X.env = pure false := by rfl) (hf : X.fn x = true ∨ X.env.scope.names.lookup x = some .local := by first | exact .inl rfl | exact .inr rfl | assumption) :
    MP X Wx (.Assign [.Name x pos'] a pos) (s_set i ma) := PS.of (ps_set hN hi hx he hs hf) fun D σ H ⟨Z, ρ, e, S, st, ev, p⟩ =>
  so_bind st ev p fun ρ1 H1 v x S1 st1 g1 ev1 a1 p1 => p1.next st1 (ev1.set a1)
theorem mp_ret (h : ME X Wx a ma) : MP X Wx (.Return (some a) pos) (s_ret ma) := PS.of (ps_ret h) fun D σ H ⟨Z, ρ, e, S, st, ev, p⟩ =>
  so_bind st ev p fun ρ1 H1 v x S1 st1 g1 ev1 a1 p1 => p1 ρ1 H1 v st1 (Go.refl _ _) a1
/-- data of a value, when the store is left -/
theorem AW.leave {K : PySem.W.Frag} {Z : Wd} {ρ : List Addr} {S : Sto} {H : Hp} {d : Bv.D} {v : V} (st : Sta K Z ρ S H) (h : AW K (Wn Z ρ) H d v) (hz : ∀ q, v = .ref q → ¬ Z q) : AV K Z H d v := by
  have m : Mv (Wn Z ρ) H Z H := fun a o h q => ⟨fun z => h (.inl z), q⟩
  cases h with
  | av h => exact h.mv m
  | lst h hs => exact .lst (hz _ rfl) h (hs.mv m)
  | fdc h hs => exact .dic (hz _ rfl) h (hs.mv m)
theorem AX.leave {K : PySem.W.Frag} {Z : Wd} {ρ : List Addr} {S : Sto} {H : Hp} {x : Bv.X} {d : Bv.D} {v : V} (st : Sta K Z ρ S H) (h : AX K (Wn Z ρ) ρ H x v) (e : x.get S = some d) : AV K Z H d v := by
  cases h with
  | d h =>
    cases e
    exact h.mv fun a o h q => ⟨fun z => h (.inl z), q⟩
  | r h =>
    refine AW.leave st ((AX.r h).get st e) fun q hq => ?_
    cases hq
    exact fun z => (st.z _ z).1 (List.mem_of_getElem? h)
theorem mp_retP (h : ME X Wx a ma) : MP X Wx (.Return (some a) pos) (s_retP ma) := PS.of (ps_ret h) fun D σ H ⟨Z, ρ, e, S, st, ev, p⟩ =>
  so_bind st ev p fun ρ1 H1 v x S1 st1 g1 ev1 a1 p1 => by
    cases q : x.get S1 with
    | none => rw [q] at p1; exact p1.elim
    | some d =>
      rw [q] at p1
      exact p1 H1 v (fun _ _ _ z => z) (a1.leave st1 q)
theorem mp_retN : MP X Wx (.Return none pos) s_retN := PS.of ps_retN fun D σ H ⟨Z, ρ, e, S, st, ev, p⟩ => p ρ H .non st (Go.refl _ _) (.d .non)
theorem mp_retNP : MP X Wx (.Return none pos) s_retNP := PS.of ps_retN fun D σ H ⟨Z, ρ, e, S, st, ev, p⟩ => p H .non (fun _ _ _ z => z) .non
theorem gets_leave {K : PySem.W.Frag} {Z : Wd} {ρ : List Addr} {S : Sto} {H : Hp} (st : Sta K Z ρ S H) : ∀ {xs : List Bv.X} {vs : List V} {ds : List Bv.D}, AXs K (Wn Z ρ) ρ H xs vs → gets S xs = some ds → AVs K Z H ds vs
  | _, _, _, .nil, e => by cases e; exact .nil
  | x :: r, _, ds, .cons h hs, e => by
    unfold gets at e
    cases q : x.get S with
    | none => rw [q] at e; cases e
    | some d =>
      cases q2 : gets S r with
      | none => rw [q, q2] at e; cases e
      | some l =>
        rw [q, q2] at e
        cases e
        exact .cons (h.leave st q) (gets_leave st hs q2)
theorem mp_retT {x1} {p2 : Pos} (h : MA X Wx es ms) : MP X Wx (.Return (some (.Tuple es x1 p2)) pos) (s_retT ms) := PS.of (ps_ret (pe_tup h)) fun D σ H ⟨Z, ρ, e, S, st, ev, p⟩ =>
  so_bind (rel := AXs X.K) st ev p fun ρ1 H1 vs xs S1 st1 g1 ev1 a1 p1 => by
    cases q : gets S1 xs with
    | none => rw [q] at p1; exact p1.elim
    | some ds =>
      rw [q] at p1
      have p1 : PostS X.K Z ρ1 H1 Wx D (if ds.length ≤ sizeLine then .go (.rp (.tup ds)) S1 else .bad) := p1
      by_cases hl : ds.length ≤ sizeLine
      · rw [if_pos hl] at p1
        have av := gets_leave st1 a1 q
        refine ⟨by rw [← av.length]; exact hl, fun r hr => p1 _ _ (fun b o _ z => upd_keep hr b o z) (new_tup (fun z hz => (st1.z z hz).2) hr av)⟩
      · rw [if_neg hl] at p1; exact p1.elim
theorem mp_if (hc : MT X Wx c mt) (h1 : MPs X Wx sts m1) (h2 : MPs X Wx sts2 m2) : MP X Wx (.If c sts sts2 pos) (s_if mt m1 m2) := PS.of (ps_if hc h1 h2) fun D σ H ⟨Z, ρ, e, S, st, ev, p⟩ =>
  so_bind (rel := relB) st ev p fun ρ1 H1 v x S1 st1 g1 ev1 a1 p1 => by
    cases (show x = v from a1)
    cases v with
    | true => exact ⟨Z, ρ1, e, S1, st1, ev1, p1⟩
    | false => exact ⟨Z, ρ1, e, S1, st1, ev1, p1⟩
/-- what is never come to -/
def s_bad : MS := fun _ _ => .bad
def m_bad : M := fun _ _ => .bad
theorem mp_bad : MP X Wx st s_bad := PS.of ps_never fun D σ H ⟨Z, ρ, e, S, st, ev, p⟩ => p
theorem mps_bad : MPs X Wx sts s_bad := PSs.of pss_never fun D σ H ⟨Z, ρ, e, S, st, ev, p⟩ => p
theorem me_bad : ME X Wx a m_bad := ⟨fun _ _ _ _ _ _ ⟨Z, ρ, e, S, st, ev, p⟩ => p.elim⟩

/-! ### targets -/
/-- a target: a slot, or several -/
inductive Tg where
  | nm (i : Nat) | tp (ts : List Tg)
mutual
def Tg.asg (S : Sto) : Tg → Bv.X → Ev → Option Ev
  | .nm i, x, e => some (e.set i (some x))
  | .tp ts, .d (.tup ds), e => Tg.asgs S ts (ds.map .d) e
  | .tp _, _, _ => none
def Tg.asgs (S : Sto) : List Tg → List Bv.X → Ev → Option Ev
  | [], [], e => some e
  | t :: ts, x :: xs, e => match t.asg S x e with
    | some e1 => Tg.asgs S ts xs e1
    | none => none
  | [], _ :: _, _ => none
  | _ :: _, [], _ => none
end
mutual
def Tg.slots : Tg → List Nat
  | .nm i => [i]
  | .tp ts => Tg.slotss ts
def Tg.slotss : List Tg → List Nat
  | [] => []
  | t :: ts => t.slots ++ Tg.slotss ts
end
def TGt (K : PySem.W.Frag) (t : Tg) : TG := fun v σ H Q => ∃ (Z : Wd) (ρ : List Addr) (e : Ev) (S : Sto) (x : Bv.X) (e' : Ev), Sta K Z ρ S H ∧ EvOk K (Wn Z ρ) ρ H e σ ∧ AX K (Wn Z ρ) ρ H x v ∧ t.asg S x e = some e' ∧ ∀ σ', EvOk K (Wn Z ρ) ρ H e' σ' → (∀ vs : List Nat, (∀ i ∈ t.slots, i ∈ vs) → wipe σ' vs = wipe σ vs) → Q σ' H
def TGs' (K : PySem.W.Frag) (ts : List Tg) : TGs := fun vs σ H Q => ∃ (Z : Wd) (ρ : List Addr) (e : Ev) (S : Sto) (xs : List Bv.X) (e' : Ev), Sta K Z ρ S H ∧ EvOk K (Wn Z ρ) ρ H e σ ∧ AXs K (Wn Z ρ) ρ H xs vs ∧ Tg.asgs S ts xs e = some e' ∧ ∀ σ', EvOk K (Wn Z ρ) ρ H e' σ' → (∀ vs : List Nat, (∀ i ∈ Tg.slotss ts, i ∈ vs) → wipe σ' vs = wipe σ vs) → Q σ' H
theorem wipe_set {σ : St} {i : Nat} {o : Option V} : ∀ {vs : List Nat}, i ∈ vs → wipe (σ.set i o) vs = wipe σ vs
  | [], h => by cases h
  | j :: vs, h => by
    unfold wipe
    by_cases hi : i ∈ vs
    · rw [wipe_set hi]
    · have e : i = j := by
        rcases List.mem_cons.mp h with h | h
        · exact h
        · exact absurd h hi
      subst e
      have go : ∀ {vs : List Nat}, i ∉ vs → wipe (σ.set i o) vs = (wipe σ vs).set i o := fun {vs} => by
        induction vs with
        | nil => intro _; rfl
        | cons k ks ih =>
          intro hk
          rw [List.mem_cons, not_or] at hk
          unfold wipe
          rw [ih hk.2, List.set_comm _ _ hk.1]
      rw [go hi, List.set_set]
theorem PG.of {X : Cx} {e : Expr} {t t' : TG} (h : PG X e t) (w : ∀ v σ H Q, t' v σ H Q → t v σ H Q) : PG X e t' := ⟨fun pins s σ H v u Q I r q => h.run pins s σ H v u Q I r (w v σ H Q q)⟩
theorem PGs.of {X : Cx} {e : List Expr} {t t' : TGs} (h : PGs X e t) (w : ∀ v σ H Q, t' v σ H Q → t v σ H Q) : PGs X e t' := ⟨fun pins s σ H v u Q I r q => h.run pins s σ H v u Q I r (w v σ H Q q)⟩
theorem mg_name {i : Nat} {x : Str} (hN : X.N.Nodup) (hi : X.N[i]? = some x) (hx : Loc X.env.scope x) (hf : X.fn x = true ∨ X.env.scope.names.lookup x = some .local := by first | exact .inl rfl | exact .inr rfl | assumption) : PG X (.Name x pos) (TGt X.K (.nm i)) :=
  PG.of (pg_name hN hi hx hf) fun v σ H Q ⟨Z, ρ, e, S, x, e', st, ev, a, h, k⟩ => by
    have h : some (e.set i (some x)) = some e' := by simpa [Tg.asg] using h
    cases h
    exact k _ (ev.set a) fun vs hv => wipe_set (hv i (by simp [Tg.slots]))
theorem mgs_nil : PGs X [] (TGs' X.K []) := PGs.of pgs_nil fun v σ H Q ⟨Z, ρ, e, S, xs, e', st, ev, a, h, k⟩ => by
  cases a with
  | nil =>
    have h : some e = some e' := by simpa [Tg.asgs] using h
    cases h
    exact ⟨rfl, k σ ev fun _ _ => rfl⟩
  | cons _ _ => simp [Tg.asgs] at h
theorem mgs_cons {t : Tg} {ts : List Tg} (h1 : PG X a (TGt X.K t)) (h2 : PGs X es (TGs' X.K ts)) (hs : (assignEach (a :: es) X.env).map (·.2) = assign a X.env :: (assignEach es X.env).map (·.2) := by rfl) : PGs X (a :: es) (TGs' X.K (t :: ts)) :=
  PGs.of (pgs_cons h1 h2 hs) fun v σ H Q ⟨Z, ρ, e, S, xs, e', st, ev, a, h, k⟩ => by
    cases a with
    | nil => simp [Tg.asgs] at h
    | @cons x v0 xr vr ha hr =>
      cases q : t.asg S x e with
      | none => simp [Tg.asgs, q] at h
      | some e1 =>
        have h : Tg.asgs S ts xr e1 = some e' := by simpa [Tg.asgs, q] using h
        exact ⟨v0, vr, rfl, Z, ρ, e, S, x, e1, st, ev, ha, q, fun σ1 ev1 w1 => ⟨Z, ρ, e1, S, xr, e', st, ev1, hr, h, fun σ2 ev2 w2 => k σ2 ev2 fun vs hv => (w2 vs fun i hi => hv i (by simp [Tg.slotss, hi])).trans (w1 vs fun i hi => hv i (by simp [Tg.slotss, hi]))⟩⟩
theorem asgs_len {S : Sto} : ∀ {ts : List Tg} {xs : List Bv.X} {e e' : Ev}, Tg.asgs S ts xs e = some e' → xs.length = ts.length
  | [], [], _, _, _ => rfl
  | t :: ts, x :: xs, e, e', h => by
    cases q : t.asg S x e with
    | none => simp [Tg.asgs, q] at h
    | some e1 =>
      have h : Tg.asgs S ts xs e1 = some e' := by simpa [Tg.asgs, q] using h
      simp [asgs_len h]
  | [], _ :: _, _, _, h => by simp [Tg.asgs] at h
  | _ :: _, [], _, _, h => by simp [Tg.asgs] at h
theorem mg_tup {k : Nat} {ts : List Tg} (hc : X.calm = true) (h : PGs X es (TGs' X.K ts)) (hn : (assignEach es X.env).length = ts.length := by rfl) (hst : (assignEach es X.env).findIdx? (·.1) = none := by rfl) : PG X (.Tuple es k pos) (TGt X.K (.tp ts)) :=
  PG.of (pg_tup hc h hn hst) fun v σ H Q ⟨Z, ρ, e, S, x, e', st, ev, a, h, kk⟩ => by
    cases a with
    | r _ => simp [Tg.asg] at h
    | d h1 =>
      cases h1 with
      | @tup q xs ds t hs =>
        have h : Tg.asgs S ts (ds.map .d) e = some e' := by simpa [Tg.asg] using h
        have hl := asgs_len h
        rw [List.length_map] at hl
        exact ⟨_, xs, rfl, t.sq, by rw [← hs.length]; exact hl, Z, ρ, e, S, _, e', st, ev, hs.axs, h, fun σ2 ev2 w2 => kk σ2 ev2 fun vs hv => w2 vs fun i hi => hv i (by simpa [Tg.slots] using hi)⟩
      | _ => simp [Tg.asg] at h
def s_asg (t : Tg) (m : M) : MS := fun e S => (m e S).so e fun x S1 => match t.asg S1 x e with
  | some e1 => .go (.nx e1) S1
  | none => .bad
theorem mp_asg {tg : Expr} {t : Tg} (he : ME X Wx a ma) (hg : PG X tg (TGt X.K t)) (hs : swapsWithSole [tg] a pos.line X.env = pure false := by rfl) (hw : swappedStores [tg] a X.env = pure none := by rfl)
    (h1 : (assignEach [tg] X.env).map (·.2) = [assign tg X.env] := by rfl) : MP X Wx (.Assign [tg] a pos) (s_asg t ma) := PS.of (ps_asg he hg hs hw h1) fun D σ H ⟨Z, ρ, e, S, st, ev, p⟩ =>
  so_bind st ev p fun ρ1 H1 v x S1 st1 g1 ev1 a1 p1 => by
    cases q : t.asg S1 x e with
    | none => rw [q] at p1; exact p1.elim
    | some e1 =>
      rw [q] at p1
      exact ⟨Z, ρ1, e, S1, x, e1, st1, ev1, a1, q, fun σ' ev' _ => p1.next st1 ev'⟩

/-! ### self.f = e -/
def putX (f : Str) (x : Bv.X) : List (Str × Bv.X) → List (Str × Bv.X)
  | [] => [(f, x)]
  | (g, y) :: r => if g = f then (g, x) :: r else (g, y) :: putX f x r
theorem pair_put {K : PySem.W.Frag} {W : Wd} {ρ : List Addr} {H : Hp} {f : Str} {x : Bv.X} {v : V} (a : AX K W ρ H x v) : ∀ {fs : List (Str × Bv.X)} {vs : List (Str × V)}, Paired (fun (p : Str × Bv.X) (q : Str × V) => p.1 = q.1 ∧ AX K W ρ H p.2 q.2) fs vs →
    Paired (fun (p : Str × Bv.X) (q : Str × V) => p.1 = q.1 ∧ AX K W ρ H p.2 q.2) (putX f x fs) (putF f v vs)
  | _, _, .nil => .cons ⟨rfl, a⟩ .nil
  | (g, y) :: r, (g', u) :: r', .cons ⟨h1, h2⟩ hs => by
    cases (show g = g' from h1)
    unfold putX putF
    by_cases h : g = f
    · rw [if_pos h, if_pos h]; exact .cons ⟨rfl, a⟩ hs
    · rw [if_neg h, if_neg h]; exact .cons ⟨rfl, h2⟩ (pair_put a hs)
def fldO (Cs : List Str) (f : Str) (S : Sto) (o y : Bv.X) : Option Sto := match o with
  | .r n => (match S[n]? with
    | some (.ins C fs) => if Cs.contains C && decide (fs.length < 1000) then some (S.set n (.ins C (putX f y fs))) else none
    | _ => none)
  | .d _ => none
def s_fld (Cs : List Str) (f : Str) (mo m : M) : MS := fun e S => (m e S).so e fun y S1 => (mo e S1).so e fun o S2 => match fldO Cs f S2 o y with
  | some S3 => .go (.nx e) S3
  | none => .bad
theorem mp_fld {o : Expr} {mo : M} {f : Str} {pos' : Pos} (Cs : List Str) (T : AttrOk X.K Cs f) (ho : ME X Wx o mo) (ha : ME X Wx a ma) (hs : swapsWith a (some (.Attribute o f pos')) pos.line X.env = pure false := by rfl) : MP X Wx (.Assign [.Attribute o f pos'] a pos) (s_fld Cs f mo ma) :=
  PS.of (ps_fld ho ha hs) fun D σ H ⟨Z, ρ, e, S, st, ev, p⟩ =>
  so_bind st ev p fun ρ1 H1 v y S1 st1 g1 ev1 a1 p1 => so_bind st1 ev1 p1 fun ρ2 H2 u o S2 st2 g2 ev2 a2 p2 => by
    have a1 := a1.mv (g2.mv st1) g2.pre
    cases q : fldO Cs f S2 o y with
    | none => rw [q] at p2; exact p2.elim
    | some S3 =>
      rw [q] at p2
      cases a2 with
      | d h => cases q
      | r h =>
        rename_i n q0
        cases z : S2[n]? with
        | none => simp [fldO, z] at q
        | some oo =>
          cases oo with
          | ins C fs =>
            have q1 : (if (Cs.contains C && decide (fs.length < 1000)) = true then some (S2.set n (.ins C (putX f y fs))) else none) = some S3 := by simpa [fldO, z] using q
            by_cases hc : (Cs.contains C && decide (fs.length < 1000)) = true
            · rw [if_pos hc] at q1
              cases q1
              obtain ⟨hc1, hc2⟩ := Bool.and_eq_true_iff.mp hc
              obtain ⟨dx, vs, h2, h3⟩ := st2.ob n _ q0 z h
              obtain ⟨t1, t2⟩ := T C (by simpa using hc1)
              have hl : vs.length < 1000 := by rw [← Paired.length h3]; exact of_decide_eq_true hc2
              have hin : q0 ∈ ρ2 := List.mem_of_getElem? h
              have m : Mv (Wn Z ρ2) H2 (Wn Z ρ2) (upd H2 q0 (.ins (He.ga X.K C) dx (putF f v vs))) := fun b o hb hq => ⟨hb, by rw [upd_ne (fun z => hb (.inr (by rw [z]; exact hin)))]; exact hq⟩
              obtain ⟨st3, g3⟩ := st2.put (o' := .ins C (putX f y fs)) (u := .ins (He.ga X.K C) dx (putF f v vs)) h (fun _ _ q => by rw [h2] at q; cases q) ⟨dx, _, upd_same, Paired.mapP (pair_put a1 h3) fun _ _ w => ⟨w.1, w.2.mv m (List.prefix_refl _)⟩⟩
              exact ⟨_, _, _, vs, rfl, h2, t1, t2, hl, p2 _ _ σ st3 g3 (ev2.mv m (List.prefix_refl _))⟩
            · rw [if_neg hc] at q1; cases q1
          | _ => simp [fldO, z] at q
end
end Bv
set_option Elab.async false
set_option linter.all false
set_option maxRecDepth 100000
set_option maxHeartbeats 4000000
/-! By value: what is walked, for, while, list comprehensions. -/
namespace Bv
open PySem PySem.Spec L2
open PyProof.Rows hiding St
variable [HasW]

/-! ### equal data -/
mutual
def D.beq : D → D → Bool
  | .non, .non => true
  | .bl a, .bl b => a == b
  | .int a, .int b => decide (a = b)
  | .str a, .str b => decide (a = b)
  | .gl a, .gl b => decide (a = b)
  | .scr a, .scr b => decide (a = b)
  | .tup a, .tup b => D.beqs a b
  | .lst a, .lst b => D.beqs a b
  | .dic a, .dic b => D.beqk a b
  | .obj c a, .obj d b => decide (c = d) && D.beqf a b
  | _, _ => false
def D.beqs : List D → List D → Bool
  | [], [] => true
  | a :: r, b :: s => D.beq a b && D.beqs r s
  | _, _ => false
def D.beqk : List (D × D) → List (D × D) → Bool
  | [], [] => true
  | (k, a) :: r, (l, b) :: s => (D.beq k l && D.beq a b) && D.beqk r s
  | _, _ => false
def D.beqf : List (Str × D) → List (Str × D) → Bool
  | [], [] => true
  | (k, a) :: r, (l, b) :: s => (decide (k = l) && D.beq a b) && D.beqf r s
  | _, _ => false
end
mutual
theorem D.eq_of_beq : ∀ (a b : D), D.beq a b = true → a = b
  | .non, b, h => by cases b <;> first | rfl | simp [D.beq] at h
  | .bl x, b, h => by cases b <;> first | (simp [D.beq] at h; rw [h]) | simp [D.beq] at h
  | .int x, b, h => by cases b <;> first | (simp [D.beq] at h; rw [h]) | simp [D.beq] at h
  | .str x, b, h => by cases b <;> first | (simp [D.beq] at h; rw [h]) | simp [D.beq] at h
  | .gl x, b, h => by cases b <;> first | (simp [D.beq] at h; rw [h]) | simp [D.beq] at h
  | .scr x, b, h => by cases b <;> first | (simp [D.beq] at h; rw [h]) | simp [D.beq] at h
  | .tup x, b, h => by
    cases b with
    | tup y => simp only [D.beq] at h; rw [D.eqs_of_beqs x y h]
    | _ => simp [D.beq] at h
  | .lst x, b, h => by
    cases b with
    | lst y => simp only [D.beq] at h; rw [D.eqs_of_beqs x y h]
    | _ => simp [D.beq] at h
  | .dic x, b, h => by
    cases b with
    | dic y => simp only [D.beq] at h; rw [D.eqk_of_beqk x y h]
    | _ => simp [D.beq] at h
  | .obj c x, b, h => by
    cases b with
    | obj d y => simp only [D.beq, Bool.and_eq_true, decide_eq_true_eq] at h; rw [h.1, D.eqf_of_beqf x y h.2]
    | _ => simp [D.beq] at h
theorem D.eqs_of_beqs : ∀ (a b : List D), D.beqs a b = true → a = b
  | [], b, h => by cases b <;> first | rfl | simp [D.beqs] at h
  | x :: r, b, h => by
    cases b with
    | nil => simp [D.beqs] at h
    | cons y s =>
      simp only [D.beqs, Bool.and_eq_true] at h
      rw [D.eq_of_beq x y h.1, D.eqs_of_beqs r s h.2]
theorem D.eqk_of_beqk : ∀ (a b : List (D × D)), D.beqk a b = true → a = b
  | [], b, h => by cases b <;> first | rfl | simp [D.beqk] at h
  | (k, u) :: r, b, h => by
    cases b with
    | nil => simp [D.beqk] at h
    | cons y s =>
      obtain ⟨l, v⟩ := y
      simp only [D.beqk, Bool.and_eq_true] at h
      rw [D.eq_of_beq k l h.1.1, D.eq_of_beq u v h.1.2, D.eqk_of_beqk r s h.2]
theorem D.eqf_of_beqf : ∀ (a b : List (Str × D)), D.beqf a b = true → a = b
  | [], b, h => by cases b <;> first | rfl | simp [D.beqf] at h
  | (k, u) :: r, b, h => by
    cases b with
    | nil => simp [D.beqf] at h
    | cons y s =>
      obtain ⟨l, v⟩ := y
      simp only [D.beqf, Bool.and_eq_true, decide_eq_true_eq] at h
      rw [h.1.1, D.eq_of_beq u v h.1.2, D.eqf_of_beqf r s h.2]
end
mutual
theorem D.beq_self : ∀ a : D, D.beq a a = true
  | .non => by simp [D.beq]
  | .bl _ => by simp [D.beq]
  | .int _ => by simp [D.beq]
  | .str _ => by simp [D.beq]
  | .gl _ => by simp [D.beq]
  | .scr _ => by simp [D.beq]
  | .tup a => by simp [D.beq, D.beqs_self a]
  | .lst a => by simp [D.beq, D.beqs_self a]
  | .dic a => by simp [D.beq, D.beqk_self a]
  | .obj c a => by simp [D.beq, D.beqf_self a]
theorem D.beqs_self : ∀ a : List D, D.beqs a a = true
  | [] => by simp [D.beqs]
  | a :: r => by simp [D.beqs, D.beq_self a, D.beqs_self r]
theorem D.beqk_self : ∀ a : List (D × D), D.beqk a a = true
  | [] => by simp [D.beqk]
  | (k, a) :: r => by simp [D.beqk, D.beq_self k, D.beq_self a, D.beqk_self r]
theorem D.beqf_self : ∀ a : List (Str × D), D.beqf a a = true
  | [] => by simp [D.beqf]
  | (k, a) :: r => by simp [D.beqf, D.beq_self a, D.beqf_self r]
end
instance : DecidableEq D := fun a b => if h : D.beq a b = true then .isTrue (D.eq_of_beq a b h) else .isFalse fun e => h (e ▸ D.beq_self a)
instance : DecidableEq X
  | .d a, .d b => if h : a = b then .isTrue (h ▸ rfl) else .isFalse fun e => h (by cases e; rfl)
  | .r a, .r b => if h : a = b then .isTrue (h ▸ rfl) else .isFalse fun e => h (by cases e; rfl)
  | .d _, .r _ => .isFalse fun e => by cases e
  | .r _, .d _ => .isFalse fun e => by cases e

/-! ### what is walked -/
/-- what must stay while it is walked: a list of the store -/
inductive Lk where
  | free | lst (n : Nat) (xs : List X)
def Lk.ok : Lk → Sto → Bool
  | .free, _ => true
  | .lst n xs, S => match S[n]? with
    | some (.lst zs) => decide (zs = xs)
    | _ => false
/-- the iterator gives ys -/
def Srv (K : PySem.W.Frag) (W : Wd) (ρ : List Addr) (H : Hp) (p : List X × Lk) (J : It) : Prop := ∃ (G : Hp → Prop) (Y : Nat → Hp → V → Hp → Prop), Walk J p.1.length G Y ∧
  ∀ (Z2 : Wd) (ρ2 : List Addr) (S2 : Sto) (H2 : Hp), Sta K Z2 ρ2 S2 H2 → Mv W H (Wn Z2 ρ2) H2 → ρ <+: ρ2 → (∀ a ob u, H a = some (.frz ob u) → H2 a = some (.frz ob u)) → p.2.ok S2 = true → G H2 ∧
    ∀ i x H3, Y i H2 x H3 → Same H2 H3 ∧ ∃ y, p.1[i]? = some y ∧ AX K (Wn Z2 ρ2) ρ2 H3 y x
abbrev MIt := MG (List X × Lk)
abbrev MI (X : Cx) (Wx : WX) (tg iter : Expr) (m : MIt) : Prop := PI X tg iter (RG (Srv X.K) X.K Wx m)
theorem PI.of {X : Cx} {tg e : Expr} {t t' : TI} (h : PI X tg e t) (w : ∀ σ H R, t' σ H R → t σ H R) : PI X tg e t' := ⟨fun pins s σ H R I q => h.run pins s σ H R I (w σ H R q)⟩

/-! ### for -/
def RO.ext (r : RO) (e : Ev) : RO := r
def forL (t : Tg) (l : Lk) (body : MS) : List X → Ev → Sto → RO
  | [], e, S => if l.ok S then .go (.nx e) S else .bad
  | x :: xs, e, S => if l.ok S then (match t.asg S x e with
    | some e1 => (match body e1 S with
      | .go (.nx e2) S2 => forL t l body xs e2 S2
      | .go (.ct e2) S2 => forL t l body xs e2 S2
      | .go (.bk e2) S2 => .go (.nx e2) S2
      | r => r)
    | none => .bad) else .bad
def s_for (t : Tg) (mi : MIt) (body : MS) : MS := fun e S => (mi e S).so e fun p S1 => forL t p.2 body p.1 e S1
section
variable {X : Cx} {Wx : WX} {pos : Pos} {tg iter : Expr} {body : List Stmt} {mi : MIt} {mb : MS} {t : Tg}
theorem drop_get {α : Type} {l : List α} {i : Nat} {a : α} (h : l[i]? = some a) : l.drop i = a :: l.drop (i + 1) := by
  obtain ⟨h1, h2⟩ := List.getElem?_eq_some_iff.mp h
  rw [← h2]
  exact List.drop_eq_getElem_cons h1
theorem mp_for (hp : PassesOwn (model X.prog X.w) X.A X.env X.xe) (hc : X.calm = true) (hi : MI X Wx tg iter mi) (hg : PG X tg (TGt X.K t)) (hb : MPs X Wx body mb)
    (hs : ∀ x, foldedSetIterable iter X.env x = pure x := by intro _; rfl) : MP X Wx (.For tg iter body [] pos) (s_for t mi mb) := PS.of (ps_for hp hc hi hg hb hs) fun D σ H ⟨Z, ρ, e, S, st, ev, p⟩ =>
  so_bind (rel := Srv X.K) st ev p fun ρ1 H1 J p0 S1 st1 g1 ev1 srv p1 => by
    obtain ⟨ys, l⟩ := p0
    obtain ⟨G, Y, w, sv⟩ := srv
    have p1 : PostS X.K Z ρ1 H1 Wx D (forL t l mb ys e S1) := p1
    have sv : ∀ (Z2 : Wd) (ρ2 : List Addr) (S2 : Sto) (H2 : Hp), Sta X.K Z2 ρ2 S2 H2 → Mv (Wn Z ρ1) H1 (Wn Z2 ρ2) H2 → ρ1 <+: ρ2 → (∀ a ob u, H1 a = some (.frz ob u) → H2 a = some (.frz ob u)) → l.ok S2 = true → G H2 ∧
      ∀ i x H3, Y i H2 x H3 → Same H2 H3 ∧ ∃ y, ys[i]? = some y ∧ AX X.K (Wn Z2 ρ2) ρ2 H3 y x := sv
    have w : Walk J ys.length G Y := w
    let Pv : Nat → L2.St → Hp → Prop := fun i σ H => ∃ (ρ : List Addr) (e : Ev) (S : Sto), Sta X.K Z ρ S H ∧ Go ρ1 H1 ρ H ∧ EvOk X.K (Wn Z ρ) ρ H e σ ∧ PostS X.K Z ρ H Wx D (forL t l mb (ys.drop i) e S)
    have okOf : ∀ {xs : List Bv.X} {e : Ev} {S : Sto} {ρ : List Addr} {H : Hp}, PostS X.K Z ρ H Wx D (forL t l mb xs e S) → l.ok S = true := fun {xs e S ρ H} q => by
      cases z : l.ok S with
      | true => rfl
      | false => cases xs <;> (simp only [forL, z] at q; exact q.elim)
    refine for_it w Pv ⟨ρ1, e, S1, st1, Go.refl _ _, ev1, by rw [List.drop_zero]; exact p1⟩ ?_ ?_ ?_
    · rintro i σ2 H2 _ ⟨ρ2, e2, S2, st2, g2, ev2, q2⟩
      exact (sv Z ρ2 S2 H2 st2 (g2.mv st1) g2.pre g2.fz (okOf q2)).1
    · rintro i x σ2 H2 H3 hi ⟨ρ2, e2, S2, st2, g2, ev2, q2⟩ hy
      have hk := okOf q2
      obtain ⟨k, y, e3, a⟩ := (sv Z ρ2 S2 H2 st2 (g2.mv st1) g2.pre g2.fz hk).2 i x H3 hy
      have st3 := st2.grow k
      have g3 : Go ρ2 H2 ρ2 H3 := Go.grow k
      have ev3 := ev2.mv (g3.mv st2) g3.pre
      have q3 := PostS.shift g3 st3 q2
      rw [drop_get e3] at q3
      simp only [forL, hk, if_true] at q3
      cases q4 : t.asg S2 y e2 with
      | none => rw [q4] at q3; exact q3.elim
      | some e4 =>
        rw [q4] at q3
        refine ⟨Z, ρ2, e2, S2, y, e4, st3, ev3, a, q4, fun σ5 ev5 _ => ⟨Z, ρ2, e4, S2, st3, ev5, ?_⟩⟩
        have q3 : PostS X.K Z ρ2 H3 Wx D (match mb e4 S2 with
          | .go (.nx e2) S2 => forL t l mb (ys.drop (i + 1)) e2 S2
          | .go (.ct e2) S2 => forL t l mb (ys.drop (i + 1)) e2 S2
          | .go (.bk e2) S2 => .go (.nx e2) S2
          | r => r) := q3
        cases q5 : mb e4 S2 with
        | bad => rw [q5] at q3; exact q3
        | err C fs e6 S6 => rw [q5] at q3; exact q3
        | go o S6 =>
          rw [q5] at q3
          cases o with
          | nx e6 => exact fun ρ7 H7 σ7 st7 g7 ev7 => ⟨ρ7, e6, S6, st7, g2.trans (g3.trans g7), ev7, PostS.shift g7 st7 q3⟩
          | ct e6 => exact fun ρ7 H7 σ7 st7 g7 ev7 => ⟨ρ7, e6, S6, st7, g2.trans (g3.trans g7), ev7, PostS.shift g7 st7 q3⟩
          | bk e6 => exact q3
          | rt x6 => exact q3
          | rp d6 => exact q3
    · rintro σ2 H2 ⟨ρ2, e2, S2, st2, g2, ev2, q2⟩
      have hk := okOf q2
      rw [List.drop_length] at q2
      simp only [forL, hk, if_true] at q2
      exact q2.next st2 ev2

/-! ### while -/
def whileL (mt : MG Bool) (body : MS) : Nat → Ev → Sto → RO
  | 0, _, _ => .bad
  | n + 1, e, S => (mt e S).so e fun b S1 => if b then (match body e S1 with
    | .go (.nx e2) S2 => whileL mt body n e2 S2
    | .go (.ct e2) S2 => whileL mt body n e2 S2
    | .go (.bk e2) S2 => .go (.nx e2) S2
    | r => r) else .go (.nx e) S1
/-- how often a while may turn -/
def many : Nat := 1000000
def s_while (mt : MG Bool) (body : MS) : MS := whileL mt body many
theorem mp_while {c : Expr} {mt : MG Bool} (hp : PassesOwn (model X.prog X.w) X.A X.env X.xe) (hc : MT X Wx c mt) (hb : MPs X Wx body mb) : MP X Wx (.While c body [] pos) (s_while mt mb) := PS.of (ps_while hp hc hb) fun D σ H ⟨Z, ρ, e, S, st, ev, p⟩ => by
  refine ⟨fun m σ H => ∃ (ρ : List Addr) (e : Ev) (S : Sto), Sta X.K Z ρ S H ∧ EvOk X.K (Wn Z ρ) ρ H e σ ∧ PostS X.K Z ρ H Wx D (whileL mt mb m e S), ⟨many, ρ, e, S, st, ev, p⟩, ?_⟩
  rintro m σ H ⟨ρ, e, S, st, ev, p⟩
  cases m with
  | zero => exact p.elim
  | succ n =>
    refine so_bind (rel := relB) st ev p fun ρ1 H1 v x S1 st1 g1 ev1 a1 p1 => ?_
    cases (show x = v from a1)
    cases v with
    | false => exact p1.next st1 ev1
    | true =>
      refine ⟨fun σ H => ∃ (ρ : List Addr) (e : Ev) (S : Sto), Sta X.K Z ρ S H ∧ EvOk X.K (Wn Z ρ) ρ H e σ ∧ PostS X.K Z ρ H Wx D (whileL mt mb n e S), fun σ' H' q => ⟨n, Nat.lt_succ_self n, q⟩, ⟨Z, ρ1, e, S1, st1, ev1, ?_⟩⟩
      have p1 : PostS X.K Z ρ1 H1 Wx D (match mb e S1 with
        | .go (.nx e2) S2 => whileL mt mb n e2 S2
        | .go (.ct e2) S2 => whileL mt mb n e2 S2
        | .go (.bk e2) S2 => .go (.nx e2) S2
        | r => r) := p1
      cases q5 : mb e S1 with
      | bad => rw [q5] at p1; exact p1
      | err C fs e6 S6 => rw [q5] at p1; exact p1
      | go o S6 =>
        rw [q5] at p1
        cases o with
        | nx e6 => exact fun ρ7 H7 σ7 st7 g7 ev7 => ⟨ρ7, e6, S6, st7, ev7, PostS.shift g7 st7 p1⟩
        | ct e6 => exact fun ρ7 H7 σ7 st7 g7 ev7 => ⟨ρ7, e6, S6, st7, ev7, PostS.shift g7 st7 p1⟩
        | bk e6 => exact p1
        | rt x6 => exact p1
        | rp d6 => exact p1

/-! ### list comprehensions -/
/-- what may not raise -/
def R.ne {α : Type} : R α → R α
  | .ok a S => .ok a S
  | _ => .bad
def wipeE (e : Ev) : List Nat → Ev
  | [] => e
  | v :: vs => (wipeE e vs).set v none
theorem wipeE_length (e : Ev) : ∀ vs : List Nat, (wipeE e vs).length = e.length
  | [] => rfl
  | v :: vs => by unfold wipeE; rw [List.length_set, wipeE_length e vs]
theorem wipeE_some {e : Ev} {i : Nat} {x : Bv.X} : ∀ {vs : List Nat}, (wipeE e vs)[i]? = some (some x) → e[i]? = some (some x) ∧ i ∉ vs
  | [], h => ⟨h, by simp⟩
  | v :: vs, h => by
    unfold wipeE at h
    by_cases hi : v = i
    · subst hi
      by_cases hv : v < (wipeE e vs).length
      · rw [List.getElem?_set_self hv] at h; cases h
      · rw [List.getElem?_eq_none (by simpa using hv)] at h; cases h
    · rw [List.getElem?_set_ne hi] at h
      obtain ⟨h1, h2⟩ := wipeE_some h
      exact ⟨h1, by simp only [List.mem_cons, not_or]; exact ⟨fun e => hi e.symm, h2⟩⟩
theorem wipe_keep {σ : L2.St} {i : Nat} {x : Option V} : ∀ {vs : List Nat}, i ∉ vs → σ[i]? = some x → (wipe σ vs)[i]? = some x
  | [], _, h => h
  | v :: vs, hn, h => by
    rw [List.mem_cons, not_or] at hn
    unfold wipe
    rw [List.getElem?_set_ne (fun z => hn.1 z.symm)]
    exact wipe_keep hn.2 h
theorem EvOk.wipe {K : PySem.W.Frag} {W : Wd} {ρ : List Addr} {H : Hp} {e : Ev} {σ : L2.St} (h : EvOk K W ρ H e σ) (vs : List Nat) : EvOk K W ρ H (wipeE e vs) (wipe σ vs) :=
  ⟨by rw [wipeE_length, wipe_length]; exact h.len, fun i x q => by
    obtain ⟨h1, h2⟩ := wipeE_some q
    obtain ⟨v, h3, h4⟩ := h.at_ i x h1
    exact ⟨v, wipe_keep h2 h3, h4⟩⟩
/-- the items that a comprehension makes -/
def lcL (t : Tg) (l : Lk) (mt : MG Bool) (me : M) (e : Ev) : List Bv.X → Sto → R (List D)
  | [], S => if l.ok S then .ok [] S else .bad
  | x :: xs, S => if l.ok S then (match t.asg S x e with
    | some e1 => (mt e1 S).ne.bind fun b S1 => if b then (me e1 S1).ne.bind fun y S2 => (match y with
        | .d d => (lcL t l mt me e xs S2).bind fun ds S3 => .ok (d :: ds) S3
        | .r _ => .bad) else lcL t l mt me e xs S1
    | none => .bad) else .bad
def finL (ds : List D) (S : Sto) : R Bv.X := if ds.length ≤ sizeLine then .ok (.d (.lst ds)) S else .bad
def m_lc (t : Tg) (mi : MIt) (mt : MG Bool) (me : M) (vs : List Nat) : M := fun e S => (mi e S).bind fun p S1 => (lcL t p.2 mt me (wipeE e vs) p.1 S1).bind finL
/-- no test -/
def b_true : MG Bool := fun _ S => .ok true S
abbrev WX0 : WX := fun _ _ _ _ => False
theorem R.bind_assoc {α β γ : Type} (r : R α) (f : α → Sto → R β) (g : β → Sto → R γ) : (r.bind f).bind g = r.bind fun a S => (f a S).bind g := by cases r <;> rfl
theorem lcL_err {t : Tg} {l : Lk} {mt : MG Bool} {me : M} {e : Ev} : ∀ {xs : List Bv.X} {S : Sto} {C fs S'}, lcL t l mt me e xs S ≠ .err C fs S'
  | [], S, C, fs, S', h => by
    simp only [lcL] at h
    split at h <;> cases h
  | x :: xs, S, C, fs, S', h => by
    simp only [lcL] at h
    split at h
    · split at h
      · rename_i e1 _
        cases q : (mt e1 S).ne with
        | err _ _ _ => cases q2 : mt e1 S <;> rw [q2] at q <;> cases q
        | bad => rw [q] at h; cases h
        | ok b S1 =>
          rw [q] at h
          have h : (if b then (me e1 S1).ne.bind fun y S2 => (match y with
            | .d d => (lcL t l mt me e xs S2).bind fun ds S3 => .ok (d :: ds) S3
            | .r _ => .bad) else lcL t l mt me e xs S1) = .err C fs S' := h
          cases b with
          | false => exact lcL_err h
          | true =>
            cases q3 : (me e1 S1).ne with
            | err _ _ _ => cases q2 : me e1 S1 <;> rw [q2] at q3 <;> cases q3
            | bad => rw [q3] at h; cases h
            | ok y S2 =>
              rw [q3] at h
              cases y with
              | r _ => cases h
              | d d =>
                have h : ((lcL t l mt me e xs S2).bind fun ds S3 => R.ok (d :: ds) S3) = .err C fs S' := h
                cases q4 : lcL t l mt me e xs S2 with
                | ok _ _ => rw [q4] at h; cases h
                | bad => rw [q4] at h; cases h
                | err C' fs' S'' => exact lcL_err q4
      · cases h
    · cases h
/-- a step that does not raise, in a context from which nothing may be raised -/
theorem ne_post {α β : Type} {rel : Wd → List Addr → Hp → α → β → Prop} {K : PySem.W.Frag} {Z : Wd} {ρ : List Addr} {S : Sto} {e : Ev} {H : Hp} {σ : L2.St} {m : MG α} {R' : β → Hp → Prop} (st : Sta K Z ρ S H) (ev : EvOk K (Wn Z ρ) ρ H e σ) {a : α} {S1 : Sto} (h : (m e S).ne = .ok a S1)
    (next : ∀ ρ1 H1 v, Sta K Z ρ1 S1 H1 → Go ρ H ρ1 H1 → EvOk K (Wn Z ρ1) ρ1 H1 e σ → rel (Wn Z ρ1) ρ1 H1 a v → R' v H1) : RG rel K WX0 m σ H R' := by
  refine ⟨Z, ρ, e, S, st, ev, ?_⟩
  cases q : m e S with
  | ok b S2 =>
    rw [q] at h
    cases h
    exact fun ρ1 H1 v s1 g r => next ρ1 H1 v s1 g (ev.mv (g.mv st) g.pre) r
  | err _ _ _ => rw [q] at h; cases h
  | bad => rw [q] at h; cases h
end
end Bv
set_option Elab.async false
set_option linter.all false
set_option maxRecDepth 100000
set_option maxHeartbeats 4000000
/-! By value: list comprehensions. -/
namespace Bv
open PySem PySem.Spec L2
open PyProof.Rows hiding St
variable [HasW]
theorem wipe_none {σ : L2.St} {v : Nat} : ∀ {vs : List Nat}, v ∈ vs → (wipe σ vs).set v none = wipe σ vs
  | w :: ws, h => by
    unfold wipe
    by_cases e : v = w
    · rw [e, List.set_set]
    · have h2 : v ∈ ws := (List.mem_cons.mp h).resolve_left e
      rw [List.set_comm _ _ (fun z => e z.symm), wipe_none h2]
theorem wipe_sub {σ : L2.St} {us : List Nat} : ∀ {vs : List Nat}, (∀ i ∈ vs, i ∈ us) → wipe (wipe σ us) vs = wipe σ us
  | [], _ => rfl
  | v :: vs, h => by
    show (wipe (wipe σ us) vs).set v none = wipe σ us
    rw [wipe_sub fun i hi => h i (List.mem_cons_of_mem _ hi)]
    exact wipe_none (h v List.mem_cons_self)
theorem wipe_twice {σ : L2.St} (vs : List Nat) : wipe (wipe σ vs) vs = wipe σ vs := wipe_sub fun _ h => h
abbrev MTs (X : Cx) (Wx : WX) (ifs : List Expr) (m : MG Bool) : Prop := PTs X ifs (RB X.K Wx m)
section
variable {X : Cx} {Wx : WX} {pos : Pos} {tg iter elt c : Expr} {ifs : List Expr} {mi : MIt} {mt : MG Bool} {me : M} {t : Tg} {vs : List Nat}
theorem mts_nil : MTs X Wx [] b_true := ⟨fun pins s σ H Q I h => pts_nil.run pins s σ H Q I (by
  obtain ⟨Z, ρ, e, S, st, ev, p⟩ := h
  exact PostG.ret0 p st rfl)⟩
theorem mts_one (h : MT X Wx c mt) : MTs X Wx [c] mt := pts_one h
/-- the readings are about the store and the slots alone: a step that does not raise may stand in any wish -/
theorem lc_run (hs : ∀ i ∈ t.slots, i ∈ vs) {σ : L2.St} {H : Hp} {Q : VK} (h : RE X.K Wx (m_lc t mi mt me vs) σ H Q) : tLc (RG (Srv X.K) X.K Wx mi) (TGt X.K t) (RB X.K WX0 mt) (RE X.K WX0 me) vs σ H Q := by
  obtain ⟨Z, ρ, e, S, st, ev, p⟩ := h
  refine tt_bind (rel := Srv X.K) st ev p fun ρ1 H1 J p0 S1 st1 g1 ev1 srv p1 => ?_
  obtain ⟨ys, l⟩ := p0
  obtain ⟨G, Y, w, sv⟩ := srv
  intro D0 hD
  have p1 : Post X.K Z ρ1 H1 Wx σ Q ((lcL t l mt me (wipeE e vs) ys S1).bind finL) := p1
  have sv : ∀ (Z2 : Wd) (ρ2 : List Addr) (S2 : Sto) (H2 : Hp), Sta X.K Z2 ρ2 S2 H2 → Mv (Wn Z ρ1) H1 (Wn Z2 ρ2) H2 → ρ1 <+: ρ2 → (∀ a ob u, H1 a = some (.frz ob u) → H2 a = some (.frz ob u)) → l.ok S2 = true → G H2 ∧
    ∀ i x H3, Y i H2 x H3 → Same H2 H3 ∧ ∃ y, ys[i]? = some y ∧ AX X.K (Wn Z2 ρ2) ρ2 H3 y x := sv
  have w : Walk J ys.length G Y := w
  have evw := ev1.wipe vs
  -- what others may write: the new list too
  let Z' : Wd := fun a => Z a ∨ a = D0
  let Pv : Nat → Hp → Prop := fun i H => ∃ (ρ : List Addr) (S : Sto) (acc : List D) (xs : List V), Sta X.K Z' ρ S H ∧ ρ1 <+: ρ ∧ (∀ a o, a ∉ ρ1 → H1 a = some o → a ∉ ρ ∧ H a = some o) ∧ (∀ a ob u, H1 a = some (.frz ob u) → H a = some (.frz ob u)) ∧ H D0 = some (.lst xs) ∧ AVs X.K (Wn Z' ρ) H acc xs ∧
    EvOk X.K (Wn Z' ρ) ρ H (wipeE e vs) (wipe σ vs) ∧ Post X.K Z ρ1 H1 Wx σ Q ((lcL t l mt me (wipeE e vs) (ys.drop i) S).bind fun ds S' => finL (acc ++ ds) S')
  have mvOf : ∀ {ρ : List Addr} {S : Sto} {H : Hp}, Sta X.K Z' ρ S H → (∀ a o, a ∉ ρ1 → H1 a = some o → a ∉ ρ ∧ H a = some o) → Mv (Wn Z ρ1) H1 (Wn Z' ρ) H := fun {ρ S H} s k a o hn hq => by
    have h1 : a ∉ ρ1 := fun z => hn (.inr z)
    obtain ⟨h2, h3⟩ := k a o h1 hq
    refine ⟨fun z => ?_, h3⟩
    rcases z with (z | z) | z
    · exact hn (.inl z)
    · rw [z, hD] at hq; cases hq
    · exact h2 z
  have okOf : ∀ {xs : List Bv.X} {S : Sto} {acc : List D}, Post X.K Z ρ1 H1 Wx σ Q ((lcL t l mt me (wipeE e vs) xs S).bind fun ds S' => finL (acc ++ ds) S') → l.ok S = true := fun {xs S acc} q => by
    cases z : l.ok S with
    | true => rfl
    | false => cases xs <;> (simp only [lcL, z] at q; exact q.elim)
  refine lc_it w Pv ?_ ?_ ?_ ?_
  · -- the start
    have k := upd_keep (o := .lst []) hD
    have s0 := st1.grow k
    have hnw : ¬ Wn Z ρ1 D0 := st1.fresh hD
    have m0 : Mv (Wn Z ρ1) H1 (Wn Z' ρ1) (upd H1 D0 (.lst [])) := fun a o hn hq => ⟨fun z => by
      rcases z with (z | z) | z
      · exact hn (.inl z)
      · rw [z, hD] at hq; cases hq
      · exact hn (.inr z), k a o hq⟩
    refine ⟨ρ1, S1, [], [], ⟨st1.nd, fun a z => ?_, st1.len, fun n o a e1 e2 => AO.mv m0 (List.prefix_refl _) (fun u q => k _ _ q) (st1.ob n o a e1 e2)⟩, List.prefix_refl _, fun a o hn hq => ⟨hn, k a o hq⟩, fun a _ _ q => k a _ q, upd_same, .nil, evw.mv m0 (List.prefix_refl _), ?_⟩
    · rcases z with z | z
      · exact ⟨(st1.z a z).1, let ⟨o, q⟩ := (st1.z a z).2; ⟨o, k a o q⟩⟩
      · exact ⟨fun z2 => hnw (.inr (by rw [← z]; exact z2)), ⟨_, by rw [z]; exact upd_same⟩⟩
    · rw [List.drop_zero]
      exact p1
  · rintro i H2 _ ⟨ρ2, S2, acc, xs, st2, pr2, k2, f2, d2, a2, ev2, q2⟩
    exact (sv Z' ρ2 S2 H2 st2 (mvOf st2 k2) pr2 f2 (okOf q2)).1
  · rintro i x H2 H3 hi ⟨ρ2, S2, acc, xs, st2, pr2, k2, f2, d2, a2, ev2, q2⟩ hy
    have hk := okOf q2
    obtain ⟨k, y, e3, a⟩ := (sv Z' ρ2 S2 H2 st2 (mvOf st2 k2) pr2 f2 hk).2 i x H3 hy
    have st3 := st2.grow k
    have m23 : Mv (Wn Z' ρ2) H2 (Wn Z' ρ2) H3 := same_mv k
    have ev3 := ev2.mv m23 (List.prefix_refl _)
    rw [drop_get e3] at q2
    simp only [lcL, hk, if_true] at q2
    cases q4 : t.asg S2 y (wipeE e vs) with
    | none => rw [q4] at q2; exact q2.elim
    | some e4 =>
      rw [q4] at q2
      refine ⟨Z', ρ2, wipeE e vs, S2, y, e4, st3, ev3, a, q4, fun σ5 ev5 w5 => ⟨?_, ?_⟩⟩
      · rw [w5 vs hs, wipe_twice]
      have q2 : Post X.K Z ρ1 H1 Wx σ Q (((mt e4 S2).ne.bind fun b S1 => if b then (me e4 S1).ne.bind fun y S2 => (match y with
          | .d d => (lcL t l mt me (wipeE e vs) (ys.drop (i + 1)) S2).bind fun ds S3 => .ok (d :: ds) S3
          | .r _ => .bad) else lcL t l mt me (wipeE e vs) (ys.drop (i + 1)) S1).bind fun ds S' => finL (acc ++ ds) S') := q2
      cases q5 : (mt e4 S2).ne with
      | err _ _ _ => cases q6 : mt e4 S2 <;> rw [q6] at q5 <;> cases q5
      | bad => rw [q5] at q2; exact q2.elim
      | ok b S6 =>
        rw [q5] at q2
        refine ne_post (rel := relB) st3 ev5 q5 fun ρ6 H6 v st6 g6 ev6 r6 => ?_
        cases (show b = v from r6)
        have pr6 : ρ1 <+: ρ6 := pr2.trans g6.pre
        have nD : D0 ∉ ρ2 := (st2.z D0 (.inr rfl)).1
        obtain ⟨nD6, d6⟩ := g6.keep D0 _ nD (k _ _ d2)
        have k6 : ∀ a o, a ∉ ρ1 → H1 a = some o → a ∉ ρ6 ∧ H6 a = some o := fun a o h1 h2 => by
          obtain ⟨h3, h4⟩ := k2 a o h1 h2
          exact g6.keep a o h3 (k _ _ h4)
        have m36 := g6.mv st3
        have ev6' : EvOk X.K (Wn Z' ρ6) ρ6 H6 (wipeE e vs) (wipe σ vs) := ev3.mv m36 g6.pre
        have a6 := (a2.mv m23).mv m36
        cases b with
        | false =>
          rw [if_neg Bool.false_ne_true]
          exact ⟨ρ6, S6, acc, xs, st6, pr6, k6, fun a ob u q => g6.fz a ob u (k _ _ (f2 a ob u q)), d6, a6, ev6', q2⟩
        | true =>
          rw [if_pos rfl]
          have q2 : Post X.K Z ρ1 H1 Wx σ Q (((me e4 S6).ne.bind fun y S2 => (match y with
            | .d d => (lcL t l mt me (wipeE e vs) (ys.drop (i + 1)) S2).bind fun ds S3 => .ok (d :: ds) S3
            | .r _ => .bad)).bind fun ds S' => finL (acc ++ ds) S') := q2
          cases q7 : (me e4 S6).ne with
          | err _ _ _ => cases q6 : me e4 S6 <;> rw [q6] at q7 <;> cases q7
          | bad => rw [q7] at q2; exact q2.elim
          | ok z S7 =>
            rw [q7] at q2
            refine ne_post (rel := AX X.K) st6 ev6 q7 fun ρ7 H7 v st7 g7 ev7 r7 => ?_
            cases z with
            | r _ => exact q2.elim
            | d d =>
              have q2 : Post X.K Z ρ1 H1 Wx σ Q (((lcL t l mt me (wipeE e vs) (ys.drop (i + 1)) S7).bind fun ds S3 => .ok (d :: ds) S3).bind fun ds S' => finL (acc ++ ds) S') := q2
              rw [R.bind_assoc] at q2
              have nD6' : D0 ∉ ρ6 := nD6
              obtain ⟨nD7, d7⟩ := g7.keep D0 _ nD6' d6
              have m67 := g7.mv st6
              have a7 := a6.mv m67
              have k7 : ∀ a o, a ∉ ρ1 → H1 a = some o → a ∉ ρ7 ∧ H7 a = some o := fun a o h1 h2 => by
                obtain ⟨h3, h4⟩ := k6 a o h1 h2
                exact g7.keep a o h3 h4
              cases r7 with
              | d r7 =>
                -- the length
                have hlen : acc.length < sizeLine := by
                  cases q8 : lcL t l mt me (wipeE e vs) (ys.drop (i + 1)) S7 with
                  | bad => rw [q8] at q2; exact q2.elim
                  | err C fs S8 => exact absurd q8 lcL_err
                  | ok ds S8 =>
                    rw [q8] at q2
                    have q2 : Post X.K Z ρ1 H1 Wx σ Q (if (acc ++ d :: ds).length ≤ sizeLine then .ok (.d (.lst (acc ++ d :: ds))) S8 else .bad) := q2
                    by_cases hl : (acc ++ d :: ds).length ≤ sizeLine
                    · rw [List.length_append, List.length_cons] at hl; omega
                    · rw [if_neg hl] at q2; exact q2.elim
                have wD : Wn Z' ρ7 D0 := .inl (.inr rfl)
                have m8 : Mv (Wn Z' ρ7) H7 (Wn Z' ρ7) (upd H7 D0 (.lst (xs ++ [v]))) := fun a o hn hq => ⟨hn, by rw [upd_ne (fun z => hn (by rw [z]; exact wD))]; exact hq⟩
                have neD : ∀ b, b ∈ ρ7 → b ≠ D0 := fun b hb z => nD7 (by rw [← z]; exact hb)
                refine ⟨xs, d7, by rw [← a7.length]; exact hlen, ρ7, S7, acc ++ [d], xs ++ [v], ⟨st7.nd, fun a z => ⟨(st7.z a z).1, ?_⟩, st7.len, fun n o a e1 e2 => AO.mv m8 (List.prefix_refl _) (fun u q => by rw [upd_ne (neD a (List.mem_of_getElem? e2))]; exact q) (st7.ob n o a e1 e2)⟩, pr6.trans g7.pre, fun a o h1 h2 => ?_, fun a ob u q => by rw [upd_ne (fun z => by rw [z, hD] at q; cases q)]; exact g7.fz a ob u (g6.fz a ob u (k _ _ (f2 a ob u q))), upd_same, (a7.append (.cons r7 .nil)).mv m8, (ev6'.mv m67 g7.pre).mv m8 (List.prefix_refl _), ?_⟩
                · by_cases hz : a = D0
                  · exact ⟨_, by rw [hz]; exact upd_same⟩
                  · obtain ⟨o, q⟩ := (st7.z a z).2
                    exact ⟨o, by rw [upd_ne hz]; exact q⟩
                · obtain ⟨h3, h4⟩ := k7 a o h1 h2
                  exact ⟨h3, by rw [upd_ne (fun z => by rw [z, hD] at h2; cases h2)]; exact h4⟩
                · have e9 : (fun (ds : List D) (S' : Sto) => finL (acc ++ [d] ++ ds) S') = fun ds S' => finL (acc ++ (d :: ds)) S' := by
                    funext ds S'
                    rw [List.append_assoc]; rfl
                  show Post X.K Z ρ1 H1 Wx σ Q ((lcL t l mt me (wipeE e vs) (ys.drop (i + 1)) S7).bind fun ds S' => finL (acc ++ [d] ++ ds) S')
                  rw [e9]
                  exact q2
  · rintro H2 ⟨ρ2, S2, acc, xs, st2, pr2, k2, f2, d2, a2, ev2, q2⟩
    have hk := okOf q2
    rw [List.drop_length] at q2
    simp only [lcL, hk, if_true] at q2
    have q2 : Post X.K Z ρ1 H1 Wx σ Q (finL (acc ++ []) S2) := q2
    rw [List.append_nil] at q2
    have q2 : Post X.K Z ρ1 H1 Wx σ Q (if acc.length ≤ sizeLine then .ok (.d (.lst acc)) S2 else .bad) := q2
    by_cases hl : acc.length ≤ sizeLine
    · rw [if_pos hl] at q2
      have m : Mv (Wn Z' ρ2) H2 (Wn Z ρ2) H2 := fun a o hn hq => ⟨fun z => hn (z.elim (fun z => .inl (.inl z)) .inr), hq⟩
      refine q2 ρ2 H2 (.ref D0) ⟨st2.nd, fun a z => st2.z a (.inl z), st2.len, fun n o a e1 e2 => AO.mv m (List.prefix_refl _) (fun u q => q) (st2.ob n o a e1 e2)⟩ ⟨pr2, k2, f2⟩ (.d (.lst (fun z => ?_) d2 (a2.mv m)))
      rcases z with z | z
      · exact st1.fresh hD (.inl z)
      · exact (st2.z D0 (.inr rfl)).1 z
    · rw [if_neg hl] at q2; exact q2.elim
theorem me_lc {scope : Scope} {own : List (Str × Nat)} (hc : X.calm = true) (hN : X.N.Nodup) (hi : MI X Wx tg iter mi) (ok : BlkOk X.N X.env.scope scope own) (hsl : ∀ i ∈ t.slots, i ∈ own.map (·.2))
    (hg : ∀ (s : Shared) (H : Hp) (C : Addr) (cl : List (Str × Addr)) (fp : List Addr), PG (X.blk s H scope (compEnvC scope cl C X.env) fp) tg (TGt X.K t)) (ht : ∀ (s : Shared) (H : Hp) (C : Addr) (cl : List (Str × Addr)) (fp : List Addr), MTs (X.blk s H scope (compEnvC scope cl C X.env) fp) WX0 ifs mt)
    (he : ∀ (s : Shared) (H : Hp) (C : Addr) (cl : List (Str × Addr)) (fp : List Addr), ME (X.blk s H scope (compEnvC scope cl C X.env) fp) WX0 elt me) (hs : ∀ x, foldedSetIterable iter X.env x = pure x := by intro _; rfl) :
    ME X Wx (.ListComp elt [⟨tg, iter, ifs, 0⟩] scope pos) (m_lc t mi mt me (own.map (·.2))) := PE.of (pe_lc hc hN hi ok hg ht he hs) fun _ _ _ h => lc_run hsl h
theorem mp_setLc {i : Nat} {y : Str} {py spos : Pos} {scope : Scope} {own : List (Str × Nat)} (hc : X.calm = true) (hN : X.N.Nodup) (hy : X.N[i]? = some y) (hyl : X.env.scope.names.lookup y = some .local)
    (hsw : swapsWith (.ListComp elt [⟨tg, iter, ifs, 0⟩] scope pos) (some (.Name y py)) spos.line X.env = pure true) (hi : MI X Wx tg iter mi) (ok : BlkOk X.N X.env.scope scope own) (hsl : ∀ i ∈ t.slots, i ∈ own.map (·.2))
    (hg : ∀ (s : Shared) (H : Hp) (C : Addr) (cl : List (Str × Addr)) (fp : List Addr), PG (X.blk s H scope (compEnvC scope cl C X.env) fp) tg (TGt X.K t)) (ht : ∀ (s : Shared) (H : Hp) (C : Addr) (cl : List (Str × Addr)) (fp : List Addr), MTs (X.blk s H scope (compEnvC scope cl C X.env) fp) WX0 ifs mt)
    (he : ∀ (s : Shared) (H : Hp) (C : Addr) (cl : List (Str × Addr)) (fp : List Addr), ME (X.blk s H scope (compEnvC scope cl C X.env) fp) WX0 elt me) (hs : ∀ x, foldedSetIterable iter X.env x = pure x := by intro _; rfl) :
    MP X Wx (.Assign [.Name y py] (.ListComp elt [⟨tg, iter, ifs, 0⟩] scope pos) spos) (s_set i (m_lc t mi mt me (own.map (·.2)))) := PS.of (ps_setLc hc hN hy hyl hsw hi ok hg ht he hs) fun D σ H ⟨Z, ρ, e, S, st, ev, p⟩ => by
  refine lc_run (mt := mt) (me := me) (t := t) hsl ?_
  exact so_bind (rel := AX X.K) st ev p fun ρ1 H1 v x S1 st1 g1 ev1 a1 p1 => p1.next st1 (ev1.set a1)
end
end Bv
set_option Elab.async false
set_option linter.all false
set_option maxRecDepth 100000
set_option maxHeartbeats 4000000
/-! By value: what is walked. -/
namespace Bv
open PySem PySem.Spec L2
open PyProof.Rows hiding St
variable [HasW]

/-! ### any value that can be walked -/
def iAny (K : PySem.W.Frag) (t : TE) : TI := fun σ H R => t σ H fun x H1 =>
  (∃ a, x = .ref a ∧ (((∃ xs, SqL K H1 a xs) ∧ R (Itl K a) H1) ∨ ((∃ xs, SqT K H1 a xs) ∧ R (Itt K a) H1))) ∨ ∃ z, x = .str z ∧ R (Its z) H1
theorem pi_any {X : Cx} {tg e : Expr} {t : TE} (he : PE X e t) : PI X tg e (iAny X.K t) := ⟨fun pins s σ H R I h => thn (he.run pins s σ H _ I h) fun v s1 ⟨x, H1, I1, r1, q1⟩ => by
  rcases q1 with ⟨a, rfl, ⟨⟨xs, hq⟩, q⟩ | ⟨⟨xs, hq⟩, q⟩⟩ | ⟨z, rfl, q⟩
  · cases r1
    obtain ⟨its, _, p, _⟩ := I1.list hq
    exact wpAny_pyIter_list p.isList (pi_one (tk := s1.toks) I1 _ (turn_list a _) ⟨_, Heap.get?_push_size _ rfl, rfl, rfl⟩ q)
  · cases r1
    obtain ⟨its, _, p, _⟩ := I1.tuple hq
    exact wpAny_pyIter_tuple (show s1.heap.IsTuple a its.toArray from p) (pi_one (tk := s1.toks) I1 _ (turn_tuple a _) ⟨_, Heap.get?_push_size _ rfl, rfl, rfl⟩ q)
  · obtain ⟨t, rfl⟩ := r1
    cases hz : z.cps.all (· < 128) with
    | false => exact wpAny_pyIter_wide hz (pi_one (tk := s1.toks) I1 _ (turn_str _ z t "str_iterator" (.inr rfl)) ⟨_, Heap.get?_push_size _ rfl, rfl, rfl⟩ q)
    | true => exact wpAny_pyIter_ascii hz (pi_one (tk := s1.toks) I1 _ (turn_str _ z t "str_ascii_iterator" (.inl rfl)) ⟨_, Heap.get?_push_size _ rfl, rfl, rfl⟩ q)⟩
def walkX (S : Sto) : X → Option (List X × Lk)
  | .d (.lst ds) => some (ds.map .d, .free)
  | .d (.tup ds) => some (ds.map .d, .free)
  | .d (.scr ns) => some (ns.map fun i => .d (.int i), .free)
  | .d (.str z) => some (z.cps.toList.map fun c => .d (.str ⟨#[c]⟩), .free)
  | .d _ => none
  | .r n => match S[n]? with
    | some (.lst xs) => some (xs, .lst n xs)
    | _ => none
def i_val (m : M) : MIt := fun e S => (m e S).bind fun x S1 => optR (walkX S1 x) S1
/-- the walk over a list whose items may be told otherwise, but as many -/
theorem walk_listN {K : PySem.W.Frag} {a : Addr} (n : Nat) : Walk (Itl K a) n (fun H => ∃ xs, xs.length = n ∧ SqL K H a xs) (fun i H x H' => H' = H ∧ ∀ xs, SqL K H a xs → xs[i]? = some x) :=
  ⟨fun i _ hi ⟨xs, e, q⟩ => ⟨xs, xs[i]'(by omega), q, by simp [show i < xs.length by omega]⟩, fun _ ⟨xs, e, q⟩ => ⟨xs, q, by omega⟩, fun _ _ _ _ _ _ y => y⟩
theorem Same.rfl' {H : Hp} : Same H H := fun _ _ q => q
theorem pair_at {α β : Type} {F : α → β → Prop} : ∀ {l : List α} {r : List β} {j : Nat} {b : β}, Paired F l r → r[j]? = some b → ∃ a, l[j]? = some a ∧ F a b
  | _, _, _, _, .nil, z => by simp at z
  | _, _, 0, _, .cons h _, z => by simp at z; subst z; exact ⟨_, rfl, h⟩
  | _, _, j + 1, _, .cons _ t, z => by
    obtain ⟨a, h1, h2⟩ := pair_at (j := j) t (by simpa using z)
    exact ⟨a, by simpa using h1, h2⟩
theorem AVs.at_ {K : PySem.W.Frag} {W : Wd} {H : Hp} {ds : List D} {vs : List V} {i : Nat} {v : V} (h : AVs K W H ds vs) (e : vs[i]? = some v) : ∃ d, ds[i]? = some d ∧ AV K W H d v := by
  have hl := h.length
  obtain ⟨h1, h2⟩ := List.getElem?_eq_some_iff.mp e
  have hd : ds[i]? = some (ds[i]'(by omega)) := List.getElem?_eq_getElem _
  obtain ⟨u, h3, h4⟩ := h.get hd
  rw [e] at h3
  cases h3
  exact ⟨_, hd, h4⟩
theorem avs_ints {K : PySem.W.Frag} {W : Wd} {H : Hp} : ∀ ns : List Int, AVs K W H (ns.map D.int) (ns.map V.int)
  | [] => .nil
  | i :: r => .cons (.int i) (avs_ints r)
section
variable {X : Cx} {Wx : WX} {pos p : Pos} {tg e a b : Expr} {es : List Expr} {m : M} {ms : MG (List Bv.X)}
theorem srv_list {K : PySem.W.Frag} {W : Wd} {ρ : List Addr} {H : Hp} {a : Addr} {xs : List V} {ds : List D} (r : Lp K W H a xs) (hs : AVs K W H ds xs) : Srv K W ρ H (ds.map .d, .free) (Itl K a) :=
  ⟨fun H => SqL K H a xs, YAt xs, by rw [show (ds.map Bv.X.d, Lk.free).1.length = xs.length by simpa using hs.length]; exact walk_list, fun Z2 ρ2 S2 H2 st m p fz k => ⟨(m.lp r).sl, fun i x H3 y => by
    obtain ⟨rfl, y⟩ := y
    obtain ⟨d, h1, h2⟩ := (hs.mv m).at_ y
    exact ⟨Same.rfl', .d d, by simp [h1], .d h2⟩⟩⟩
theorem mi_val (h : ME X Wx e m) : MI X Wx tg e (i_val m) := PI.of (pi_any h) fun σ H R ⟨Z, ρ, e, S, st, ev, p⟩ => tt_bind st ev p fun ρ1 H1 v x S1 st1 g1 ev1 a1 p1 => by
  obtain ⟨w, hw, p2⟩ := p1.opt
  have fin : ∀ J, Srv X.K (Wn Z ρ1) ρ1 H1 w J → R J H1 := fun J h => PostG.ret0 p2 st1 h
  cases a1 with
  | d a =>
    cases a with
    | lst w r hs => cases hw; exact .inl ⟨_, rfl, .inl ⟨⟨_, .inl (.inl r)⟩, fin _ (srv_list (.inl ⟨w, .inl r⟩) hs)⟩⟩
    | scr r =>
      rename_i q ns
      cases hw
      refine .inl ⟨_, rfl, .inl ⟨⟨_, r.sl⟩, fin _ ?_⟩⟩
      have hs : AVs X.K (Wn Z ρ1) H1 (ns.map D.int) (ns.map V.int) := avs_ints ns
      have e1 : (ns.map D.int).map Bv.X.d = ns.map fun i => Bv.X.d (.int i) := by simp
      rw [← e1]
      exact srv_list r hs
    | tup t hs =>
      rename_i q us ds
      cases hw
      refine .inl ⟨_, rfl, .inr ⟨⟨_, t.sq⟩, fin _ ⟨_, _, by rw [show (ds.map Bv.X.d, Lk.free).1.length = us.length by simpa using hs.length]; exact walk_tup, fun Z2 ρ2 S2 H2 st m p fz k => ⟨(m.tp t).sq, fun i x H3 y => ?_⟩⟩⟩⟩
      obtain ⟨rfl, y⟩ := y
      obtain ⟨d, h1, h2⟩ := (hs.mv m).at_ y
      exact ⟨Same.rfl', .d d, by simp [h1], .d h2⟩
    | str hz =>
      rename_i z
      cases hw
      refine .inr ⟨_, rfl, fin _ ⟨_, _, by rw [show (z.cps.toList.map fun c => Bv.X.d (.str ⟨#[c]⟩), Lk.free).1.length = z.cps.size by simp]; exact walk_str, fun Z2 ρ2 S2 H2 st m p fz k => ⟨trivial, fun i x H3 y => ?_⟩⟩⟩
      obtain ⟨rfl, c, hc, rfl⟩ := y
      have hm : c ∈ z.cps.toList := by
        have := Array.mem_of_getElem? hc
        simpa using this
      have hc' := strOk_mem hz hm
      refine ⟨Same.rfl', .d (.str ⟨#[c]⟩), by simp [hc], .d (.str (strOk_of fun c' m => ?_))⟩
      have : c' = c := by simpa using m
      rw [this]; exact hc'
    | _ => cases hw
  | r h =>
    rename_i n a
    have hw : (match S1[n]? with
      | some (.lst xs) => some (xs, Lk.lst n xs)
      | _ => none) = some w := hw
    cases q : S1[n]? with
    | none => rw [q] at hw; cases hw
    | some o =>
      rw [q] at hw
      cases o with
      | lst xs =>
        cases hw
        obtain ⟨vs, h1, h2⟩ := st1.ob n _ _ q h
        refine .inl ⟨_, rfl, .inl ⟨⟨_, .inl (.inl h1)⟩, fin _ ⟨_, _, walk_listN xs.length, fun Z2 ρ2 S2 H2 st m p fz k => ?_⟩⟩⟩
        have k : (match S2[n]? with
          | some (.lst zs) => decide (zs = xs)
          | _ => false) = true := k
        cases q2 : S2[n]? with
        | none => rw [q2] at k; cases k
        | some o2 =>
          rw [q2] at k
          cases o2 with
          | lst zs =>
            have k : zs = xs := of_decide_eq_true k
            subst k
            have h' : ρ2[n]? = some a := by
              obtain ⟨t, rfl⟩ := p
              rw [List.getElem?_append_left (List.getElem?_eq_some_iff.mp h).1]; exact h
            obtain ⟨us, h3, h4⟩ := st.ob n _ _ q2 h'
            refine ⟨⟨us, (Paired.length h4).symm, .inl (.inl h3)⟩, fun i x H3 y => ?_⟩
            obtain ⟨rfl, y⟩ := y
            obtain ⟨b, h5, h6⟩ := pair_at h4 (y us (.inl (.inl h3)))
            exact ⟨Same.rfl', b, h5, h6⟩
          | _ => cases k
      | _ => cases hw

/-! ### range -/
def smallI (j : Int) : Bool := decide (-(2 ^ 62) ≤ j ∧ j < 2 ^ 62)
def upTo (lo : Int) (n : Nat) : List Bv.X := (List.range n).map fun (i : Nat) => Bv.X.d (.int (lo + i))
def ints? : List Bv.X → Option (List Int)
  | [] => some []
  | x :: r => match intX x, ints? r with
    | some i, some l => some (i :: l)
    | _, _ => none
theorem ints_inv {K : PySem.W.Frag} {W : Wd} {ρ : List Addr} {H : Hp} : ∀ {xs : List Bv.X} {vs : List V} {l : List Int}, AXs K W ρ H xs vs → ints? xs = some l → vs = l.map V.int
  | _, _, _, .nil, e => by cases e; rfl
  | x :: r, _, l, .cons h t, e => by
    unfold ints? at e
    cases q : intX x with
    | none => rw [q] at e; cases e
    | some i =>
      cases q2 : ints? r with
      | none => rw [q, q2] at e; cases e
      | some l2 =>
        rw [q, q2] at e
        cases e
        rw [h.int q, ints_inv t q2]; rfl
def rng1X (xs : List Bv.X) : Option (List Bv.X × Lk) := match ints? xs with
  | some [j] => if smallI j then some (upTo 0 j.toNat, .free) else none
  | _ => none
def rng2X (xs : List Bv.X) : Option (List Bv.X × Lk) := match ints? xs with
  | some [i, j] => if smallI i && smallI j then some (upTo i (j - i).toNat, .free) else none
  | _ => none
def i_rng1 (ms : MG (List Bv.X)) : MIt := fun e S => (ms e S).bind fun xs S1 => optR (rng1X xs) S1
def i_rng2 (ms : MG (List Bv.X)) : MIt := fun e S => (ms e S).bind fun xs S1 => optR (rng2X xs) S1
theorem srv_rng {K : PySem.W.Frag} {W : Wd} {ρ : List Addr} {H : Hp} {lo : Int} {n : Nat} : Srv K W ρ H (upTo lo n, .free) (Itr lo n) :=
  ⟨fun H => True, fun i H x H' => i < n ∧ H' = H ∧ x = .int (lo + i), by rw [show (upTo lo n, Lk.free).1.length = n by simp [upTo]]; exact ⟨fun _ _ hi _ => hi, fun _ _ => Nat.le_refl _, fun i _ _ _ hi _ y => ⟨hi, y.1, y.2⟩⟩, fun Z2 ρ2 S2 H2 st m p fz k => ⟨trivial, fun i x H3 y => by
    obtain ⟨hi, rfl, rfl⟩ := y
    exact ⟨Same.rfl', .d (.int (lo + i)), by simp [upTo, hi], .d (.int _)⟩⟩⟩
theorem smallI_inv {j : Int} (h : smallI j = true) : -(2 ^ 62) ≤ j ∧ j < 2 ^ 62 := of_decide_eq_true h
theorem mi_rng1 (hg : Gl X "range") (hm : X.mg "range" = none) (ha : MA X Wx [a] ms) (hs : starEach [a] X.env = [(false, eval a X.env)] := by rfl) : MI X Wx tg (.Call (.Name "range" p) [a] [] pos) (i_rng1 ms) := PI.of (pi_range1 hg hm ha hs) fun σ H R ⟨Z, ρ, e, S, st, ev, p⟩ => tt_bind st ev p fun ρ1 H1 v xs S1 st1 g1 ev1 a1 p1 => by
  obtain ⟨w, hw, p2⟩ := p1.opt
  unfold rng1X at hw
  cases q : ints? xs with
  | none => rw [q] at hw; cases hw
  | some l =>
    rw [q] at hw
    have e1 := ints_inv a1 q
    match l, hw, e1 with
    | [j], hw, e1 =>
      obtain ⟨h1, h2⟩ := ite_some hw
      cases h2
      exact ⟨j, e1, (smallI_inv h1).1, (smallI_inv h1).2, PostG.ret0 p2 st1 srv_rng⟩
    | [], hw, _ => cases hw
    | _ :: _ :: _, hw, _ => cases hw
theorem mi_rng2 (hg : Gl X "range") (hm : X.mg "range" = none) (ha : MA X Wx [a, b] ms) (hs : starEach [a, b] X.env = [(false, eval a X.env), (false, eval b X.env)] := by rfl) (hs2 : starEach [b] X.env = [(false, eval b X.env)] := by rfl) :
    MI X Wx tg (.Call (.Name "range" p) [a, b] [] pos) (i_rng2 ms) := PI.of (pi_range2 hg hm ha hs hs2) fun σ H R ⟨Z, ρ, e, S, st, ev, p⟩ => tt_bind st ev p fun ρ1 H1 v xs S1 st1 g1 ev1 a1 p1 => by
  obtain ⟨w, hw, p2⟩ := p1.opt
  unfold rng2X at hw
  cases q : ints? xs with
  | none => rw [q] at hw; cases hw
  | some l =>
    rw [q] at hw
    have e1 := ints_inv a1 q
    match l, hw, e1 with
    | [i, j], hw, e1 =>
      obtain ⟨h1, h2⟩ := ite_some hw
      cases h2
      have h1 := Bool.and_eq_true_iff.mp h1
      exact ⟨i, j, e1, ⟨(smallI_inv h1.1).1, (smallI_inv h1.1).2, (smallI_inv h1.2).1, (smallI_inv h1.2).2⟩, PostG.ret0 p2 st1 srv_rng⟩
    | [], hw, _ => cases hw
    | [_], hw, _ => cases hw
    | _ :: _ :: _ :: _, hw, _ => cases hw
end
end Bv
set_option Elab.async false
set_option linter.all false
set_option maxRecDepth 100000
set_option maxHeartbeats 4000000
/-! Exceptions in the air whose contexts are told: a chain of exceptions on the ground, none of them tracked. -/
namespace Xq
open PySem PySem.Spec PyProof.Rows L2
/-- a chain of contexts: each an object of B with fields, out of H's reach -/
inductive Ch (B : Heap) (H : Hp) : Value → Prop
  | nil : Ch B H .none
  | cons {b : Addr} {ob : Obj} {ws : Array Value} {v : Value} (at_ : B.get? b = some ob) (da : ob.data = .fields ws) (fr : H b = none) (nx : ws[2]? = some v) (rest : Ch B H v) : Ch B H (.ref b)
theorem Ch.mono {B B' : Heap} {H H' : Hp} {v : Value} (c : Ch B H v) (k : ∀ b o, H b = none → B.get? b = some o → B'.get? b = some o ∧ H' b = none) : Ch B' H' v := by
  induction c with
  | nil => exact .nil
  | cons at_ da fr nx _ ih => exact .cons (k _ _ fr at_).1 da (k _ _ fr at_).2 nx ih
/-- the object's context begins such a chain -/
def Ctx (B : Heap) (H : Hp) (o : Obj) : Prop := ∀ ws : Array Value, o.data = .fields ws → ∃ v, ws[2]? = some v ∧ Ch B H v
abbrev Zq (B : Heap) (H : Hp) (cls : Value) (d : Option Addr) (o : Obj) : Prop := Zc cls d o ∧ Ctx B H o
theorem ctx_steady {B : Heap} {H : Hp} : PXN.Steady1 (Ctx B H) := fun o v h => by
  obtain ⟨c, d, dt, sl⟩ := o
  cases dt with
  | fields u0 =>
    intro ws e
    cases e
    obtain ⟨v2, e2, q⟩ := h u0 rfl
    exact ⟨v2, HotX.set_other (by decide) e2, q⟩
  | _ => intro ws e; cases e
theorem zq_steady {B : Heap} {H : Hp} {cls : Value} {d : Option Addr} : PXN.Steady1 (Zq B H cls d) := PXN.steady_and (PXN.steady_and PXN.steady_cls PXN.steady_dict) ctx_steady
/-- an exception in the air; sI: the state without it; B: its ground -/
structure Up (X : Cx) (W : WX) (u : Value) (s' : Shared) (a : Addr) (B : Heap) (sI : Shared) (pins : List (Addr × Obj)) (σ : L2.St) (H : Hp) (cls : Value) (d : Option Addr) : Prop where
  isA : u = .ref a
  inv : Inv X pins σ H sI
  gr : ∀ b o, sI.heap.get? b = some o → b ∉ frs X.stack → B.get? b = some o
  up : sI.heap.UpToSlots s'.heap
  sky : Sky B X.stack a (Zq B H cls d) X.env.locals s'.heap
  na : H a = none
  os : s'.os = sI.os
  ag : AllBare s'.gens
  wish : W cls d σ H
def QX (X : Cx) (W : WX) (u : Value) (s' : Shared) : Prop := ∃ a B sI pins σ H cls d, Up X W u s' a B sI pins σ H cls d
def Tk (X : Cx) (W : WX) : Prop := ∀ u s', QX X W u s' → X.xe u s'
theorem Tk.imp {X : Cx} {W W' : WX} (t : Tk X W) (h : ∀ c d σ H, W' c d σ H → W c d σ H) : Tk X W' := fun u s' ⟨a, B, sI, pins, σ, H, cls, d, x⟩ => t u s' ⟨a, B, sI, pins, σ, H, cls, d, { x with wish := h _ _ _ _ x.wish }⟩
/-- behind a call that let an exception out -/
structure Out (P : Program) (w : World) (outer : List Env) (H : Hp) (s : Shared) (E : XK) (u : Value) (s' : Shared) (a : Addr) (B : Heap) (H' : Hp) (cls : Value) (d : Option Addr) : Prop where
  isA : u = .ref a
  fl : HandSPX.FlyingZ B outer a (Zq B H' cls d) s'.heap
  hok : HOk P w H' B
  ub : UB (frs outer) H H' s.heap B s'.heap
  na : H' a = none
  os : s'.os = s.os
  ag : AllBare s'.gens
  wish : E cls d H'
def CQ (P : Program) (w : World) : CXT := fun outer H s E u s' => ∃ a B H' cls d, Out P w outer H s E u s' a B H' cls d
section
variable {X : Cx} {pins : List (Addr × Obj)} {σ : L2.St} {H : Hp} {sI s s' : Shared} {B : Heap} {W : WX} {E : XK}
theorem of_call (I : Inv X pins σ H s) (hW : ∀ cls d H', E cls d H' → W cls d σ H') {u : Value} (c : CQ X.prog X.w X.stack H s E u s') : QX X W u s' := by
  obtain ⟨a, B, H', cls, d, x⟩ := c
  let keep : Addr → Bool := fun b => (B.get? b).isSome || decide (b ∈ frs X.stack)
  obtain ⟨G, inG, outG⟩ := restrict s'.heap keep
  have toG : ∀ b o, B.get? b = some o → G.get? b = some o := fun b o e => (inG b (by show ((B.get? b).isSome || _) = true; rw [e]; rfl)).trans (x.fl.1 b o e)
  have frG : ∀ b, b ∈ frs X.stack → G.get? b = s'.heap.get? b := fun b hb => inG b (by show (_ || decide _) = true; rw [decide_eq_true hb, Bool.or_true])
  have un : Un (frs X.stack) [] H H' s.heap G := by
    refine ⟨fun b o e n hb _ => toG b o (x.ub.keep b o e n hb), fun b o e n hb _ => ?_, fun b o e n _ => x.ub.free b o e n, fun b o e _ => ?_, x.ub.tups, x.ub.frzs, x.ub.tbls⟩
    · rw [frG b hb]; exact x.ub.slot b o e hb
    · by_cases hb : b ∈ frs X.stack
      · rw [frG b hb]; obtain ⟨sl, q⟩ := x.ub.slot b o e hb; exact ⟨_, q⟩
      · obtain ⟨o', q⟩ := x.ub.there b o e hb; exact ⟨o', toG b o' q⟩
  have fromG : ∀ b o, G.get? b = some o → s'.heap.get? b = some o ∧ keep b = true := fun b o e => by
    cases q : keep b with
    | true => exact ⟨(inG b q).symm.trans e, rfl⟩
    | false => rw [outG b q] at e; cases e
  refine ⟨a, B, { s with heap := G, gens := s'.gens, drawn := s'.drawn, toks := s'.toks }, pins, σ, H', cls, d, x.isA, I.call (ch := []) un (x.hok.kept toG) x.ag (fun _ z => nomatch z), fun b o e hb => ?_, Heap.UpToSlots.of_keeps fun b o e => (fromG b o e).1, .inr (.inl x.fl), x.na, x.os, x.ag, hW _ _ _ x.wish⟩
  obtain ⟨e1, k1⟩ := fromG b o e
  rcases Bool.or_eq_true_iff.mp k1 with k2 | k2
  · obtain ⟨o2, q⟩ := Option.isSome_iff_exists.mp k2
    have z := x.fl.1 b o2 q
    rw [e1] at z; cases z; exact q
  · exact absurd (of_decide_eq_true k2) hb
/-- the ground under a new exception -/
theorem born {a : Addr} {oe : Obj} {vs : Array Value} {cls : Value} {d : Option Addr} (I : Inv X pins σ H sI) (k : ∀ b o, sI.heap.get? b = some o → s'.heap.get? b = some o) (hne : sI.heap.get? a = none) (he : s'.heap.get? a = some oe)
    (hz : Zc cls d oe) (hx : Ctx (PySem.W.hideAll sI.heap (frs X.stack)) H oe) (hd : oe.data = .fields vs) (h1 : vs[1]? = some .none) (na : H a = none) (os : s'.os = sI.os) (ag : AllBare s'.gens) (w : W cls d σ H) : QX X W (.ref a) s' := by
  have none_ : (PySem.W.hideAll sI.heap (frs X.stack)).get? a = none := by
    rcases q : (PySem.W.hideAll sI.heap (frs X.stack)).get? a with _ | o
    · rfl
    · have z := PySem.W.of_hideAll _ q
      rw [hne] at z; cases z
  have ff : s'.heap.FunFrames (PySem.W.hideAll sI.heap (frs X.stack)) X.stack := Heap.FunFrames.of_keeps (fun b o e _ => ⟨o, k b o e, rfl⟩) (funFrames_none I.stack fun b hb => PySem.W.hideAll_none _ hb)
  exact ⟨a, _, sI, pins, σ, H, cls, d, rfl, I, fun b o e hb => PySem.W.hideAll_get _ e hb, Heap.UpToSlots.of_keeps k, .inl ⟨fun b o e => k b o (PySem.W.of_hideAll _ e), none_, ff, oe, vs, he, ⟨hz, hx⟩, hd, h1⟩, na, os, ag, w⟩
theorem ctx_none {cls : Value} {d : Option Addr} {oe : Obj} (hz : L2N.Zn cls d oe) : Ctx B H oe := fun ws e => ⟨.none, hz.2.2 ws e, .nil⟩
/-- it leaves the def -/
theorem QX.leave (hs : X.stack = X.env :: X.outer) (hf : X.env.frame = some X.env.locals) (hex : X.ex = []) {E₁ : Value → Shared → Prop} (hW : ∀ cls d σ H, W cls d σ H → E cls d H) {u : Value} (x : QX X W u s') :
    wpAny (model X.prog X.w) X.A (leaving X.env u) (fun _ s'' => CQ X.prog X.w X.outer X.H_0 X.s_0 E u s'') E₁ s' := by
  obtain ⟨a, B, sI, pins, σ, H, cls, d, rfl, I, gr, up, sky, na, os, ag, w⟩ := x
  have frames : X.A.frames = some (X.env :: X.outer) := I.ok.frames.trans (congrArg some hs)
  have hex' : ∀ b, b ∉ X.ex := fun b hb => by rw [hex] at hb; cases hb
  have away : ∀ b o, X.s_0.heap.get? b = some o → b ∉ X.fs → b ∉ frs X.stack := fun b o e hb hm => by
    cases List.mem_cons.mp (I.stkSub b hm) with
    | inl z =>
      have l1 := Heap.lt_size e
      have l2 := I.ok.above
      rw [z] at l1
      exact Nat.lt_irrefl _ (Nat.lt_of_lt_of_le l1 l2)
    | inr z => exact hb z
  have ends : ∀ h', HandSPX.FlyingZ B X.outer a (Zq B H cls d) h' → s'.heap.UpToSlots h' → CQ X.prog X.w X.outer X.H_0 X.s_0 E (.ref a) { s' with heap := h' } := fun h' fl up' => by
    have ub : UB (frs X.outer) X.H_0 H X.s_0.heap B h' := by
      refine ⟨fun b o e n hb => gr b o (I.base.keep b o e n hb (hex' b)) (away b o e hb), fun b o e hb => ?_, fun b o e n => I.base.free b o e n (hex' b), fun b o e hb => ?_, I.base.tups, I.base.frzs, I.base.tbls⟩
      · obtain ⟨_, o0, e0, notF⟩ := I.ok.funs.mem hb
        obtain rfl : o0 = o := by rw [e] at e0; cases e0; rfl
        obtain ⟨l1, q1⟩ := I.base.slot b o0 e (I.ok.frf b hb) hb (hex' b)
        obtain ⟨l2, q2⟩ := up b _ q1 notF
        exact up' b _ q2 notF |>.elim fun l3 q3 => ⟨l3, q3⟩
      · obtain ⟨o', q1⟩ := I.base.there b o e (hex' b)
        exact ⟨o', gr b o' q1 (away b o e hb)⟩
    exact ⟨a, B, H, cls, d, rfl, fl, I.inGround gr, ub, na, os.trans I.os, ag, hW _ _ _ _ w⟩
  rw [hs] at sky
  rcases sky with ⟨b1, b2, b3, oe, vs, b4, b5, b6, b7⟩ | fl | hd
  · exact PXN.leaving_firstZ zq_steady frames b3 hf b4 b1 b2 b6 b7 b5 ends
  · exact PXN.leaves_onZ zq_steady frames hf fl ends
  · exact HandSPX.leaves_heldZ hf hd ends
theorem tk_of (hs : X.stack = X.env :: X.outer) (hf : X.env.frame = some X.env.locals) (hex : X.ex = []) {E₁ : Value → Shared → Prop}
    (hx : X.xe = fun e s' => wpAny (model X.prog X.w) X.A (leaving X.env e) (fun _ s'' => CQ X.prog X.w X.outer X.H_0 X.s_0 E e s'') E₁ s') : Tk X (fun cls d _ H => E cls d H) := fun u s' x => by
  rw [hx]
  exact QX.leave (W := fun cls d _ H => E cls d H) hs hf hex (fun _ _ _ _ h => h) x
theorem passAt (tk : Tk X W) (σ : L2.St) : PassesAt (CQ X.prog X.w) X σ (WE W σ) := fun _ _ _ e s' I c => tk e s' (of_call I (fun _ _ _ h => h) c)
theorem tk0 {X : Cx} : Tk X (fun _ _ _ _ => False) := fun _ _ ⟨_, _, _, _, _, _, _, _, x⟩ => x.wish.elim
/-- raise e, where nothing is handled -/
theorem ps_raiseQ {e : Expr} {t : L2.St → Hp → XK → Prop} {pos : Pos} (hc : X.calm = true) (tk : Tk X W) (he : L2N.PMk X e t) : PS X (.Raise (some e) none pos) (fun _ σ H => t σ H fun cls d H' => W cls d σ H') := by
  refine ⟨fun pins s σ H D I h => ?_⟩
  show wpAny _ _ (do standAt pos; raiseStmt X.env (some (do let v ← eval e X.env; standAt pos; pure v)) none) _ _ _
  refine wpAny_bind (wpAny_standAt (raise_made (I.ok.hd hc) (wpAny_bind (thn (he pins s σ H _ I h) fun u s1 hu => wpAny_bind (wpAny_standAt (wpAny_pure ?_))))))
  obtain ⟨a, oe, vs, s2, H', cls, d, rfl, J, k, hne, ha, hz, hd, h1, na, os, ag, r, q⟩ := hu
  have L := r (model X.prog X.w) s1.heap (J.kIn.keeps k)
  exact ⟨a, oe, vs, cls, rfl, ha, hz.1, hd, h1, L.1, L.2, tk _ _ (born J k hne ha hz.zc (ctx_none hz) hd h1 na os ag q)⟩
end
end Xq
set_option Elab.async false
set_option linter.all false
set_option maxRecDepth 100000
set_option maxHeartbeats 4000000
/-! raise .. (from ..) within an except suite: the chain of the handled exception is walked. -/
namespace Xq
open PySem PySem.Spec PyProof.Rows L2
/-- a chain in a heap, a not in it -/
inductive Hc (h : Heap) (a : Addr) : Value → Prop
  | nil : Hc h a .none
  | cons {b : Addr} {ob : Obj} {ws : Array Value} {v : Value} (ne : b ≠ a) (at_ : h.get? b = some ob) (da : ob.data = .fields ws) (nx : ws[2]? = some v) (rest : Hc h a v) : Hc h a (.ref b)
/-- from c to b in m steps -/
inductive Pth (h : Heap) : Nat → Addr → Addr → Prop
  | here (b : Addr) : Pth h 0 b b
  | step {c b c2 : Addr} {oc : Obj} {ws : Array Value} {m : Nat} : h.get? c = some oc → oc.data = .fields ws → ws[2]? = some (.ref c2) → Pth h m c2 b → Pth h (m + 1) c b
theorem Pth.on {h : Heap} {m : Nat} {c b b2 : Addr} {ob : Obj} {ws : Array Value} (p : Pth h m c b) (e : h.get? b = some ob) (d : ob.data = .fields ws) (n : ws[2]? = some (.ref b2)) : Pth h (m + 1) c b2 := by
  induction p with
  | here b => exact .step e d n (.here _)
  | step e1 d1 n1 _ ih => exact .step e1 d1 n1 (ih e)
section
variable {prog : Program} {w : World} {A : Around} {E : Value → Shared → Prop} {s : Shared}
theorem unchain_code {R : Result → Shared → Prop} {a : Addr} {v : Value} (hc : Hc s.heap a v) :
    ∀ (A : Around) (b c : Addr) (t : Bool) (m : Nat), v = .ref b → Pth s.heap m c b → (t = true → 1 ≤ m) → R (.ok (.ret .none)) s → codeAny (model prog w) A (.builtin "proto.unchain" ⟨[.ref a, .ref b, .ref c, .bool t], []⟩) R s := by
  induction hc with
  | nil => intro A b c t m e; cases e
  | @cons b0 ob ws v2 ne0 e1 d1 n1 r1 ih =>
    intro A b c t m e p ht hR
    obtain rfl : b = b0 := by cases e; rfl
    refine codeAny_builtin HotX.entry_unchain ?_
    show wpAny _ _ (field (.ref b) 2 >>= _) _ _ s
    refine wpAny_bind (wpAny_field e1 d1 n1 ?_)
    cases r1 with
    | nil => exact wpAny_pure hR
    | @cons b2 ob2 ws2 v3 ne e2 d2 n2 r2 =>
      have z1 : ¬ ((Value.ref b2 == Value.none) = true) := by simp
      have z2 : ¬ ((Value.ref b2 == Value.ref a) = true) := by simpa using ne
      show wpAny _ _ (if (Value.ref b2 == Value.none) = true then _ else _) _ _ s
      rw [if_neg z1]
      show wpAny _ _ (if (Value.ref b2 == Value.ref a) = true then _ else _) _ _ s
      rw [if_neg z2]
      show wpAny _ _ (if (Value.ref b2 == Value.ref c) = true then _ else _) _ _ s
      by_cases hs : (Value.ref b2 == Value.ref c) = true
      · rw [if_pos hs]
        exact wpAny_bind (wpAny_rule (wpAny_pure hR))
      · rw [if_neg hs]
        have p2 : Pth s.heap (m + 1) c b2 := p.on e1 d1 n1
        cases t with
        | false =>
          refine wpAny_bind (wpAny_pure ?_)
          exact wpAny_pure ⟨Code.quiet_builtin _ (by decide +kernel), ih A b2 c true (m + 1) rfl p2 (fun _ => Nat.le_add_left _ _) hR⟩
        | true =>
          cases p with
          | here _ => exact absurd (ht rfl) (by decide)
          | @step _ _ c2 oc wc m2 f1 f2 f3 f4 =>
            refine wpAny_bind (wpAny_field f1 f2 f3 ?_)
            exact wpAny_pure ⟨Code.quiet_builtin _ (by decide +kernel), ih A b2 c2 false _ rfl (f4.on e1 d1 n1) (fun z => by cases z) hR⟩
theorem raiseNew_chain {α : Type} {a x1 : Addr} {oe : Obj} {ws : Array Value} {Q : α → Shared → Prop} (hh : A.handled = some (.ref x1)) (hc : Hc s.heap a (.ref x1)) (ha : s.heap.get? a = some oe) (da : oe.data = .fields ws) (hi : 2 < ws.size)
    (hE : E (.ref a) { s with heap := s.heap.update a (Obj.mapFields (·.setIfInBounds 2 (.ref x1))) }) : wpAny (model prog w) A (raiseNew (.ref a) : Sem α) Q E s := by
  have hb : (Value.ref x1 != Value.ref a) = true := by
    cases hc with
    | cons ne _ _ _ _ => exact HotX.ref_bne ne
  have un : ∀ {Q' : Value → Shared → Prop}, Q' .none s → wpAny (model prog w) A (holding [Value.ref a] (runValue (.builtin "proto.unchain" ⟨[.ref a, .ref x1, .ref x1, .bool false], []⟩))) Q' E s := fun q =>
    wpAny_holding (wpAny_runValue (unchain_code hc _ x1 x1 false 0 rfl (.here _) (fun z => by cases z) q))
  unfold raiseNew
  refine wpAny_bind (wpAny_handled ?_)
  rw [hh]
  first
  | (show wpAny _ _ (if (Value.ref x1 != Value.ref a) = true then _ else _) _ _ _
     rw [if_pos hb]
     exact wpAny_bind (un (wpAny_bind (HotX.chained ha da hi (wpAny_throw hE)))))
  | (show wpAny _ _ (if (Value.ref x1 != Value.ref a) = true then _ else _) _ _ _
     rw [if_pos hb]
     exact wpAny_bind (wpAny_bind (un (HotX.chained ha da hi (wpAny_throw hE)))))
  | (refine wpAny_bind ?_
     show wpAny _ _ (if (Value.ref x1 != Value.ref a) = true then _ else _) _ _ _
     rw [if_pos hb]
     exact wpAny_bind (un (HotX.chained ha da hi (wpAny_throw hE))))
end
/-- a chain among the pins -/
inductive Cp (pn : List (Addr × Obj)) : Value → Prop
  | nil : Cp pn .none
  | cons {b : Addr} {ob : Obj} {ws : Array Value} {v : Value} (mem : (b, ob) ∈ pn) (da : ob.data = .fields ws) (nx : ws[2]? = some v) (rest : Cp pn v) : Cp pn (.ref b)
theorem Cp.mono {pn pn' : List (Addr × Obj)} {v : Value} (c : Cp pn v) (k : ∀ p ∈ pn, p ∈ pn') : Cp pn' v := by
  induction c with
  | nil => exact .nil
  | cons mem da nx _ ih => exact .cons (k _ mem) da nx ih
section
variable {X : Cx} {pins : List (Addr × Obj)} {σ : L2.St} {H : Hp} {s : Shared}
theorem Cp.heap {h' : Heap} {a : Addr} {v : Value} (c : Cp X.pn v) (I : Inv X pins σ H s) (ha : s.heap.get? a = none) (k : ∀ b o, b ≠ a → s.heap.get? b = some o → h'.get? b = some o) : Hc h' a v := by
  induction c with
  | nil => exact .nil
  | @cons b ob ws v mem da nx _ ih =>
    have e := (I.pin (b, ob) (List.mem_append_left _ mem)).1
    have ne : b ≠ a := fun z => by
      have e' : s.heap.get? b = some ob := e
      rw [z, ha] at e'; cases e'
    exact .cons ne (k _ _ ne e) da nx ih
theorem Cp.ground {v : Value} (c : Cp X.pn v) (I : Inv X pins σ H s) : Ch (PySem.W.hideAll s.heap (frs X.stack)) H v := by
  induction c with
  | nil => exact .nil
  | @cons b ob ws v mem da nx _ ih =>
    obtain ⟨e, fr, nl, nf, _⟩ := I.pin (b, ob) (List.mem_append_left _ mem)
    exact .cons (PySem.W.hideAll_get _ e fun z => (List.mem_cons.mp (I.stkSub b z)).elim nl nf) da fr nx ih
end
end Xq
set_option Elab.async false
set_option linter.all false
set_option maxRecDepth 100000
set_option maxHeartbeats 4000000
/-! except C as n: .. raise D(..) from n -/
namespace Xq
open PySem PySem.Spec PyProof.Rows L2
/-- the exception that a suite holds -/
structure Hot (X : Cx) (a : Addr) (cls : Value) : Prop where
  hd : X.A.handled = some (.ref a)
  ch : Cp X.pn (.ref a)
  base : X.base.get? a = none
  obj : ∃ (oe : Obj) (vs : Array Value), (a, oe) ∈ X.pn ∧ oe.cls = cls ∧ oe.data = .fields vs
/-- an except suite that may raise -/
abbrev suiteQ (X : Cx) (a : Addr) (pn : List (Addr × Obj)) (xe : Value → Shared → Prop) : Cx := { X with A := X.A.mark (some (.ref a)), calm := false, pn := pn, xe := xe }
theorem pe_suiteQ {X : Cx} {a : Addr} {pn : List (Addr × Obj)} {xe : Value → Shared → Prop} {e : Expr} {t : TE} (h : PE (X.suite a pn) e t) : PE (suiteQ X a pn xe) e t := ⟨fun pins s σ H Q I q => by
  refine wpAny_mono (h.run pins s σ H Q (I.wish fun _ _ => False) q) (fun u s' z => ?_) fun _ _ z => z.elim
  obtain ⟨v, H', J, r, k⟩ := z
  exact ⟨v, H', Inv.unwish (X := suiteQ X a pn xe) (E := fun _ _ => False) J, r, k⟩⟩
theorem pa_suiteQ {X : Cx} {a : Addr} {pn : List (Addr × Obj)} {xe : Value → Shared → Prop} {e : List Expr} {t : TA} (h : PA (X.suite a pn) e t) : PA (suiteQ X a pn xe) e t := ⟨fun pos pins s σ H Q I q => by
  refine wpAny_mono (h.run pos pins s σ H Q (I.wish fun _ _ => False) q) (fun u s' z => ?_) fun _ _ z => z.elim
  obtain ⟨v, H', J, r, k⟩ := z
  exact ⟨v, H', Inv.unwish (X := suiteQ X a pn xe) (E := fun _ _ => False) J, r, k⟩⟩
theorem pss_suiteQ {X : Cx} {a : Addr} {pn : List (Addr × Obj)} {xe : Value → Shared → Prop} {e : List Stmt} {t : TS} (h : PSs (X.suite a pn) e t) : PSs (suiteQ X a pn xe) e t := ⟨fun pins s σ H D I q => by
  refine wpAny_mono (h.run pins s σ H D (I.wish fun _ _ => False) q) (fun u s' z => ?_) fun _ _ z => z.elim
  exact SP.unwish (X := suiteQ X a pn xe) (E := fun _ _ => False) z⟩
section
variable {X : Cx} {W : WX} {a : Addr} {cls0 : Value}
theorem ps_raiseQF {e : Expr} {t : L2.St → Hp → XK → Prop} {i : Nat} {n : Str} {np pos : Pos} (ht : Hot X a cls0) (rz : Raises X cls0) (tk : Tk X W) (he : L2H.PMk5 X e t) (hN : X.N[i]? = some n) (hl : X.env.kindOf n = some .local) (hdb : (n == ("__debug__" : Str)) = false) :
    PS X (.Raise (some e) (some (.Name n np)) pos) (fun _ σ H => σ[i]? = some (some (.ref a)) ∧ t σ H fun cls d H' => W cls d σ H') := by
  refine ⟨fun pins s σ H D I ⟨hi, h⟩ => ?_⟩
  refine wpAny_Raise_from (thn (he pins s σ H _ I h) fun u s1 hu => ?_)
  obtain ⟨⟨b, oe, vs, sI, H', cls, d, rfl, J, k, hne, hb, hz, hd, h1, nb, os, ag, r, q⟩, h5⟩ := hu
  have J1 : Inv X pins σ H' s1 := J.call' os (Un.kept k) (J.hok.kept k) ag (ch := []) (fun _ z => nomatch z)
  have size : 4 < vs.size := h5 b oe vs rfl hb hd
  obtain ⟨m, hn, lk⟩ := J1.loc
  obtain ⟨u, ru, l⟩ := lk i n (.ref a) hN hi (.inl hl)
  obtain rfl : u = Value.ref a := ru
  have hm : m n = some (.ref a) := by
    rcases l with ⟨_, z⟩ | ⟨z | z, _⟩
    · exact z
    · rw [hl] at z; cases z
    · rw [hl] at z; cases z
  refine wpAny_Name (wpAny_loadName_local J1.ok.kind hl hn hm ?_) hdb
  obtain ⟨oa, va, ma, ca, da⟩ := ht.obj
  have ga := (J.pin (a, oa) (List.mem_append_left _ ma)).1
  have nab : a ≠ b := fun z => by
    have ga' : sI.heap.get? a = some oa := ga
    rw [z, hne] at ga'; cases ga'
  obtain ⟨r1, r2⟩ := r (model X.prog X.w) sI.heap J.kIn
  have R : RaiseAt (model X.prog X.w) sI.heap s1.heap b oe vs cls := ⟨hb, hz.1, hd, k, hne, r1, r2⟩
  obtain ⟨c1, c2⟩ := rz (model X.prog X.w) X.base I.ok.mod.kin
  have Rc : RaiseAt (model X.prog X.w) X.base s1.heap a oa va cls0 := ⟨k _ _ ga, ca, da, J1.bk, ht.base, c1, c2⟩
  refine raise_from_tree R size (.inr ⟨a, oa, va, cls0, rfl, X.base, Rc⟩) ?_
  let h2 : Heap := (s1.heap.update b (Obj.mapFields (·.setIfInBounds 3 (.ref a)))).update b (Obj.mapFields (·.setIfInBounds 4 (.bool true)))
  have d3 := Obj.data_mapFields hd (·.setIfInBounds 3 (.ref a))
  have g3 := Heap.get?_update_self (Obj.mapFields (·.setIfInBounds 3 (.ref a))) hb (Obj.isFreed_of_fields d3)
  have d4 := Obj.data_mapFields d3 (·.setIfInBounds 4 (.bool true))
  have g4 : h2.get? b = _ := Heap.get?_update_self (Obj.mapFields (·.setIfInBounds 4 (.bool true))) g3 (Obj.isFreed_of_fields d4)
  have old : ∀ x o, x ≠ b → s1.heap.get? x = some o → h2.get? x = some o := fun x o hx e => by
    show ((s1.heap.update b _).update b _).get? x = _
    rw [Heap.get?_update_other _ _ (Ne.symm hx), Heap.get?_update_other _ _ (Ne.symm hx)]
    exact e
  have f1 : ((vs.setIfInBounds 3 (Value.ref a)).setIfInBounds 4 (Value.bool true))[1]? = some Value.none := HotX.set_other (by decide) (HotX.set_other (by decide) h1)
  refine setFlight_fresh (s := { s1 with heap := h2 }) g4 d4 f1 ?_
  have big : 2 < ((vs.setIfInBounds 3 (Value.ref a)).setIfInBounds 4 (Value.bool true)).size := by rw [HotX.set_size, HotX.set_size]; omega
  refine raiseNew_chain (s := { s1 with heap := h2 }) ht.hd (ht.ch.heap J hne fun x o hx e => old x o hx (k x o e)) g4 d4 big (tk _ _ ?_)
  have d5 := Obj.data_mapFields d4 (·.setIfInBounds 2 (.ref a))
  refine born J (fun x o e => ?_) hne (Heap.get?_update_self _ g4 (Obj.isFreed_of_fields d5)) ⟨?_, ?_⟩ (fun ws e => ?_) d5 (HotX.set_other (by decide) f1) nb os ag q
  · have hx : x ≠ b := fun z => by rw [z, hne] at e; cases e
    show (h2.update b _).get? x = some o
    rw [Heap.get?_update_other _ _ (Ne.symm hx)]
    exact old x o hx (k x o e)
  · rw [Obj.cls_mapFields, Obj.cls_mapFields, Obj.cls_mapFields]; exact hz.1
  · rw [HandSPX.dict_mapFields, HandSPX.dict_mapFields, HandSPX.dict_mapFields]; exact hz.2.1
  · rw [d5] at e
    cases e
    refine ⟨.ref a, ?_, ht.ch.ground J⟩
    first
      | exact Array.getElem?_setIfInBounds_self_of_lt big
      | simp [Array.getElem?_setIfInBounds, big]
end
end Xq
set_option Elab.async false
set_option linter.all false
set_option maxRecDepth 100000
set_option maxHeartbeats 4000000
/-! The name of an except clause goes while an exception of its suite is in the air. -/
namespace Xq
open PySem PySem.Spec PyProof.Rows L2
theorem funFrames_to {h h' B : Heap} (k : ∀ b o, h.get? b = some o → (∀ vs, o.data ≠ .fields vs) → ∃ o', h'.get? b = some o' ∧ ∀ vs, o'.data ≠ .fields vs) : ∀ {l : List Env}, h.FunFrames B l → h'.FunFrames B l
  | [], _ => trivial
  | _ :: _, ⟨x1, ⟨L, o, x2, x3, x4, x5⟩, x6⟩ => by
    obtain ⟨o', y1, y2⟩ := k L o x4 x5
    exact ⟨x1, ⟨L, o', x2, x3, y1, y2⟩, funFrames_to k x6⟩
section
variable {X : Cx} {pins : List (Addr × Obj)} {σ : L2.St} {H : Hp} {sI s : Shared} {B : Heap} {a : Addr} {Z : Obj → Prop} {i : Nat} {n : Str} {pos : Pos}
/-- what stands behind it -/
def Gone (X : Cx) (pins : List (Addr × Obj)) (σ : L2.St) (H : Hp) (B : Heap) (a : Addr) (Z : Obj → Prop) (s' : Shared) : Prop :=
  ∃ sI', Inv X pins σ H sI' ∧ (∀ b o, sI'.heap.get? b = some o → b ∉ frs X.stack → B.get? b = some o) ∧ sI'.heap.UpToSlots s'.heap ∧ HandSPX.HeldZ B X.stack a Z X.env.locals s'.heap ∧ s'.os = sI'.os ∧ AllBare s'.gens
theorem gone_held {M : Model} {A : Around} {E : Value → Shared → Prop} {Q : Unit → Shared → Prop} (hs : X.stack = X.env :: X.outer) (hf : X.env.frame = some X.env.locals) (hN : X.N.Nodup) (hi : X.N[i]? = some n) (hl : X.env.kindOf n = some .local)
    (I : Inv X pins σ H sI) (gr : ∀ b o, sI.heap.get? b = some o → b ∉ frs X.stack → B.get? b = some o) (up : sI.heap.UpToSlots s.heap) (hd : HandSPX.HeldZ B X.stack a Z X.env.locals s.heap) (os : s.os = sI.os) (ag : AllBare s.gens)
    (h : ∀ s', Gone X pins (σ.set i none) H B a Z s' → Q () s') : wpAny M A (do bindName X.env n .none; unbindBehindTheSuite X.env n pos) Q E s := by
  have J : Inv X pins σ H s := I.landed gr hd.1 up os ag
  obtain ⟨m, hn, lk⟩ := id J.loc
  have cls : (X.env.scope.kind == .class || (X.env.scope.kind == .module && X.env.locals != X.env.globals)) = false := by rw [I.ok.kind]; rfl
  refine wpAny_nameGoes_keeps hl hn cls fun h' v hn' same => h _ ?_
  have inL : X.env.locals ∈ frs X.stack := by rw [hs]; exact List.mem_filterMap.mpr ⟨X.env, List.mem_cons_self, hf⟩
  obtain ⟨b1, b2, b3, b4⟩ := hd
  have sb : ∀ b, b ≠ X.env.locals → h'.get? b = s.heap.get? b := same.2
  obtain ⟨G, inG, outG⟩ := restrict h' fun b => (sI.heap.get? b).isSome
  have atG : ∀ b o, sI.heap.get? b = some o → G.get? b = h'.get? b := fun b o e => inG b (by rw [e]; rfl)
  have fromG : ∀ b o, G.get? b = some o → h'.get? b = some o ∧ ∃ o2, sI.heap.get? b = some o2 := fun b o e => by
    cases q : sI.heap.get? b with
    | none => rw [outG b (by rw [q]; rfl)] at e; cases e
    | some o2 => exact ⟨(atG b o2 q).symm.trans e, o2, rfl⟩
  have firm : ∀ b o, sI.heap.get? b = some o → b ∉ frs X.stack → G.get? b = some o := fun b o e hb => by
    rw [atG b o e, sb b fun z => hb (z ▸ inL)]
    exact b1 b o (gr b o e hb)
  have loose : ∀ b o, sI.heap.get? b = some o → (∀ vs, o.data ≠ .fields vs) → b ≠ X.env.locals → ∃ sl, G.get? b = some { o with slots := sl } := fun b o e nf hb => by
    rw [atG b o e, sb b hb]
    exact up b o e nf
  have frNF : ∀ b ∈ frs X.stack, ∀ o, sI.heap.get? b = some o → ∀ vs, o.data ≠ .fields vs := fun b hb o e => by
    obtain ⟨_, o2, e2, q⟩ := I.stack.mem hb
    rw [e] at e2; cases e2; exact q
  have there : ∀ b o, sI.heap.get? b = some o → b ≠ X.env.locals → ∃ o', G.get? b = some o' := fun b o e hb => by
    by_cases hm : b ∈ frs X.stack
    · obtain ⟨sl, q⟩ := loose b o e (frNF b hm o e) hb; exact ⟨_, q⟩
    · exact ⟨o, firm b o e hm⟩
  have below : ∀ b o, X.s_0.heap.get? b = some o → b ≠ X.env.locals := fun b o e => Nat.ne_of_lt (Nat.lt_of_lt_of_le (Heap.lt_size e) I.ok.above)
  have out : ∀ b, b ≠ X.env.locals → b ∉ X.fs → b ∉ frs X.stack := fun b x y z => (List.mem_cons.mp (I.stkSub b z)).elim x y
  have gL : G.get? X.env.locals = h'.get? X.env.locals := by
    obtain ⟨_, ⟨oL, _, _, eL, _⟩, _⟩ := id I.loc
    exact atG _ oL eL
  have cellG : ∀ y c u, X.env.cells.lookup y = some c → s.heap.IsCell c u → G.IsCell c u := fun y c u e z => by
    obtain ⟨_, oc, ec, _⟩ := I.cell y c e
    obtain ⟨o2, e2, d2⟩ := z.sameBut same (I.cne y c e)
    exact ⟨o2, (atG c oc ec).trans e2, d2⟩
  have J' : Inv X pins (σ.set i none) H { sI with heap := G } := by
    refine ⟨I.ok, I.os, I.bare, ⟨fun b o e n hb hx => firm b o (I.base.keep b o e n hb hx) (out b (below b o e) hb), fun b o e n hb hx => ?_, I.base.free, fun b o e hx => ?_, I.base.tups, I.base.frzs, I.base.tbls⟩, ⟨_, hn'.at fun o e => gL.trans e, fun j y u e1 e2 e3 => ?_⟩, fun y c e => ?_, I.free, I.freeC, fun p hp => ?_, fun b ob e => ?_, by rw [List.length_set]; exact I.len⟩
    · obtain ⟨_, o2, e2, nf⟩ := I.ok.funs.mem hb
      rw [e] at e2; cases e2
      obtain ⟨l1, q1⟩ := I.base.slot b o e n hb hx
      obtain ⟨l2, q2⟩ := loose b _ q1 nf (below b o e)
      exact ⟨l2, q2⟩
    · obtain ⟨o2, q⟩ := I.base.there b o e hx
      exact there b o2 q (below b o e)
    · by_cases hj : j = i
      · rw [hj] at e2
        by_cases hlt : i < σ.length
        · rw [List.getElem?_set_self hlt] at e2; cases e2
        · rw [List.getElem?_eq_none (by rw [List.length_set]; omega)] at e2; cases e2
      · rw [List.getElem?_set_ne (Ne.symm hj)] at e2
        obtain ⟨u', r, q⟩ := lk j y u e1 e2 e3
        have yn : y ≠ n := fun w => hj (nodup_ix hN e1 (w ▸ hi))
        refine ⟨u', r, q.imp (fun z => ⟨z.1, (if_neg yn).trans z.2⟩) fun z => ⟨z.1, ?_⟩⟩
        obtain ⟨c, ec, hcell⟩ := z.2
        exact ⟨c, ec, cellG y c _ ec hcell⟩
    · obtain ⟨u, z⟩ := J.cell y c e
      exact ⟨u, cellG y c u e z⟩
    · obtain ⟨x1, x2, x3, x4, x5⟩ := I.pin p hp
      exact ⟨firm _ _ x1 (out _ x3 x4), x2, x3, x4, x5⟩
    · refine (I.hok b ob e).stay (fun c u hc r => firm c u r fun hm => ?_) (fun _ q => q) fun _ _ q => q
      have z := I.stkFree c hm
      rcases hc with hc | hc
      · rw [hc, e] at z; cases z
      · rw [hc] at z; cases z
  refine ⟨{ sI with heap := G }, J', fun b o e hb => ?_, Heap.UpToSlots.of_keeps fun b o e => (fromG b o e).1, ⟨fun b o e => ?_, b2, funFrames_to (fun b o e nf => ?_) b3, ?_⟩, os, ag⟩
  · obtain ⟨e1, o2, e2⟩ := fromG b o e
    have q := gr b o2 e2 hb
    rw [sb b fun z => hb (z ▸ inL), b1 b o2 q] at e1
    cases e1; exact q
  · have ne : b ≠ X.env.locals := fun z => by
      obtain ⟨q, _⟩ := b3.mem inL
      rw [← z, e] at q; cases q
    exact (sb b ne).trans (b1 b o e)
  · by_cases hb : b = X.env.locals
    · obtain ⟨o2, es, ep, e2, d2, _⟩ := hn'
      rw [hb]
      exact ⟨o2, e2, fun vs z => by rw [d2] at z; cases z⟩
    · exact ⟨o, (sb b hb).trans e, nf⟩
  · obtain ⟨oe, vs, T, oT, ts, x1, x2, x3, x4, x5, x6, x7, x8, x9⟩ := b4
    obtain ⟨oL, es, ep, eL, dL, _⟩ := hn
    have notL : ∀ {x o ws}, s.heap.get? x = some o → o.data = .fields ws → x ≠ X.env.locals := fun {x o ws} e d z => by
      rw [z, eL] at e; cases e; rw [dL] at d; cases d
    exact ⟨oe, vs, T, oT, ts, (sb a (notL x1 x3)).trans x1, x2, x3, x4, x5, x6, (sb T (notL x7 x8)).trans x7, x8, x9⟩
end
end Xq
set_option Elab.async false
set_option linter.all false
set_option maxRecDepth 100000
set_option maxHeartbeats 4000000
/-! try: body, except C as n: a suite that may raise. -/
namespace Xq
open PySem PySem.Spec PyProof.Rows L2
/-- the objects of a chain, to be pinned -/
theorem Ch.pins {B h : Heap} {H : Hp} {v : Value} (st : B.StaysIn h) (c : Ch B H v) : ∃ l : List (Addr × Obj), Cp l v ∧ ∀ p ∈ l, h.get? p.1 = some p.2 ∧ H p.1 = none ∧ (∃ o, B.get? p.1 = some o) ∧ ∀ u, p.2.data ≠ .cell u := by
  induction c with
  | nil => exact ⟨[], .nil, fun p hp => by cases hp⟩
  | @cons b ob ws v at_ da fr nx _ ih =>
    obtain ⟨l, h1, h2⟩ := ih
    refine ⟨(b, ob) :: l, .cons List.mem_cons_self da nx (h1.mono fun p hp => List.mem_cons_of_mem _ hp), fun p hp => ?_⟩
    rcases List.mem_cons.mp hp with e | hp
    · subst e
      exact ⟨st b ob at_, fr, ⟨ob, at_⟩, fun u z => by have z' : ob.data = .cell u := z; rw [da] at z'; cases z'⟩
    · exact h2 p hp
section
variable {X : Cx} {x n : Str} {c : Value} {i : Nat} {body suite : List Stmt} {b₀ : Stmt} {np pos pos' : Pos} {tb : WX → TS} {ts : Addr → Value → Option Addr → TS} {Wout : WX}
/-- noted at our frame -/
theorem noted {M : Model} {A : Around} {E₁ : Value → Shared → Prop} {s : Shared} {B : Heap} {env : Env} {outer : List Env} {L a : Addr} {Z : Obj → Prop} {Q : Unit → Shared → Prop} (hZ : PXN.Steady1 Z) (hfr : A.frames = some (env :: outer)) (hf : env.frame = some L)
    (k : Sky B (env :: outer) a Z L s.heap) (hQ : ∀ h', HandSPX.HeldZ B (env :: outer) a Z L h' → s.heap.UpToSlots h' → Q () { s with heap := h' }) : wpAny M A (noteFrame (.ref a) env) Q E₁ s := by
  rcases k with ⟨y1, y2, y3, oe, vs, y4, y5, y6, y7⟩ | fl | hh
  · exact PXN.look_newZ hZ hfr y3 hf y4 y1 y2 y6 y7 y5 hQ
  · exact PXN.looks_onZ hZ hfr hf fl hQ
  · exact HandSPX.againZ hf hh.2.2.2 (hQ s.heap hh (Heap.UpToSlots.refl _))
/-- it goes on from our frame, noted there -/
theorem on_from {M : Model} {A : Around} {s : Shared} {B : Heap} {env : Env} {l : List Env} {L a : Addr} {Z : Obj → Prop} {fl : Value} {what : String} {Q : Flow → Shared → Prop} {E : Value → Shared → Prop} (hf : env.frame = some L)
    (b1 : B.StaysIn s.heap) (b2 : B.get? a = none) (b3 : s.heap.FunFrames B l) (b4 : HandSPX.TracedZ s.heap B a Z fl) (hE : ∀ h', HandSPX.HeldZ B l a Z L h' → s.heap.UpToSlots h' → E (.ref a) { s with heap := h' }) : wpAny M A (passOn what (.ref a) env : Sem Flow) Q E s := by
  obtain ⟨oe, vs, T, oT, ws, he, hz, hd, h1, hr⟩ := id b4
  unfold PySem.passOn
  refine wpAny_bind (wpAny_field he hd h1 ?_)
  rw [if_neg (show ¬ ((Value.ref T == Value.none) = true) from by simp)]
  have fin : wpAny M A (setFlight (.ref a) env.frame) (fun _ s4 => wpAny M A (throw (.ref a) : Sem Flow) Q E s4) E s := by
    rw [hf]
    exact HandSPX.setFlight_anyZ b1 b3 b4 fun h' k1 k2 k3 k4 => wpAny_throw (hE h' ⟨k1, b2, k2, k3⟩ k4)
  first
    | exact wpAny_bind (wpAny_pure (wpAny_bind fin))
    | exact wpAny_bind fin
theorem ps_try_asQ (hs : X.stack = X.env :: X.outer) (hf : X.env.frame = some X.env.locals) (hN : X.N.Nodup) (hi : X.N[i]? = some n) (hln : X.env.kindOf n = some .local) (hc : Names X x c)
    (hpa : ∀ hd : Option Value, PassesOwnAt (model X.prog X.w) (X.A.mark hd) X.A X.env X.xe) (tk : Tk X Wout)
    (hb : ∀ (W : WX) (pn : List (Addr × Obj)) (xe : Value → Shared → Prop), Tk (X.tr pn xe) W → PassesOwn (model X.prog X.w) X.A X.env xe → PSs (X.tr pn xe) body (tb W))
    (hsu : ∀ (a : Addr) (oe : Obj) (cls : Value) (d : Option Addr) (pn : List (Addr × Obj)) (xe : Value → Shared → Prop), Zc cls d oe → (∃ vs, oe.data = .fields vs) → Hot (suiteQ X a ((a, oe) :: pn) xe) a cls →
      Tk (suiteQ X a ((a, oe) :: pn) xe) (fun cls d σ H => Wout cls d (σ.set i none) H) → PSs (suiteQ X a ((a, oe) :: pn) xe) (b₀ :: suite) (ts a cls d)) :
    PS X (.Try body [.ExceptHandler (some (.Name x np)) (some n) (b₀ :: suite) pos'] [] [] pos) (fun D σ H => tb (wAs X.K c i ts Wout D) D σ H) := by
  refine ⟨fun pins s σ H D I h => ?_⟩
  have ok := I.ok
  have frames : X.A.frames = some (X.env :: X.outer) := ok.frames.trans (congrArg some hs)
  have loc : Loc X.env.scope n := .inl hln
  refine wpAny_Try_except ?_
  let xeB : Value → Shared → Prop := fun e s₁ => wpAny (model X.prog X.w) X.A (noteFrame e X.env) (fun _ s₂ => wpAny (model X.prog X.w) X.A (setFlight e none) (fun _ s₃ =>
    wpAny (model X.prog X.w) X.A (handleBy e X.env [.ExceptHandler (some (.Name x np)) (some n) (b₀ :: suite) pos']) (SP X pins D) X.xe s₃) X.xe s₂) X.xe s₁
  refine wpAny_mono ((hb (wAs X.K c i ts Wout D) (X.pn ++ pins) xeB (fun u s' up0 => ?_) PassesOwn.looking).run [] s σ H D (I.toTry _) h) (fun f s1 hsp => ?_) (fun e s1 he => he)
  · obtain ⟨a, B, sI, pins', σ1, H1, cls, d, rfl, J0, gr, up, sky0, na, os, ag, b, hb1, hyes, hno⟩ := up0
    have J : Inv X pins σ1 H1 sI := J0.ofTry ok
    have sky : Sky B (X.env :: X.outer) a (Zq B H1 cls d) X.env.locals s'.heap := by rw [← hs]; exact sky0
    show wpAny (model X.prog X.w) X.A (noteFrame (.ref a) X.env) _ _ _
    refine L2N.Sky.land zq_steady frames hf sky fun h3 fl3 up3 => ?_
    have facts : ∀ h4, HandSPX.FlyingZ B (X.env :: X.outer) a (Zq B H1 cls d) h4 → s'.heap.UpToSlots h4 → ∀ (xe : Value → Shared → Prop), ∃ oe pn, (∀ p ∈ X.pn ++ pins, p ∈ pn) ∧ Zq B H1 cls d oe ∧ (∃ vs, oe.data = .fields vs) ∧ h4.get? a = some oe ∧ Inv (suiteQ X a ((a, oe) :: pn) xe) [] σ1 H1 { s' with heap := h4 } ∧ Hot (suiteQ X a ((a, oe) :: pn) xe) a cls := by
      intro h4 fl4 up4 xe
      have J4 : Inv X pins σ1 H1 { s' with heap := h4 } := J.landed gr fl4.1 (up.trans up4) os ag
      obtain ⟨oe, vs, he, hz, hd⟩ := fl4.there
      obtain ⟨v, hv, cv⟩ := hz.2 vs hd
      obtain ⟨l, cl, hl⟩ := cv.pins fl4.1
      have notFr : ∀ b, b ∈ frs (X.env :: X.outer) → B.get? b = none := fun b hb => (fl4.2.2.1.mem hb).1
      have aFr : a ∉ frs (X.env :: X.outer) := fun hm => by
        obtain ⟨_, o2, e2, q⟩ := fl4.2.2.1.mem hm
        rw [he] at e2; cases e2
        exact q _ hd
      have isL : X.env.locals ∈ frs (X.env :: X.outer) := List.mem_filterMap.mpr ⟨X.env, List.mem_cons_self, hf⟩
      have inF : ∀ b, b ∈ X.fs → b ∈ frs (X.env :: X.outer) := fun b hb => by
        obtain ⟨e, m, q⟩ := List.mem_filterMap.mp hb
        exact List.mem_filterMap.mpr ⟨e, List.mem_cons_of_mem _ m, q⟩
      refine ⟨oe, l ++ (X.pn ++ pins), fun p hp => List.mem_append_right _ hp, hz, ⟨vs, hd⟩, he, ⟨⟨J4.ok.mod, J4.ok.kind, J4.ok.glob, J4.ok.blt, J4.ok.above, J4.ok.inj, J4.ok.has, J4.ok.cab, (fun z => absurd (show false = true from z) Bool.false_ne_true), J4.ok.frames, J4.ok.stk, J4.ok.exf, J4.ok.bs, J4.ok.bsz, J4.ok.noex, J4.ok.exfs, J4.ok.funs, J4.ok.frf⟩, J4.os, J4.bare, J4.base, J4.loc, J4.cell, J4.free, J4.freeC, fun p hp => ?_, J4.hok, J4.len⟩, ⟨rfl, ?_, ?_, oe, vs, List.mem_cons_self, hz.1.1, hd⟩⟩
      · have hp' : p ∈ (a, oe) :: (l ++ (X.pn ++ pins)) := by rw [List.append_nil] at hp; exact hp
        rcases List.mem_cons.mp hp' with e | hp'
        · subst e
          exact ⟨he, na, fun z => aFr (by rw [show a = X.env.locals from z]; exact isL), fun z => aFr (inF _ z), fun u z => by have z' : oe.data = .cell u := z; rw [hd] at z'; cases z'⟩
        · rcases List.mem_append.mp hp' with hp' | hp'
          · obtain ⟨y1, y2, ⟨o, y3⟩, y4⟩ := hl p hp'
            refine ⟨y1, y2, (?_ : p.1 ≠ X.env.locals), (?_ : p.1 ∉ X.fs), y4⟩
            · intro z
              rw [z, notFr _ isL] at y3
              cases y3
            · intro z
              rw [notFr _ (inF _ z)] at y3
              cases y3
          · exact J4.pin p hp'
      · exact .cons List.mem_cons_self hd hv (cl.mono fun p hp => List.mem_cons_of_mem _ (List.mem_append_left _ hp))
      · rcases q : X.base.get? a with _ | o
        · rfl
        · have q1 := J.bk a o q
          have q2 : a ∉ frs X.stack := by rw [hs]; exact aFr
          have q3 := gr a o q1 q2
          rw [fl4.2.1] at q3; cases q3
    obtain ⟨oe3, pn3, _, hz3, _, he3, S3, _⟩ := facts h3 fl3 up3 fun _ _ => False
    refine wpAny_handleBy_cons (codeAny_handlers_test ?_) (by intro q; cases q)
    have LT : PySem.W.Looks (model X.prog X.w) h3 (typeOf (.ref a)) cls := fun A Q E s k q => wpAny_typeOf_ref (k _ _ he3) (by rw [hz3.1.1]; exact q)
    have LM := PySem.W.exm_one (M := model X.prog X.w) S3.kIn LT hb1
    have test : ∀ {Q E : Value → Shared → Prop}, Q c { s' with heap := h3 } → wpAny (model X.prog X.w) (X.A.mark (some (.ref a))) (eval (.Name x np) X.env) Q E { s' with heap := h3 } := fun {Q E} q => by
      obtain ⟨g1, g2, g3 | ⟨g3, g4, g5⟩⟩ := hc
      · exact ld_glob (X := suiteQ X a ((a, oe3) :: pn3) fun _ _ => False) S3 g1 g3 q g2
      · exact ld_blt (X := suiteQ X a ((a, oe3) :: pn3) fun _ _ => False) S3 g1 g3 g4 q g5 g2
    refine test (LM.here ?_)
    cases b with
    | false =>
      show wpAny _ X.A (handleBy (.ref a) X.env []) _ _ _
      refine wpAny_handleBy_nil ?_
      obtain ⟨k1, k2, k3, k4⟩ := id fl3
      exact on_from (s := { s' with heap := h3 }) hf k1 k2 k3 k4 fun h4 hh4 up4 => tk _ _ ⟨a, B, sI, pins, σ1, H1, cls, d, rfl, J, gr, (up.trans up3).trans up4, .inr (.inr (by rw [hs]; exact hh4)), na, os, ag, hno rfl⟩
    | true =>
      refine codeAny_handlers_suite_as ?_
      refine HandSPX.lands_againZ fl3 fun h4 fl4 up4 => ?_
      obtain ⟨oe, pn, sub, hz, hd, he, S4, hot⟩ := facts h4 fl4 (up3.trans up4) (AsSuiteRaised (model X.prog X.w) (X.A.mark (some (.ref a))) X.env n pos' (notedBy (model X.prog X.w) (X.A.mark (some (.ref a))) X.env (cameBackBy (model X.prog X.w) X.A X.env X.xe)))
      have back : ∀ {xe σ2 H2 s2 pin2}, Inv (suiteQ X a ((a, oe) :: pn) xe) pin2 σ2 H2 s2 → Inv X pins σ2 H2 s2 := fun {xe σ2 H2 s2 pin2} K =>
        ⟨ok, K.os, K.bare, K.base, K.loc, K.cell, K.free, K.freeC, fun p hp => K.pin p (List.mem_append_left _ (List.mem_cons_of_mem _ (sub p hp))), K.hok, K.len⟩
      refine store_ok (X := suiteQ X a ((a, oe) :: pn) _) (v := .ref a) S4 hN hi loc rfl (fun s5 S5 => ?_) (.inr hln)
      have tkS : Tk (suiteQ X a ((a, oe) :: pn) (AsSuiteRaised (model X.prog X.w) (X.A.mark (some (.ref a))) X.env n pos' (notedBy (model X.prog X.w) (X.A.mark (some (.ref a))) X.env (cameBackBy (model X.prog X.w) X.A X.env X.xe)))) (fun cls d σ H => Wout cls d (σ.set i none) H) := fun u2 s2 x2 => by
        obtain ⟨a2, B2, sI2, pn2, σ2, H2, cls2, d2, rfl, I2, gr2, up2, sky2, na2, os2, ag2, w2⟩ := x2
        have I2' := back I2
        have sky3 : Sky B2 (X.env :: X.outer) a2 (Zq B2 H2 cls2 d2) X.env.locals s2.heap := by rw [← hs]; exact sky2
        show wpAny _ _ (noteFrame (.ref a2) X.env) _ _ _
        refine noted zq_steady frames hf sky3 fun h5 hh5 up5 => ?_
        refine gone_held (s := { s2 with heap := h5 }) (a := a2) (Z := Zq B2 H2 cls2 d2) hs hf hN hi hln I2' gr2 (up2.trans up5) (by rw [hs]; exact hh5) os2 ag2 fun s6 g6 => ?_
        obtain ⟨sI6, I6, gr6, up6, ⟨k1, k2, k3, k4⟩, os6, ag6⟩ := g6
        exact on_from hf k1 k2 k3 k4 fun h7 hh7 up7 => hpa _ _ _ (tk _ _ ⟨a2, B2, sI6, pins, _, H2, cls2, d2, rfl, I6, gr6, up6.trans up7, .inr (.inr hh7), na2, os6, ag6, w2⟩)
      have end_ : ∀ {σ6 : L2.St} {H6 : Hp} {s6 : Shared} {Q : Shared → Prop}, Inv (suiteQ X a ((a, oe) :: pn) (AsSuiteRaised (model X.prog X.w) (X.A.mark (some (.ref a))) X.env n pos' (notedBy (model X.prog X.w) (X.A.mark (some (.ref a))) X.env (cameBackBy (model X.prog X.w) X.A X.env X.xe)))) [] σ6 H6 s6 → (∀ s7, Inv X pins (σ6.set i none) H6 s7 → Q s7) →
          wpAny (model X.prog X.w) X.A (do bindName X.env n .none; unbindBehindTheSuite X.env n pos') (fun _ s7 => Q s7) X.xe s6 := fun {σ6 H6 s6 Q} S6 hq => gone_ok (back S6) hN hi hln hq
      refine wpAny_mono ((hsu a oe cls d pn _ hz.1 hd hot tkS).run [] s5 _ H1 _ S5 (hyes rfl a na)) (fun f s6 hsp => ?_) (fun _ _ z => z)
      cases f with
      | ret u =>
        obtain ⟨v6, σ6, H6, S6, r6, q6⟩ := hsp
        exact end_ S6 fun s7 J7 => ⟨_, _, _, J7, r6, q6⟩
      | next => obtain ⟨σ6, H6, S6, q6⟩ := hsp; exact end_ S6 fun s7 J7 => ⟨_, _, J7, q6⟩
      | brk => obtain ⟨σ6, H6, S6, q6⟩ := hsp; exact end_ S6 fun s7 J7 => ⟨_, _, J7, q6⟩
      | cont => obtain ⟨σ6, H6, S6, q6⟩ := hsp; exact end_ S6 fun s7 J7 => ⟨_, _, J7, q6⟩
  · cases f with
    | ret u => obtain ⟨v, σ2, H2, K, r, q⟩ := hsp; exact ⟨v, σ2, H2, K.ofTry ok, r, q⟩
    | next => obtain ⟨σ2, H2, K, q⟩ := hsp; exact wpAny_execs_nil ⟨σ2, H2, K.ofTry ok, q⟩
    | brk => obtain ⟨σ2, H2, K, q⟩ := hsp; exact ⟨σ2, H2, K.ofTry ok, q⟩
    | cont => obtain ⟨σ2, H2, K, q⟩ := hsp; exact ⟨σ2, H2, K.ofTry ok, q⟩
end
end Xq
set_option Elab.async false
set_option linter.all false
set_option maxRecDepth 100000
set_option maxHeartbeats 4000000
/-! By value: what a def promises where no repr is under way. -/
namespace Bv
open PySem PySem.Spec L2
open PyProof.Rows hiding St
variable [HasW]

/-- as the layer's promise, but only where no repr is under way -/
structure FnG (P : Program) (w : World) (K : PySem.W.Frag) (mg : Str → Option Value) (base : Heap) (k : Nat) (f : Addr) (fd : FuncData) (ps : List Str) (sp : Sp) : Prop where
  len : ∀ vs H Q E, sp vs H Q E → vs.length = ps.length
  run : ∀ (A : Around) (outer : List Env) (s : Shared) (H : Hp) (as : Args) (us : List Value) (vs : List V) (Q : VK) (E : XK), A.guards = some [] → Room k A → Env0 P w K mg base A outer s H → BindsTo s fd as (ps.zip us) → Vals vs us → sp vs H Q E →
    codeAny (model P w) A (.call (.ref f) as) (CR (Xq.CQ P w) outer P w H s Q E) s
theorem gu_make {A : Around} {C : Addr} {us : List Value} {kw : List (Str × Value)} (h : A.guards = some []) : (A.under (.builtin "type.__call__" ⟨.ref C :: us, kw⟩)).guards = some [] := by
  have e : (Code.builtin "type.__call__" ⟨.ref C :: us, kw⟩).guards = [] := by first | rfl | simp [Code.guards, Code.isGuard, guardIds]
  show pushGuards (Code.builtin "type.__call__" ⟨.ref C :: us, kw⟩).guards A.guards = some []
  rw [e]
  exact h
section
variable {P : Program} {w : World} {K : PySem.W.Frag} {mg : Str → Option Value} {base : Heap} {x qual : Str} {pa : Arguments} {bd : List Stmt} {sc : Scope} {dl : List V} {kw : List (Str × V)} {f : Addr} {fd : FuncData} {N ps : List Str} {k : Nat} {sp : Sp}
/-- the context of a body -/
abbrev cxB (P : Program) (w : World) (K : PySem.W.Frag) (mg : Str → Option Value) (base : Heap) (N : List Str) (qual : Str) (sc : Scope) (f : Addr) (cdv : Value) (A : Around) (outer : List Env) (s : Shared) (H : Hp) (E : XK) : Cx :=
  cxOf (Xq.CQ P w) P w K mg base N qual sc f cdv A outer s H E
theorem FnG.of (F : FunD K x qual pa bd sc dl kw f fd) (S : FnScope N ps sc) (len : ∀ vs H Q E, sp vs H Q E → vs.length = ps.length)
    (body : ∀ (cdv : Value) (A : Around) (outer : List Env) (s : Shared) (H : Hp) (vs : List V) (Q : VK) (E : XK), A.guards = some [] → Room k (A.deeper (envOfC qual sc s.heap.objs.size f cdv)) → sp vs H Q E →
      ∃ t, PSs (cxB P w K mg base N qual sc f cdv A outer s H E) bd t ∧ t { nx := fun _ H' => Q .non H', rt := Q } (L2.start N vs) H) : FnG P w K mg base (k + 1) f fd ps sp := by
  obtain ⟨oc, od, dV, kV, doc, pm, an, cdv, ct, osl, rfl, look, code, _, _⟩ := F.ex
  refine ⟨len, fun A outer s H as us vs Q E gu room e0 binds rel hsp => ?_⟩
  have inK : K.In s.heap := e0.mod.kin.keeps fun b o q => (e0.bs b o q).1
  have nolim : s.heap.NoLimit := e0.mod.nolimit.keeps fun b o q => (e0.bs b o q).1
  refine codeAny_call_function room.depth (inK _ _ look) rfl S.co S.gen rfl (PySem.W.codeRec_of inK code) (binds _ _ _ _ ?_)
  refine wpAny_newFunctionEnv_cells S.kind (fun ⟨n, v⟩ m => ?_) fun env ee s1 z => ?_
  · rcases S.par n (List.of_mem_zip m).1 with q | q
    · exact .inl q
    · exact .inr ⟨q, PySem.W.cellsFrom_some _ _ _ (.inl q)⟩
  · subst ee
    refine ⟨nolim.keeps z.toInCall.keep, codeAny_func ?_⟩
    obtain ⟨t, run, q⟩ := body cdv A outer s H vs Q E gu (room.deeper _) hsp
    have I : Inv (cxB P w K mg base N qual sc f cdv A outer s H E) [] (L2.start N vs) H s1 := inv_start S room.hd e0 (len _ _ _ _ hsp) rel z
    refine wpAny_mono (run.run [] s1 (L2.start N vs) H _ I q) (fun fl s' y => ?_) fun _ _ y => y
    cases fl with
    | ret u => obtain ⟨v, σ', H', J, rv, q⟩ := y; exact ⟨v, H', J.os, J.bare, J.base, J.hok, rv, q⟩
    | next => obtain ⟨σ', H', J, q⟩ := y; exact ⟨.non, H', J.os, J.bare, J.base, J.hok, rfl, q⟩
    | brk => obtain ⟨_, _, _, q⟩ := y; exact (show False from q).elim
    | cont => obtain ⟨_, _, _, q⟩ := y; exact (show False from q).elim
end
theorem code_fnG {X : Cx} {k : Nat} {f : Addr} {fd : FuncData} {ps : List Str} {sp : Sp} {dvs : List V} {ds : List Value} {E : St → XK} {pins : List (Addr × Obj)} {σ : St} {H : Hp} {s : Shared} {Q : VK} {us : List Value} {vs : List V} (F : FnG X.prog X.w X.K X.mg X.base k f fd ps sp) (gu : X.A.guards = some []) (room : Room k X.A) (hb : Binds X.K fd ps ds) (hd : Vals dvs ds) (hx : PassesAt (Xq.CQ X.prog X.w) X σ (E σ))
    (I : Inv X pins σ H s) (r : Vals vs us) (h : sp (vs ++ dvs) H Q (E σ)) : codeAny (model X.prog X.w) X.A (.call (.ref f) ⟨us, []⟩) (wants (EP X pins σ Q) X.xe) s := by
  have rel := r.append hd
  have many : (us ++ ds).length = ps.length := rel.length.symm.trans (F.len _ _ _ _ h)
  refine codeAny_mono (F.run X.A X.stack s H ⟨us, []⟩ (us ++ ds) (vs ++ dvs) Q (E σ) gu room I.env0 (hb s us I.kIn many) rel h) fun y s' z => ?_
  cases y with
  | error e => exact hx pins H s e s' I z
  | ok fl =>
    cases fl with
    | ret u => exact I.after z
    | next => exact z.elim
    | brk => exact z.elim
    | cont => exact z.elim
omit [HasW] in
/-- THE END: the law is called -/
theorem law_callG {P : Program} {w : World} {K : PySem.W.Frag} {mg mb : Str → Option Value} {k : Nat} {fa a : Addr} {fd : FuncData} {x : Str} {sp : Sp} {s1 : Shared} {vs : List Value} {ns : List Int} (KX : K.In s1.heap) (hm : s1.heap.Ns mainGlobals mg) (hb : s1.heap.Ns builtinsNs mb) (hbb : ∀ x : Str, x ≠ "__name__" → mb x = bootBuiltins x)
    (lim : s1.heap.NoLimit) (hg : s1.gens = #[]) (ha : s1.heap.get? a = some { cls := .type "list", data := .seq vs.toArray }) (hi : IntsAre vs ns) (hl : ns.length ≤ sizeLine) (room : Room k callerA) (F : ∀ base : Heap, K.In base → base.Ns mainGlobals mg → FnG P w K mg base k fa fd [x] sp)
    (bind : ∀ (s : Shared) (u : Value), BindsTo s fd ⟨[u], []⟩ [(x, u)]) (hsp : ∀ H : Hp, Only H → SqL K H a (ns.map V.int) → sp [.ref a] H (fun v _ => v = .bl true) fun _ _ _ => False) :
    codeAny (model P w) callerA (.call (.ref fa) ⟨[.ref a], []⟩) (fun r s' => r = .ok (.ret (.bool true)) ∧ OldK s1.heap s'.heap ∧ s'.os = s1.os ∧ AllBare s'.gens) s1 := by
  -- an abstract heap that knows of the script at most
  have main : ∀ H : Hp, Only H → SqL K H a (ns.map V.int) → HOk P w H s1.heap → (∀ b, H b ≠ none → b = a) → (H a ≠ none → K.lookup a = none) →
      codeAny (model P w) callerA (.call (.ref fa) ⟨[.ref a], []⟩) (fun r s' => r = .ok (.ret (.bool true)) ∧ OldK s1.heap s'.heap ∧ s'.os = s1.os ∧ AllBare s'.gens) s1 := fun H only seq hok own out => by
    have isA : ∀ {b : Addr}, H b = none ∨ b = a := fun {b} => Classical.byCases .inl fun z => .inr (own b z)
    have keepN : ∀ {b : Addr} {o : Obj}, s1.heap.get? b = some o → H b = none → (hidT s1.heap H).get? b = some o := fun q n => hidT_get q n
    have dictN : ∀ {b : Addr} {o : Obj} {es : Array DictEntry} {ep : Nat}, s1.heap.get? b = some o → o.data = .dict es ep → H b = none := fun {b o es ep} q d => isA.resolve_right fun z => by
      rw [z, ha] at q
      cases q
      exact nomatch (show Data.seq vs.toArray _ = Data.dict es ep from d)
    have nsN : ∀ {b : Addr} {m : Str → Option Value}, s1.heap.Ns b m → (hidT s1.heap H).Ns b m := fun {b m} ⟨o, es, ep, q, d, r⟩ => ⟨o, es, ep, keepN q (dictN q d), d, r⟩
    have inB : K.In (hidT s1.heap H) := fun b o q => keepN (KX b o q) (Classical.byContradiction fun z => by
      rw [own b z, out (by rw [← own b z]; exact z)] at q
      cases q)
    have modB : Mod K mg (hidT s1.heap H) := ⟨inB, nsN hm, ⟨mb, nsN hb, hbb⟩, let ⟨mc, h1, h2⟩ := lim; ⟨mc, nsN h1, h2⟩⟩
    have e0 : Env0 P w K mg (hidT s1.heap H) callerA [] s1 H := ⟨rfl, modB, fun b o q => of_hidT q, Nat.le_of_eq (hidT_size _ _), trivial, fun b z => absurd (show b ∈ ([] : List Addr) from z) (by simp), hok, .of_eq hg⟩
    refine codeAny_mono ((F _ inB (nsN hm)).run callerA [] s1 H ⟨[.ref a], []⟩ [.ref a] [.ref a] _ _ rfl room e0 (bind s1 (.ref a)) (.cons rfl .nil) (hsp H only seq)) fun y s' z => ?_
    cases y with
    | error e =>
      obtain ⟨_, _, _, _, _, no⟩ := z
      exact no.wish.elim
    | ok fl =>
      cases fl with
      | next => exact z.elim
      | brk => exact z.elim
      | cont => exact z.elim
      | ret u =>
        obtain ⟨v, H', os, bare, un, hok', rv, q⟩ := z
        cases (show v = .bl true from q)
        cases (show u = Value.bool true from rv)
        refine ⟨rfl, OldK.of_keep fun b o e => ?_, os, bare⟩
        rcases only b with n | ⟨ob, xs, n⟩
        · exact un.keep b o e n (fun z => absurd (show b ∈ ([] : List Addr) from z) (by simp)) (by simp)
        · obtain ⟨e1, _⟩ := hok b _ n
          obtain ⟨e2, _⟩ := hok' b _ (un.frzs b ob _ n)
          rw [e] at e1
          cases e1
          exact e2
  have rv := vals_ints hi
  cases own : K.lookup a with
  | some o =>
    have e := KX a o own
    rw [ha] at e
    cases e
    exact main (fun _ => none) (fun _ => .inl rfl) (.inr ⟨_, vs.toArray, _, own, rfl, rfl, rfl, by rw [List.size_toArray, hi.length]; exact hl, by simpa using rv⟩) (fun b u z => nomatch (show (none : Option HO) = some u from z)) (fun b z => absurd rfl z) fun z => absurd rfl z
  | none =>
    let H0 : Hp := fun b => if b = a then some (.frz { cls := .type "list", data := .seq vs.toArray } (.lst (ns.map V.int))) else none
    have at0 : H0 a = some (.frz { cls := .type "list", data := .seq vs.toArray } (.lst (ns.map V.int))) := if_pos rfl
    have off : ∀ b, b ≠ a → H0 b = none := fun b z => if_neg z
    refine main H0 (fun b => ?_) (.inl (.inr ⟨_, at0⟩)) (fun b u z => ?_) (fun b z => Classical.byContradiction fun y => z (off b y)) fun _ => own
    · by_cases y : b = a
      · exact .inr ⟨_, _, by rw [y]; exact at0⟩
      · exact .inl (off b y)
    · by_cases y : b = a
      · rw [y, at0] at z
        cases z
        rw [y]
        exact ⟨ha, by rw [List.length_map]; exact hl, vs, _, rv, ha⟩
      · rw [off b y] at z; cases z
omit [HasW] in
theorem walk_ofG {l : PySem.W.OpenLaw} {n k : Nat} {q : Program} {loose : List Str} {XP : (Str → Option Value) → Heap → Prop} {YP : World → Heap → Prop} {d : DefRec} {x : Str} (hn : l.most = some n) (hn2 : n ≤ sizeLine) (hdf : d.params.defaults = []) (room : Room k callerA)
    (F : ∀ (w : World) (mg : Str → Option Value) (fa : Addr) (h : Heap), YP w h → h.Ns mainGlobals mg → mg d.name = some (.ref fa) →
      ∃ (K : PySem.W.Frag) (fd : FuncData) (sp : Sp), K.In h ∧ (∀ (s : Shared) (u : Value), BindsTo s fd ⟨[u], []⟩ [(x, u)]) ∧ (∀ (H : Hp) (a : Addr) (ns : List Int), ns.length ≤ n → Only H → SqL K H a (ns.map V.int) → sp [.ref a] H (fun v _ => v = .bl true) fun _ _ _ => False) ∧
        ∀ base : Heap, K.In base → base.Ns mainGlobals mg → FnG l.prog w K mg base k fa fd [x] sp) : PySem.W.WalkO q loose XP YP l.row.toRowW d [] (fun f vs => PySem.call f vs) := by
  refine Att.attach_call hn hdf fun w s0 s1 mg mb fa o pm cd doc a vs ns G Y _ _ _ hmg hobj hints hlen hg => ?_
  obtain ⟨K, fd, sp, KX, bind, hsp, run⟩ := F w mg fa _ Y G.T.g hmg
  exact law_callG KX G.T.g G.T.b G.T.builtins G.T.nolimit hg hobj hints (Nat.le_trans hlen hn2) room run bind fun H only seq => hsp H a ns hlen only seq
end Bv
set_option Elab.async false
set_option linter.all false
set_option maxRecDepth 100000
set_option maxHeartbeats 4000000
/-! By value: defs, what they promise, their calls. -/
namespace Bv
open PySem PySem.Spec L2
open PyProof.Rows hiding St
variable [HasW]

/-! ### what a def made for itself is forgotten -/
def okX (k : Nat) : X → Bool
  | .d _ => true
  | .r n => decide (n < k)
def okO (k : Nat) : O → Bool
  | .lst xs => xs.all (okX k)
  | .dic kvs => kvs.all fun p => okX k p.2
  | .fdc kvs => kvs.all fun p => okX k p.2
  | .tdc kvs => kvs.all fun p => okX k p.2
  | .ins _ fs => fs.all fun p => okX k p.2
def cut (k : Nat) (S : Sto) : Option Sto := if (S.take k).all (okO k) then some (S.take k) else none
def keepX (k : Nat) (S : Sto) : X → Option X
  | .d v => some (.d v)
  | .r n => if decide (n < k) then some (.r n) else ((X.r n).get S).map .d
def trunc (k : Nat) : R X → R X
  | .ok x S => match keepX k S x, cut k S with
    | some y, some T => .ok y T
    | _, _ => .ok x S
  | .err C fs S => match cut k S with
    | some T => .err C fs T
    | none => .err C fs S
  | .bad => .bad
section
variable {K : PySem.W.Frag} {Z : Wd} {ρ ρ1 : List Addr} {S S1 T : Sto} {H H1 : Hp}
theorem okX_ax {W W' : Wd} {x : X} {v : V} (p : ρ <+: ρ1) (m : Mv W H W' H) (h : okX ρ.length x = true) (a : AX K W ρ1 H x v) : AX K W' ρ H x v := by
  cases a with
  | d a => exact .d (a.mv m)
  | r e =>
    rename_i n a
    have h : n < ρ.length := of_decide_eq_true h
    obtain ⟨t, rfl⟩ := p
    rw [List.getElem?_append_left h] at e
    exact .r e
theorem pair_all {α β : Type} {F G : α → β → Prop} {f : α → Bool} (hf : ∀ a b, f a = true → F a b → G a b) : ∀ {l : List α} {r : List β}, l.all f = true → Paired F l r → Paired G l r
  | _, _, _, .nil => .nil
  | a :: l, _, h, .cons x t => by
    rw [List.all_cons, Bool.and_eq_true] at h
    exact .cons (hf _ _ h.1 x) (pair_all hf h.2 t)
theorem cut_sta (s : Sta K Z ρ S H) (s1 : Sta K Z ρ1 S1 H1) (g : Go ρ H ρ1 H1) (h : cut ρ.length S1 = some T) : Sta K Z ρ T H1 ∧ Go ρ H ρ H1 ∧ Mv (Wn Z ρ1) H1 (Wn Z ρ) H1 := by
  obtain ⟨h1, h2⟩ : (S1.take ρ.length).all (okO ρ.length) = true ∧ T = S1.take ρ.length := by
    unfold cut at h
    split at h
    · rename_i q; cases h; exact ⟨q, rfl⟩
    · cases h
  subst h2
  have m : Mv (Wn Z ρ1) H1 (Wn Z ρ) H1 := fun a o z q => ⟨fun w => z (w.elim .inl fun w => .inr (g.pre.subset w)), q⟩
  have hl : ρ.length ≤ S1.length := by rw [s1.len]; exact g.pre.length_le
  refine ⟨⟨s.nd, fun a z => ⟨(s.z a z).1, (s1.z a z).2⟩, by simp; omega, fun n o a e1 e2 => ?_⟩, ⟨List.prefix_refl _, fun a o z q => ⟨z, (g.keep a o z q).2⟩, g.fz⟩, m⟩
  have hn : n < ρ.length := (List.getElem?_eq_some_iff.mp e2).1
  have e3 : S1[n]? = some o := by rw [List.getElem?_take_of_lt hn] at e1; exact e1
  have e4 : ρ1[n]? = some a := by
    obtain ⟨t, rfl⟩ := g.pre
    rw [List.getElem?_append_left hn]; exact e2
  have x := s1.ob n o a e3 e4
  have ho : okO ρ.length o = true := (List.all_eq_true.mp h1) o (List.mem_of_getElem? e1)
  cases o with
  | lst xs => obtain ⟨vs, e, q⟩ := x; exact ⟨vs, e, pair_all (fun _ _ => okX_ax g.pre m) ho q⟩
  | dic kvs => obtain ⟨vs, e, q⟩ := x; exact ⟨vs, e, pair_all (f := fun p => okX ρ.length p.2) (fun _ _ h z => ⟨z.1, okX_ax g.pre m h z.2⟩) (show (kvs.all fun p => okX ρ.length p.2) = true from ho) q⟩
  | fdc kvs => obtain ⟨ob, vs, e, q⟩ := x; exact ⟨ob, vs, e, pair_all (f := fun p => okX ρ.length p.2) (fun _ _ h z => ⟨z.1, okX_ax g.pre m h z.2⟩) (show (kvs.all fun p => okX ρ.length p.2) = true from ho) q⟩
  | tdc kvs => obtain ⟨vs, e, q⟩ := x; exact ⟨vs, e, pair_all (f := fun p => okX ρ.length p.2) (fun _ _ h z => ⟨z.1, z.2.1.mv m, okX_ax g.pre m h z.2.2⟩) (show (kvs.all fun p => okX ρ.length p.2) = true from ho) q⟩
  | ins C fs => obtain ⟨dx, vs, e, q⟩ := x; exact ⟨dx, vs, e, pair_all (f := fun p => okX ρ.length p.2) (fun _ _ h z => ⟨z.1, okX_ax g.pre m h z.2⟩) (show (fs.all fun p => okX ρ.length p.2) = true from ho) q⟩
theorem keep_ax {x y : X} {v : V} (s : Sta K Z ρ S H) (s1 : Sta K Z ρ1 S1 H1) (g : Go ρ H ρ1 H1) (m : Mv (Wn Z ρ1) H1 (Wn Z ρ) H1) (h : keepX ρ.length S1 x = some y) (a : AX K (Wn Z ρ1) ρ1 H1 x v) : AX K (Wn Z ρ) ρ H1 y v := by
  cases x with
  | d d => cases h; exact okX_ax g.pre m rfl a
  | r n =>
    have h : (if decide (n < ρ.length) then some (X.r n) else ((X.r n).get S1).map .d) = some y := h
    by_cases hn : n < ρ.length
    · rw [if_pos (decide_eq_true hn)] at h
      cases h
      exact okX_ax g.pre m (decide_eq_true hn) a
    · rw [if_neg (by simpa using hn)] at h
      obtain ⟨d, h1, h2⟩ := Option.map_eq_some_iff.mp h
      subst h2
      have w := a.get s1 h1
      cases a with
      | r e =>
        rename_i b
        have hb : ¬ Wn Z ρ b := fun z => by
          rcases z with z | z
          · exact (s1.z b z).1 (List.mem_of_getElem? e)
          · obtain ⟨j, hj, e5⟩ := List.getElem_of_mem z
            obtain ⟨t, rfl⟩ := g.pre
            have e6 : (ρ ++ t)[j]? = some b := by rw [List.getElem?_append_left hj, List.getElem?_eq_getElem hj, e5]
            have hn2 : n < (ρ ++ t).length := (List.getElem?_eq_some_iff.mp e).1
            have hj2 : j < (ρ ++ t).length := (List.getElem?_eq_some_iff.mp e6).1
            have : (ρ ++ t)[n] = (ρ ++ t)[j] := by
              rw [List.getElem?_eq_getElem hn2] at e
              rw [List.getElem?_eq_getElem hj2] at e6
              exact Option.some.inj (e.trans e6.symm)
            have := (List.getElem_inj s1.nd).mp this
            omega
        cases w with
        | av w => exact .d (w.mv m)
        | lst h hs => exact .d (.lst hb h (hs.mv m))
        | fdc h hs => exact .d (.dic hb h (hs.mv m))
/-- what stands behind a def that forgets -/
theorem post_trunc {Wx : WX} {σ : St} {Q : VK} {r : R X} (s : Sta K Z ρ S H) (h : PostG (AX K) K Z ρ H Wx σ Q (trunc S.length r)) : PostG (AX K) K Z ρ H Wx σ Q r := by
  rw [s.len] at h
  cases r with
  | bad => exact h
  | ok x T =>
    intro ρ1 H1 v s1 g a
    have h : PostG (AX K) K Z ρ H Wx σ Q (match keepX ρ.length T x, cut ρ.length T with
      | some y, some T => .ok y T
      | _, _ => .ok x T) := h
    cases q1 : keepX ρ.length T x with
    | none => rw [q1] at h; exact h ρ1 H1 v s1 g a
    | some y =>
      cases q2 : cut ρ.length T with
      | none => rw [q1, q2] at h; exact h ρ1 H1 v s1 g a
      | some T' =>
        rw [q1, q2] at h
        obtain ⟨s2, g2, m⟩ := cut_sta s s1 g q2
        exact h ρ H1 v s2 g2 (keep_ax s s1 g m q1 a)
  | err C fs T =>
    have h : PostG (AX K) K Z ρ H Wx σ Q (match cut ρ.length T with
      | some T => .err C fs T
      | none => .err C fs T) := h
    cases q2 : cut ρ.length T with
    | none => rw [q2] at h; exact h
    | some T' =>
      rw [q2] at h
      intro ρ1 H1 d s1 g z
      obtain ⟨s2, g2, m⟩ := cut_sta s s1 g q2
      refine h ρ H1 d s2 g2 ?_
      rcases z with z | ⟨dd, vs, z1, z2, z3, z4, z5⟩
      · exact .inl z
      · exact .inr ⟨dd, vs, z1, z2, fun w => z3 (w.elim .inl fun w => .inr (g.pre.subset w)), z4, z5.mv m⟩
end

/-! ### promises -/
/-- what is wanted of an exception, wherever the slots are -/
abbrev wxE (E : XK) : WX := fun c d _ H => E c d H
/-- a def that works at the caller's store -/
def spE (K : PySem.W.Frag) (n : Nat) (g : List X → Sto → R X) : Sp := fun vs H Q E => vs.length = n ∧ ∃ (Z : Wd) (ρ : List Addr) (xs : List X) (S : Sto), Sta K Z ρ S H ∧ AXs K (Wn Z ρ) ρ H xs vs ∧ PostG (AX K) K Z ρ H (wxE E) [] Q (g xs S)
inductive PR where
  | ok (d : D) | err (C : Str) (fs : List (Str × D)) | bad
def PostP (K : PySem.W.Frag) (W : Wd) (H : Hp) (Q : VK) (E : XK) : PR → Prop
  | .ok d => ∀ H' v, Same H H' → AV K W H' d v → Q v H'
  | .err C fs => ∀ H' d, Same H H' → ErrO K W H H' fs d → E (.ref (He.ga K C)) d H'
  | .bad => False
/-- a def of data -/
def spP (K : PySem.W.Frag) (n : Nat) (g : List D → PR) : Sp := fun vs H Q E => vs.length = n ∧ ∃ (W : Wd) (ds : List D), (∀ a, W a → ∃ o, H a = some o) ∧ AVs K W H ds vs ∧ PostP K W H Q E (g ds)
/-- the slots at the start -/
def ev0 (N : Nat) (xs : List X) : Ev := xs.map some ++ List.replicate (N - xs.length) none
def endE : RO → R X
  | .go (.nx _) S => .ok (.d .non) S
  | .go (.rt x) S => .ok x S
  | .err C fs _ S => .err C fs S
  | _ => .bad
def runE (N : Nat) (mb : MS) (xs : List X) (S : Sto) : R X := trunc S.length (endE (mb (ev0 N xs) S))
/-- what it made stays -/
def runR (N : Nat) (mb : MS) (xs : List X) (S : Sto) : R X := endE (mb (ev0 N xs) S)
def endP : RO → PR
  | .go (.nx _) _ => .ok .non
  | .go (.rp d) _ => .ok d
  | .err C fs _ _ => .err C fs
  | _ => .bad
def runP (N : Nat) (mb : MS) (ds : List D) : PR := endP (mb (ev0 N (ds.map .d)) [])
theorem ev0_ok {K : PySem.W.Frag} {W : Wd} {ρ : List Addr} {H : Hp} {N : List Str} {xs : List X} {vs : List V} (a : AXs K W ρ H xs vs) : EvOk K W ρ H (ev0 N.length xs) (L2.start N vs) := by
  have hl : xs.length = vs.length := Paired.length a
  refine ⟨by simp [ev0, L2.start, hl], fun i x q => ?_⟩
  unfold ev0 at q
  by_cases hi : i < xs.length
  · rw [List.getElem?_append_left (by simpa using hi), List.getElem?_map] at q
    obtain ⟨y, h1, h2⟩ := Option.map_eq_some_iff.mp q
    cases h2
    have go : ∀ {l : List X} {r : List V} {j : Nat}, AXs K W ρ H l r → l[j]? = some x → ∃ b, r[j]? = some b ∧ AX K W ρ H x b := fun {l r j} p => by
      induction p generalizing j with
      | nil => intro z; simp at z
      | cons x _ ih =>
        intro z
        cases j with
        | zero => simp at z; subst z; exact ⟨_, rfl, x⟩
        | succ n => simp at z; obtain ⟨b, h1, h2⟩ := ih z; exact ⟨b, by simpa using h1, h2⟩
    obtain ⟨v, h3, h4⟩ := go a h1
    refine ⟨v, ?_, h4⟩
    unfold L2.start
    rw [List.getElem?_append_left (by rw [List.length_map, ← hl]; exact hi), List.getElem?_map, h3]; rfl
  · rw [List.getElem?_append_right (by simpa using hi)] at q
    rw [List.getElem?_replicate] at q
    split at q <;> cases q
section
variable {P : Program} {w : World} {K : PySem.W.Frag} {mg : Str → Option Value} {base : Heap} {x qual : Str} {pa : Arguments} {bd : List Stmt} {sc : Scope} {dl : List V} {kw : List (Str × V)} {f : Addr} {fd : FuncData} {N ps : List Str} {k : Nat} {mb : MS}
theorem fnE (F : FunD K x qual pa bd sc dl kw f fd) (S : FnScope N ps sc)
    (h : ∀ (cdv : Value) (A : Around) (outer : List Env) (s : Shared) (H : Hp) (E : XK), A.guards = some [] → Room k (A.deeper (envOfC qual sc s.heap.objs.size f cdv)) → MPs (cxB P w K mg base N qual sc f cdv A outer s H E) (wxE E) bd mb) :
    FnG P w K mg base (k + 1) f fd ps (spE K ps.length (runE N.length mb)) := FnG.of F S (fun _ _ _ _ z => z.1) fun cdv A outer s H vs Q E gu hr ⟨hl, Z, ρ, xs, T, st, a, p⟩ => by
  refine ⟨_, h cdv A outer s H E gu hr, Z, ρ, ev0 N.length xs, T, st, ev0_ok a, ?_⟩
  have p := post_trunc st (show PostG (AX K) K Z ρ H (wxE E) [] Q (trunc T.length (endE (mb (ev0 N.length xs) T))) from p)
  cases q : mb (ev0 N.length xs) T with
  | bad => rw [q] at p; exact p
  | err C fs e S' => rw [q] at p; exact fun ρ' H' σ' d s1 g ev z => p ρ' H' d s1 g z
  | go o S' =>
    rw [q] at p
    cases o with
    | nx e => exact fun ρ' H' σ' s1 g ev => p ρ' H' .non s1 g (.d .non)
    | rt x => exact p
    | bk e => exact p.elim
    | ct e => exact p.elim
    | rp d => exact p.elim
theorem fnR (F : FunD K x qual pa bd sc dl kw f fd) (S : FnScope N ps sc)
    (h : ∀ (cdv : Value) (A : Around) (outer : List Env) (s : Shared) (H : Hp) (E : XK), A.guards = some [] → Room k (A.deeper (envOfC qual sc s.heap.objs.size f cdv)) → MPs (cxB P w K mg base N qual sc f cdv A outer s H E) (wxE E) bd mb) :
    FnG P w K mg base (k + 1) f fd ps (spE K ps.length (runR N.length mb)) := FnG.of F S (fun _ _ _ _ z => z.1) fun cdv A outer s H vs Q E gu hr ⟨hl, Z, ρ, xs, T, st, a, p⟩ => by
  refine ⟨_, h cdv A outer s H E gu hr, Z, ρ, ev0 N.length xs, T, st, ev0_ok a, ?_⟩
  have p : PostG (AX K) K Z ρ H (wxE E) [] Q (endE (mb (ev0 N.length xs) T)) := p
  cases q : mb (ev0 N.length xs) T with
  | bad => rw [q] at p; exact p
  | err C fs e S' => rw [q] at p; exact fun ρ' H' σ' d s1 g ev z => p ρ' H' d s1 g z
  | go o S' =>
    rw [q] at p
    cases o with
    | nx e => exact fun ρ' H' σ' s1 g ev => p ρ' H' .non s1 g (.d .non)
    | rt x => exact p
    | bk e => exact p.elim
    | ct e => exact p.elim
    | rp d => exact p.elim
theorem fnP (F : FunD K x qual pa bd sc dl kw f fd) (S : FnScope N ps sc)
    (h : ∀ (cdv : Value) (A : Around) (outer : List Env) (s : Shared) (H : Hp) (E : XK), A.guards = some [] → Room k (A.deeper (envOfC qual sc s.heap.objs.size f cdv)) → MPs (cxB P w K mg base N qual sc f cdv A outer s H E) (wxE E) bd mb) :
    FnG P w K mg base (k + 1) f fd ps (spP K ps.length (runP N.length mb)) := FnG.of F S (fun _ _ _ _ z => z.1) fun cdv A outer s H vs Q E gu hr ⟨hl, W, ds, hw, a, p⟩ => by
  have m0 : ∀ H, Mv W H (Wn W []) H := fun H a o z q => ⟨fun y => y.elim z (by simp), q⟩
  have m1 : ∀ ρ H, Mv (Wn W ρ) H W H := fun ρ H a o z q => ⟨fun y => z (.inl y), q⟩
  have st : Sta K W [] [] H := ⟨List.nodup_nil, fun a z => ⟨by simp, hw a z⟩, rfl, fun n o a e1 _ => by simp at e1⟩
  refine ⟨_, h cdv A outer s H E gu hr, W, [], ev0 N.length (ds.map .d), [], st, ev0_ok (a.mv (m0 H)).axs, ?_⟩
  have p : PostP K W H Q E (endP (mb (ev0 N.length (ds.map .d)) [])) := p
  cases q : mb (ev0 N.length (ds.map .d)) [] with
  | bad => rw [q] at p; exact p
  | err C fs e S' =>
    rw [q] at p
    refine fun ρ' H' σ' d s1 g ev z => p H' d (fun a o q => (g.keep a o (by simp) q).2) ?_
    rcases z with z | ⟨dd, vs, z1, z2, z3, z4, z5⟩
    · exact .inl z
    · exact .inr ⟨dd, vs, z1, z2, fun w => z3 (.inl w), z4, z5.mv (m1 _ _)⟩
  | go o S' =>
    rw [q] at p
    cases o with
    | nx e => exact fun ρ' H' σ' s1 g ev => p H' .non (fun a o q => (g.keep a o (by simp) q).2) .non
    | rp d => exact fun H' v k a => p H' v (fun b o q => k b o (by simp) q) a
    | bk e => exact p.elim
    | ct e => exact p.elim
    | rt d => exact p.elim
end
end Bv
set_option Elab.async false
set_option linter.all false
set_option maxRecDepth 100000
set_option maxHeartbeats 4000000
/-! By value: calls. -/
namespace Bv
open PySem PySem.Spec L2
open PyProof.Rows hiding St
variable [HasW]

/-! ### data that shares nothing with a list or a dict -/
mutual
def D.noL : D → Bool
  | .lst _ => false
  | .dic _ => false
  | .scr _ => false
  | .tup ds => D.noLs ds
  | .obj _ fs => D.noLf fs
  | _ => true
def D.noLs : List D → Bool
  | [] => true
  | d :: r => d.noL && D.noLs r
def D.noLf : List (Str × D) → Bool
  | [] => true
  | (_, d) :: r => d.noL && D.noLf r
end
/-- what is writable here and not there holds lists or dicts -/
def OnlyL (W W' : Wd) (H : Hp) : Prop := ∀ a, W a → ¬ W' a → (∃ xs, H a = some (.lst xs)) ∨ ∃ ob ks, H a = some (.frz ob (.dK ks))
theorem noL_tup {ds : List D} (h : (D.tup ds).noL = true) : D.noLs ds = true := by simpa [D.noL] using h
theorem noL_obj {C : Str} {fs : List (Str × D)} (h : (D.obj C fs).noL = true) : D.noLf fs = true := by simpa [D.noL] using h
theorem noLs_cons {d : D} {r : List D} (h : D.noLs (d :: r) = true) : d.noL = true ∧ D.noLs r = true := by simpa [D.noLs] using h
theorem noLf_cons {f : Str} {d : D} {r : List (Str × D)} (h : D.noLf ((f, d) :: r) = true) : d.noL = true ∧ D.noLf r = true := by simpa [D.noLf] using h
theorem noL_lst {ds : List D} : ¬ (D.lst ds).noL = true := by simp [D.noL]
theorem noL_dic {ds : List (D × D)} : ¬ (D.dic ds).noL = true := by simp [D.noL]
theorem noL_scr {ds : List Int} : ¬ (D.scr ds).noL = true := by simp [D.noL]
section
variable {K : PySem.W.Frag} {W W' : Wd} {H : Hp}
mutual
theorem AV.noL (hw : OnlyL W W' H) : ∀ {d : D} {v : V}, d.noL = true → AV K W' H d v → AV K W H d v
  | _, _, _, .non => .non
  | _, _, _, .bl b => .bl b
  | _, _, _, .int i => .int i
  | _, _, _, .str x => .str x
  | _, _, _, .gl x => .gl x
  | _, _, n, .tup h hs => .tup (by
      rcases h with ⟨h1, h2⟩ | h
      · refine .inl ⟨fun z => ?_, h2⟩
        rcases hw _ z h1 with ⟨xs, q⟩ | ⟨_, ks, q⟩ <;> (rw [h2] at q; cases q)
      · exact .inr h) (AVs.noL hw (noL_tup n) hs)
  | _, _, n, .obj h1 h2 hs => .obj (fun z => by
      rcases hw _ z h1 with ⟨xs, q⟩ | ⟨_, ks, q⟩ <;> (rw [h2] at q; cases q)) h2 (AVf.noL hw (noL_obj n) hs)
  | _, _, n, .lst _ _ _ => (noL_lst n).elim
  | _, _, n, .dic _ _ _ => (noL_dic n).elim
  | _, _, n, .scr _ => (noL_scr n).elim
theorem AVs.noL (hw : OnlyL W W' H) : ∀ {ds : List D} {vs : List V}, D.noLs ds = true → AVs K W' H ds vs → AVs K W H ds vs
  | _, _, _, .nil => .nil
  | _, _, n, .cons h hs => .cons (AV.noL hw (noLs_cons n).1 h) (AVs.noL hw (noLs_cons n).2 hs)
theorem AVf.noL (hw : OnlyL W W' H) : ∀ {ds : List (Str × D)} {vs : List (Str × V)}, D.noLf ds = true → AVf K W' H ds vs → AVf K W H ds vs
  | _, _, _, .nil => .nil
  | _, _, n, .cons h hs => .cons (AV.noL hw (noLf_cons n).1 h) (AVf.noL hw (noLf_cons n).2 hs)
end
end
def X.isD : X → Bool
  | .d _ => true
  | .r _ => false
/-- a def of data, called: lists and dicts of the store are lent -/
def callP (g : List D → PR) (xs : List X) (S : Sto) : R X := match gets S xs with
  | some ds => (match g ds with
    | .ok d => if xs.all X.isD || d.noL then .ok (.d d) S else .bad
    | .err C fs => if xs.all X.isD || D.noLf fs then .err C fs S else .bad
    | .bad => .bad)
  | none => .bad
section
variable {K : PySem.W.Frag} {Z : Wd} {ρ : List Addr} {S : Sto} {H : Hp}
/-- what is lent -/
def Lent (ρ : List Addr) (xs : List X) : Wd := fun a => ∃ n, X.r n ∈ xs ∧ ρ[n]? = some a
theorem lend (st : Sta K Z ρ S H) (W' : Wd) (hs : ∀ a, W' a → Wn Z ρ a) : ∀ {xs : List X} {vs : List V} {ds : List D}, (∀ a, Lent ρ xs a → ¬ W' a) → AXs K (Wn Z ρ) ρ H xs vs → gets S xs = some ds → AVs K W' H ds vs
  | _, _, _, _, .nil, e => by cases e; exact .nil
  | x :: r, _, ds, hb, .cons h t, e => by
    unfold gets at e
    cases q : x.get S with
    | none => rw [q] at e; cases e
    | some d =>
      cases q2 : gets S r with
      | none => rw [q, q2] at e; cases e
      | some l =>
        rw [q, q2] at e
        cases e
        have m : Mv (Wn Z ρ) H W' H := fun a o z y => ⟨fun w => z (hs a w), y⟩
        refine .cons ?_ (lend st W' hs (fun a ⟨n, h1, h2⟩ => hb a ⟨n, List.mem_cons_of_mem _ h1, h2⟩) t q2)
        have w := h.get st q
        cases h with
        | d h => cases q; exact h.mv m
        | r h =>
          have nb := hb _ ⟨_, List.mem_cons_self, h⟩
          cases w with
          | av w => exact w.mv m
          | lst h hs => exact .lst nb h (hs.mv m)
          | fdc h hs => exact .dic nb h (hs.mv m)
theorem lent_L (st : Sta K Z ρ S H) : ∀ {xs : List X} {ds : List D} {a : Addr}, gets S xs = some ds → Lent ρ xs a → (∃ vs, H a = some (.lst vs)) ∨ ∃ ob ks, H a = some (.frz ob (.dK ks))
  | [], _, _, _, ⟨n, h, _⟩ => by simp at h
  | x :: r, ds, a, e, ⟨n, h, h2⟩ => by
    unfold gets at e
    cases q : x.get S with
    | none => rw [q] at e; cases e
    | some d =>
      cases q2 : gets S r with
      | none => rw [q, q2] at e; cases e
      | some l =>
        rcases List.mem_cons.mp h with z | z
        · subst z
          have w := (AX.r (K := K) (W := Wn Z ρ) (H := H) h2).get st q
          have q' : (match S[n]? with
            | some (.lst xs) => (ds? xs).map .lst
            | some (.fdc kvs) => (ks? kvs).map .dic
            | _ => none) = some d := q
          cases y : S[n]? with
          | none => rw [y] at q'; cases q'
          | some o =>
            rw [y] at q'
            have ob := st.ob n o a y h2
            cases o with
            | lst xs => obtain ⟨vs, h3, _⟩ := ob; exact .inl ⟨vs, h3⟩
            | fdc xs => obtain ⟨o, vs, h3, _⟩ := ob; exact .inr ⟨o, vs, h3⟩
            | _ => cases q'
        · exact lent_L st q2 ⟨n, z, h2⟩
theorem isD_lent {xs : List X} (h : xs.all X.isD = true) (a : Addr) : ¬ Lent ρ xs a := fun ⟨n, h1, _⟩ => by
  have := List.all_eq_true.mp h _ h1
  cases this
end
end Bv
set_option Elab.async false
set_option linter.all false
set_option maxRecDepth 100000
set_option maxHeartbeats 4000000
/-! By value: calls. -/
namespace Bv
open PySem PySem.Spec L2
open PyProof.Rows hiding St
variable [HasW]
section
variable {K : PySem.W.Frag} {Z : Wd} {ρ : List Addr} {S : Sto} {H : Hp}
/-- from the caller's wish to the promise -/
theorem spP_of {g : List D → PR} {Wx : WX} {σ : St} {Q : VK} {xs : List X} {vs : List V} {n : Nat} (st : Sta K Z ρ S H) (a : AXs K (Wn Z ρ) ρ H xs vs) (hn : vs.length = n) (p : PostG (AX K) K Z ρ H Wx σ Q (callP g xs S)) : spP K n g vs H Q (WE Wx σ) := by
  unfold callP at p
  cases q : gets S xs with
  | none => rw [q] at p; exact p.elim
  | some ds =>
    rw [q] at p
    have p : PostG (AX K) K Z ρ H Wx σ Q (match g ds with
      | .ok d => if xs.all X.isD || d.noL then .ok (.d d) S else .bad
      | .err C fs => if xs.all X.isD || D.noLf fs then .err C fs S else .bad
      | .bad => .bad) := p
    let W' : Wd := fun a => Wn Z ρ a ∧ ¬ Lent ρ xs a
    have only : ∀ {H' : Hp}, Same H H' → OnlyL (Wn Z ρ) W' H' := fun k a h1 h2 => by
      have : Lent ρ xs a := Classical.byContradiction fun z => h2 ⟨h1, z⟩
      rcases lent_L st q this with ⟨vs, h⟩ | ⟨o, vs, h⟩
      · exact .inl ⟨vs, k _ _ h⟩
      · exact .inr ⟨o, vs, k _ _ h⟩
    have none' : xs.all X.isD = true → ∀ {H' : Hp}, Mv W' H' (Wn Z ρ) H' := fun hd H' a o z y => ⟨fun w => z ⟨w, isD_lent hd a⟩, y⟩
    refine ⟨hn, W', ds, fun a h => st.thereW h.1, lend st W' (fun a h => h.1) (fun a h z => z.2 h) a q, ?_⟩
    cases q2 : g ds with
    | bad => rw [q2] at p; exact p.elim
    | ok d =>
      rw [q2] at p
      have p : PostG (AX K) K Z ρ H Wx σ Q (if xs.all X.isD || d.noL then .ok (.d d) S else .bad) := p
      split at p
      · rename_i hc
        refine fun H' v k a => p ρ H' v (st.grow k) (Go.grow k) (.d ?_)
        rcases Bool.or_eq_true_iff.mp hc with hc | hc
        · exact a.mv (none' hc)
        · exact a.noL (only k) hc
      · exact p.elim
    | err C fs =>
      rw [q2] at p
      have p : PostG (AX K) K Z ρ H Wx σ Q (if xs.all X.isD || D.noLf fs then .err C fs S else .bad) := p
      split at p
      · rename_i hc
        refine fun H' d k z => p ρ H' d (st.grow k) (Go.grow k) ?_
        rcases z with z | ⟨dd, vs, z1, z2, z3, z4, z5⟩
        · exact .inl z
        · refine .inr ⟨dd, vs, z1, z2, fun w => ?_, z4, ?_⟩
          · obtain ⟨o, e⟩ := st.thereW w
            rw [z2] at e; cases e
          · rcases Bool.or_eq_true_iff.mp hc with hc | hc
            · exact z5.mv (none' hc)
            · exact z5.noL (only k) hc
      · exact p.elim
theorem spE_of {g : List X → Sto → R X} {Wx : WX} {σ : St} {Q : VK} {xs : List X} {vs : List V} {n : Nat} (st : Sta K Z ρ S H) (a : AXs K (Wn Z ρ) ρ H xs vs) (hn : vs.length = n) (p : PostG (AX K) K Z ρ H Wx σ Q (g xs S)) : spE K n g vs H Q (WE Wx σ) := by
  refine ⟨hn, Z, ρ, xs, S, st, a, ?_⟩
  cases q : g xs S with
  | bad => rw [q] at p; exact p
  | ok x T => rw [q] at p; exact p
  | err C fs T => rw [q] at p; exact p
end

end Bv
set_option Elab.async false
set_option linter.all false
set_option maxRecDepth 100000
set_option maxHeartbeats 4000000
/-! By value: calls. -/
namespace Bv
open PySem PySem.Spec L2
open PyProof.Rows hiding St
variable [HasW]
/-! ### what can be called -/
def CalX (X : Cx) (Wx : WX) (fv : Value) (n : Nat) (g : List Bv.X → Sto → R Bv.X) : Prop := ∀ (pins : List (Addr × Obj)) (s : Shared) (σ : St) (H : Hp) (Q : VK) (us : List Value) (vs : List V) (Z : Wd) (ρ : List Addr) (xs : List Bv.X) (S : Sto),
  Inv X pins σ H s → Vals vs us → Sta X.K Z ρ S H → AXs X.K (Wn Z ρ) ρ H xs vs → vs.length = n → PostG (AX X.K) X.K Z ρ H Wx σ Q (g xs S) → codeAny (model X.prog X.w) X.A (.call fv ⟨us, []⟩) (wants (EP X pins σ Q) X.xe) s
/-- values that fill up -/
structure Dft (K : PySem.W.Frag) (dxs : List D) (dvs : List V) (ds : List Value) : Prop where
  av : ∀ W H, AVs K W H dxs dvs
  va : Vals dvs ds
theorem dft_nil {K : PySem.W.Frag} : Dft K [] [] [] := ⟨fun _ _ => .nil, .nil⟩
def withD (dxs : List D) (g : List Bv.X → Sto → R Bv.X) : List Bv.X → Sto → R Bv.X := fun xs S => g (xs ++ dxs.map .d) S
section
variable {X : Cx} {Wx : WX} {k n : Nat} {f : Addr} {fd : FuncData} {ps : List Str} {dxs : List D} {dvs : List V} {ds : List Value}
theorem cal_E {g : List Bv.X → Sto → R Bv.X} (tk : Xq.Tk X Wx) (gu : X.A.guards = some []) (F : FnG X.prog X.w X.K X.mg X.base k f fd ps (spE X.K n g)) (hr : Room k X.A) (hb : Binds X.K fd ps ds) (hd : Dft X.K dxs dvs ds) (hn : n - dvs.length + dvs.length = n := by rfl) :
    CalX X Wx (.ref f) (n - dvs.length) (withD dxs g) := fun pins s σ H Q us vs Z ρ xs S I r st a hl p =>
  code_fnG F gu hr hb hd.va (Xq.passAt tk σ) I r (spE_of st (Paired.append a (hd.av _ _).axs) (by rw [List.length_append, hl, hn]) p)
theorem cal_P {g : List D → PR} (tk : Xq.Tk X Wx) (gu : X.A.guards = some []) (F : FnG X.prog X.w X.K X.mg X.base k f fd ps (spP X.K n g)) (hr : Room k X.A) (hb : Binds X.K fd ps ds) (hd : Dft X.K dxs dvs ds) (hn : n - dvs.length + dvs.length = n := by rfl) :
    CalX X Wx (.ref f) (n - dvs.length) (withD dxs (callP g)) := fun pins s σ H Q us vs Z ρ xs S I r st a hl p =>
  code_fnG F gu hr hb hd.va (Xq.passAt tk σ) I r (spP_of st (Paired.append a (hd.av _ _).axs) (by rw [List.length_append, hl, hn]) p)

/-! ### a new instance -/
def fs? : List (Str × Bv.X) → Option (List (Str × D))
  | [] => some []
  | (f, x) :: r => match x, fs? r with
    | .d v, some l => some ((f, v) :: l)
    | _, _ => none
def frz (S : Sto) (k : Nat) : Option D := match S[k]? with
  | some (.ins C fs) => (fs? fs).map (.obj C)
  | _ => none
/-- of a class whose instances stay as they are made -/
def mkF (k : Nat) : R Bv.X → R Bv.X
  | .ok (.d .non) S => (match frz S k, cut k S with
    | some d, some T => .ok (.d d) T
    | _, _ => .bad)
  | .ok _ _ => .bad
  | .err C fs S => trunc k (.err C fs S)
  | .bad => .bad
/-- of a class whose instances are changed -/
def mkM (k : Nat) : R Bv.X → R Bv.X
  | .ok (.d .non) S => .ok (.r k) S
  | .ok _ _ => .bad
  | .err C fs S => trunc k (.err C fs S)
  | .bad => .bad
def made (C : Str) (mk : Nat → R Bv.X → R Bv.X) (g : List Bv.X → Sto → R Bv.X) : List Bv.X → Sto → R Bv.X := fun xs S => mk S.length (g (.r S.length :: xs) (S ++ [.ins C []]))
/-- what the new thing is behind its __init__ -/
def Mks (mk : Nat → R Bv.X → R Bv.X) : Prop := ∀ {K : PySem.W.Frag} {Z : Wd} {ρ : List Addr} {S : Sto} {H H2 : Hp} {Wx : WX} {σ : St} {Q : VK} {x : Addr} {r : R Bv.X}, Sta K Z ρ S H → H x = none → (∀ a o, H a = some o → H2 a = some o) → Sta K Z (ρ ++ [x]) (S ++ [.ins (Str.empty) []]) H2 ∨ True → x ∉ ρ → Go ρ H (ρ ++ [x]) H2 →
  PostG (AX K) K Z ρ H Wx σ Q (mk S.length r) → PostG (AX K) K Z (ρ ++ [x]) H2 Wx σ (fun v H3 => v = .non ∧ Q (.ref x) H3) r
theorem AVf_fs {K : PySem.W.Frag} {W : Wd} {ρ : List Addr} {H : Hp} : ∀ {fs : List (Str × Bv.X)} {vs : List (Str × V)} {l : List (Str × D)}, Paired (fun (p : Str × Bv.X) (q : Str × V) => p.1 = q.1 ∧ AX K W ρ H p.2 q.2) fs vs → fs? fs = some l → AVf K W H l vs
  | _, _, _, .nil, e => by cases e; exact .nil
  | (f, x) :: r, (f', v) :: _, l, .cons h t, e => by
    cases x with
    | r n => simp [fs?] at e
    | d d =>
      unfold fs? at e
      cases q : fs? r with
      | none => rw [q] at e; cases e
      | some l2 =>
        rw [q] at e
        cases e
        obtain ⟨h1, h2⟩ := h
        obtain rfl : f = f' := h1
        cases h2 with
        | d h2 => exact .cons h2 (AVf_fs t q)
theorem mks_err {K : PySem.W.Frag} {Z : Wd} {ρ : List Addr} {S : Sto} {H H2 : Hp} {Wx : WX} {σ : St} {Q Q' : VK} {x : Addr} {C : Str} {fs : List (Str × D)} {T : Sto} (st : Sta K Z ρ S H) (k : ∀ a o, H a = some o → H2 a = some o) (g : Go ρ H (ρ ++ [x]) H2)
    (p : PostG (AX K) K Z ρ H Wx σ Q (trunc S.length (.err C fs T))) : PostG (AX K) K Z (ρ ++ [x]) H2 Wx σ Q' (.err C fs T) :=
  ErrP.shift g (fun a o h => ⟨o, k a o h⟩) (show ErrP K Z ρ H Wx σ C fs T from post_trunc st p)
theorem mks_F : Mks mkF := fun {K Z ρ S H H2 Wx σ Q x r} st hx k _ hn g p => by
  cases r with
  | bad => exact p
  | err C fs T => exact mks_err st k g p
  | ok y T =>
    cases y with
    | r n => exact p.elim
    | d d =>
      cases d with
      | non =>
        intro ρ1 H1 v s1 g1 a
        have p : PostG (AX K) K Z ρ H Wx σ Q (match frz T S.length, cut S.length T with
          | some d, some T => .ok (.d d) T
          | _, _ => .bad) := p
        cases a with
        | d a =>
          cases a with
          | non =>
            refine ⟨rfl, ?_⟩
            cases q1 : frz T S.length with
            | none => rw [q1] at p; exact p.elim
            | some d =>
              cases q2 : cut S.length T with
              | none => rw [q1, q2] at p; exact p.elim
              | some T' =>
                rw [q1, q2] at p
                have gg := g.trans g1
                have q2' := q2
                rw [st.len] at q2'
                obtain ⟨s2, g2, m⟩ := cut_sta st s1 gg q2'
                refine p ρ H1 (.ref x) s2 g2 (.d ?_)
                have ex : ρ1[S.length]? = some x := by
                  obtain ⟨t, rfl⟩ := g1.pre
                  rw [st.len, List.append_assoc, List.getElem?_append_right (Nat.le_refl _), Nat.sub_self]; rfl
                unfold frz at q1
                cases y : T[S.length]? with
                | none => rw [y] at q1; cases q1
                | some o =>
                  rw [y] at q1
                  have ob := s1.ob _ o x y ex
                  cases o with
                  | ins C fs =>
                    obtain ⟨l, h1, h2⟩ := Option.map_eq_some_iff.mp (show (fs? fs).map (D.obj C) = some d from q1)
                    subst h2
                    obtain ⟨dx, vs, h3, h4⟩ := ob
                    refine .obj (fun z => ?_) h3 ((AVf_fs h4 h1).mv m)
                    rcases z with z | z
                    · exact (s1.z x z).1 (List.mem_of_getElem? ex)
                    · exact hn z
                  | _ => cases q1
      | _ => exact p.elim
theorem mks_M : Mks mkM := fun {K Z ρ S H H2 Wx σ Q x r} st hx k _ hn g p => by
  cases r with
  | bad => exact p
  | err C fs T => exact mks_err st k g p
  | ok y T =>
    cases y with
    | r n => exact p.elim
    | d d =>
      cases d with
      | non =>
        intro ρ1 H1 v s1 g1 a
        cases a with
        | d a =>
          cases a with
          | non =>
            refine ⟨rfl, ?_⟩
            have p : PostG (AX K) K Z ρ H Wx σ Q (.ok (.r S.length) T) := p
            refine p ρ1 H1 (.ref x) s1 (g.trans g1) (.r ?_)
            obtain ⟨t, rfl⟩ := g1.pre
            rw [st.len, List.append_assoc, List.getElem?_append_right (Nat.le_refl _), Nat.sub_self]; rfl
      | _ => exact p.elim
theorem cal_make {C : Str} {g : List Bv.X → Sto → R Bv.X} {mk : Nat → R Bv.X → R Bv.X} (hm : Mks mk) (tk : Xq.Tk X Wx) (gu : X.A.guards = some []) (M : Mk X.K (He.ga X.K C) f) (F : FnG X.prog X.w X.K X.mg X.base k f fd ps (spE X.K (n + 1) g)) (hr : Room (k + 1) X.A) (hb : Binds X.K fd ps ds) (hd : Dft X.K dxs dvs ds) (hn : n - dvs.length + dvs.length = n := by rfl) :
    CalX X Wx (.ref (He.ga X.K C)) (n - dvs.length) (withD dxs (made C mk g)) := fun pins s σ H Q us vs Z ρ xs S I r st a hl p => by
  have I2 := Inv.made (C := He.ga X.K C) I
  have f1 : H (s.heap.objs.size + 1) = none := I.hok.fresh (Nat.le_succ _)
  have f2 : H s.heap.objs.size = none := I.hok.fresh (Nat.le_refl _)
  have fne : s.heap.objs.size ≠ s.heap.objs.size + 1 := Nat.ne_of_lt (Nat.lt_succ_self _)
  have kk : ∀ a o, H a = some o → (upd (upd H s.heap.objs.size (.own (s.heap.objs.size + 1))) (s.heap.objs.size + 1) (.ins (He.ga X.K C) s.heap.objs.size [])) a = some o := fun a o q => by
    rw [upd_ne (ne_of_none q f1), upd_ne (ne_of_none q f2)]; exact q
  obtain ⟨st2, g2⟩ := st.push (o' := .ins C []) f1 kk ⟨_, [], upd_same, .nil⟩
  have hx : s.heap.objs.size + 1 ∉ ρ := fun z => by
    obtain ⟨m, o, e1, e2⟩ := st.mem z
    obtain ⟨u, q⟩ := (st.ob m o _ e1 e2).there
    rw [f1] at q; cases q
  have p2 := hm st f1 kk (.inr trivial) hx g2 (show PostG (AX X.K) X.K Z ρ H Wx σ Q (mk S.length (g (.r S.length :: (xs ++ dxs.map .d)) (S ++ [.ins C []]))) from p)
  have a2 : AXs X.K (Wn Z (ρ ++ [s.heap.objs.size + 1])) (ρ ++ [s.heap.objs.size + 1]) _ (.r S.length :: (xs ++ dxs.map .d)) (V.ref (s.heap.objs.size + 1) :: (vs ++ dvs)) :=
    .cons (.r (by rw [st.len, List.getElem?_append_right (Nat.le_refl _), Nat.sub_self]; rfl)) (Paired.append (a.mv (g2.mv st) g2.pre) (hd.av _ _).axs)
  have hq := spE_of st2 a2 (n := n + 1) (by simp only [List.length_cons, List.length_append, hl]; omega) p2
  have r2 : Vals (V.ref (s.heap.objs.size + 1) :: (vs ++ dvs)) (Value.ref (s.heap.objs.size + 1) :: (us ++ ds)) := .cons rfl (r.append hd.va)
  have hl2 : (Value.ref (s.heap.objs.size + 1) :: us ++ ds).length = ps.length := by
    have e := r2.length
    rw [F.len _ _ _ _ hq] at e
    exact e.symm
  refine (make_map (f := f) I.kIn M.makes M.init (beq_iff_eq.mp M.fn) (codeAny_mono (F.run _ X.stack _ _ ⟨Value.ref (s.heap.objs.size + 1) :: us, []⟩ (Value.ref (s.heap.objs.size + 1) :: (us ++ ds)) _ _ (WE Wx σ) (gu_make gu) (hr.make _ us [])
    (I2.env0.make _ us []) (hb _ (Value.ref (s.heap.objs.size + 1) :: us) I2.kIn hl2) r2 hq) fun y s' hq' => ?_))
  cases y with
  | error e => exact Xq.passAt tk σ pins _ _ e s' I2 hq'
  | ok fl =>
    cases fl with
    | ret u =>
      obtain ⟨v, H', I3, rv, ev, q3⟩ := I2.after hq'
      subst ev
      exact ⟨rv, V.ref (s.heap.objs.size + 1), H', I3, rfl, q3⟩
    | next => exact False.elim hq'
    | brk => exact False.elim hq'
    | cont => exact False.elim hq'
end
end Bv
set_option Elab.async false
set_option linter.all false
set_option maxRecDepth 100000
set_option maxHeartbeats 4000000
/-! By value: call expressions; what is built in. -/
namespace Bv
open PySem PySem.Spec L2
open PyProof.Rows hiding St
variable [HasW]

def m_call (g : List Bv.X → Sto → R Bv.X) (ms : MG (List Bv.X)) : M := fun e S => (ms e S).bind g
/-- by number of arguments -/
def arity (n : Nat) (g : List Bv.X → Sto → R Bv.X) : List Bv.X → Sto → R Bv.X := fun xs S => if decide (xs.length = n) then g xs S else .bad
section
variable {X : Cx} {Wx : WX} {n : Nat} {f : Addr} {x : Str} {p pos apos : Pos} {e o : Expr} {es : List Expr} {ms : MG (List Bv.X)} {mo : M} {g : List Bv.X → Sto → R Bv.X}
theorem ari {rel : R Bv.X → Prop} {xs : List Bv.X} {S : Sto} (hb : ¬ rel .bad) (h : rel (arity n g xs S)) : xs.length = n ∧ rel (g xs S) := by
  unfold arity at h
  by_cases hn : xs.length = n
  · rw [if_pos (decide_eq_true hn)] at h; exact ⟨hn, h⟩
  · rw [if_neg (by simpa using hn)] at h; exact (hb h).elim
theorem me_call (c : CalX X Wx (.ref f) n g) (hg : Gl X x) (hm : X.mg x = some (.ref f)) (hk : PySem.W.keepIn X.K (.ref f) = true) (ha : MA X Wx (e :: es) ms) (hdb : (x == ("__debug__" : Str)) = false := by decide)
    (he : starEach (e :: es) X.env = (false, eval e X.env) :: starEach es X.env := by rfl) (hpl : (backTo pos (starEach es X.env)).any (·.1) = false := by rfl) : ME X Wx (.Call (.Name x p) (e :: es) [] pos) (m_call (arity n g) ms) := ⟨fun pins s σ H Q I ⟨Z, ρ, e, S, st, ev, q⟩ => by
  refine wpAny_Call_Name_kw (ld_glob I hg hm ?_ hdb)
  refine PySem.W.callWith_K (h₀ := X.base) I.ok.mod.kin hk (thn (ha.run pos pins s σ H _ I (tt_bind (R' := fun vs H1 => ∃ (ρ1 : List Addr) (xs : List Bv.X) (S1 : Sto), Sta X.K Z ρ1 S1 H1 ∧ AXs X.K (Wn Z ρ1) ρ1 H1 xs vs ∧ PostG (AX X.K) X.K Z ρ1 H1 Wx σ Q (arity n g xs S1)) st ev q fun ρ1 H1 v xs S1 s1 g1 ev1 a1 p1 => ⟨ρ1, xs, S1, s1, a1, p1⟩))
    fun us s1 ⟨vs, H1, I1, r, ρ1, xs, S1, st1, a1, p1⟩ => ⟨I1.kIn, ?_⟩) he hpl
  obtain ⟨hl, p2⟩ := ari (rel := PostG (AX X.K) X.K Z ρ1 H1 Wx σ Q) (fun z => z) p1
  exact wpAny_call (c pins s1 σ H1 Q us vs Z ρ1 xs S1 I1 r st1 a1 (by rw [← Paired.length a1]; exact hl) p2)⟩
theorem me_call0 (c : CalX X Wx (.ref f) 0 g) (hg : Gl X x) (hm : X.mg x = some (.ref f)) (hk : PySem.W.keepIn X.K (.ref f) = true) (hdb : (x == ("__debug__" : Str)) = false := by decide) : ME X Wx (.Call (.Name x p) [] [] pos) (m_call g m_nil) := ⟨fun pins s σ H Q I ⟨Z, ρ, e, S, st, ev, q⟩ => by
  refine wpAny_Call_Name_kw (ld_glob I hg hm ?_ hdb)
  exact PySem.W.callWith_K0 I.kIn hk (wpAny_call (c pins s σ H Q [] [] Z ρ [] S I .nil st .nil rfl q))⟩
/-! ### methods of own classes -/
def isOf (C m : Str) (S : Sto) : Bv.X → Bool
  | .d (.obj D fs) => decide (D = C) && (fs.lookup m).isNone
  | .d _ => false
  | .r n => match S[n]? with
    | some (.ins D fs) => decide (D = C) && (fs.lookup m).isNone
    | _ => false
theorem isOf_ins {K : PySem.W.Frag} {Z : Wd} {ρ : List Addr} {S : Sto} {H : Hp} {C m : Str} {y : Bv.X} {v : V} (st : Sta K Z ρ S H) (a : AX K (Wn Z ρ) ρ H y v) (h : isOf C m S y = true) : ∃ a dx fs, v = .ref a ∧ H a = some (.ins (He.ga K C) dx fs) ∧ fs.lookup m = none := by
  cases a with
  | d a =>
    cases a with
    | obj w r hs =>
      obtain ⟨h1, h2⟩ := Bool.and_eq_true_iff.mp h
      obtain rfl := of_decide_eq_true h1
      exact ⟨_, _, _, rfl, r, hs.none_of (Option.isNone_iff_eq_none.mp h2)⟩
    | _ => cases h
  | r e =>
    rename_i n q
    have h : (match S[n]? with
      | some (.ins D fs) => decide (D = C) && (fs.lookup m).isNone
      | _ => false) = true := h
    cases z : S[n]? with
    | none => rw [z] at h; cases h
    | some ob =>
      rw [z] at h
      cases ob with
      | ins D fs =>
        obtain ⟨h1, h2⟩ := Bool.and_eq_true_iff.mp (show (decide (D = C) && (fs.lookup m).isNone) = true from h)
        obtain rfl := of_decide_eq_true h1
        obtain ⟨dx, vs, h3, h4⟩ := st.ob n _ q z e
        exact ⟨_, _, _, rfl, h3, pairF_none h4 (Option.isNone_iff_eq_none.mp h2)⟩
      | _ => cases h
def m_meth (C m : Str) (g : List Bv.X → Sto → R Bv.X) (mo : M) (ms : MG (List Bv.X)) : M := fun e S => (mo e S).bind fun x S1 => if isOf C m S1 x then (ms e S1).bind fun xs S2 => g (x :: xs) S2 else .bad
theorem me_meth {C m : Str} {pl : Sem Bool} (cc : CalX X Wx (.ref f) n g) (c : Cls X.K (He.ga X.K C)) (hm : Meth X.K (He.ga X.K C) m f) (ho : ME X Wx o mo) (ha : MA X Wx (e :: es) ms)
    (hst : starEach (e :: es) X.env = (false, eval e X.env) :: starEach es X.env := by rfl) (hpl : (backTo pos (starEach es X.env)).any (·.1) = false := by rfl)
    (ht : eval (.Call (.Attribute o m apos) (e :: es) [] pos) X.env = (do
      let ov ← eval o X.env
      standAt apos.atName
      let (f, first) ← holding [ov] (getMethod ov m pl)
      callWith pos f first (backTo pos (starEach (e :: es) X.env)) (backToKw pos (keywordEach [] X.env))) := by rfl) : ME X Wx (.Call (.Attribute o m apos) (e :: es) [] pos) (m_meth C m (arity n g) mo ms) := ⟨fun pins s σ H Q I ⟨Z, ρ, e, S, st, ev, q⟩ => by
  refine PySem.W.methodCall_KW (pl := pl) (thn (ho.run pins s σ H _ I (tt_bind (R' := fun v H1 => ∃ (ρ1 : List Addr) (y : Bv.X) (S1 : Sto), Sta X.K Z ρ1 S1 H1 ∧ AX X.K (Wn Z ρ1) ρ1 H1 y v ∧ EvOk X.K (Wn Z ρ1) ρ1 H1 e σ ∧ isOf C m S1 y = true ∧ PostG (AX X.K) X.K Z ρ1 H1 Wx σ Q ((ms e S1).bind fun xs S2 => arity n g (y :: xs) S2)) st ev q
    fun ρ1 H1 v y S1 s1 g1 ev1 a1 p1 => by
      have p1 : PostG (AX X.K) X.K Z ρ1 H1 Wx σ Q (if isOf C m S1 y then (ms e S1).bind fun xs S2 => arity n g (y :: xs) S2 else .bad) := p1
      split at p1
      · rename_i hq; exact ⟨ρ1, y, S1, s1, a1, ev1, hq, p1⟩
      · exact p1.elim)) fun u s1 ⟨x, H1, I1, rx, ρ1, y, S1, st1, a1, ev1, hq, p1⟩ => ?_) ht
  obtain ⟨a, dx, fs, rfl, ea, l⟩ := isOf_ins st1 a1 hq
  obtain rfl : u = Value.ref a := rx
  refine getmeth_ok I1 ea c hm l ?_
  refine PySem.W.callWith_K (first := [.ref a]) (h₀ := X.base) I.ok.mod.kin hm.kp (thn (ha.run pos pins s1 σ H1 _ I1 (tt_bind (R' := fun vs H2 => ∃ (ρ2 : List Addr) (xs : List Bv.X) (S2 : Sto), Sta X.K Z ρ2 S2 H2 ∧ AX X.K (Wn Z ρ2) ρ2 H2 y (.ref a) ∧ AXs X.K (Wn Z ρ2) ρ2 H2 xs vs ∧ PostG (AX X.K) X.K Z ρ2 H2 Wx σ Q (arity n g (y :: xs) S2)) st1 ev1 p1
    fun ρ2 H2 v xs S2 s2 g2 ev2 a2 p2 => ⟨ρ2, xs, S2, s2, a1.mv (g2.mv st1) g2.pre, a2, p2⟩)) fun us s2 ⟨vs, H2, I2, r, ρ2, xs, S2, st2, b2, a2, p2⟩ => ⟨I2.kIn, ?_⟩) hst hpl
  obtain ⟨hl, p3⟩ := ari (rel := PostG (AX X.K) X.K Z ρ2 H2 Wx σ Q) (fun z => z) p2
  have aa : AXs X.K (Wn Z ρ2) ρ2 H2 (y :: xs) (V.ref a :: vs) := .cons b2 a2
  exact wpAny_call (cc pins s2 σ H2 Q (.ref a :: us) (.ref a :: vs) Z ρ2 (y :: xs) S2 I2 (.cons rfl r) st2 aa (by rw [← Paired.length aa]; exact hl) p3)⟩
theorem me_meth0 {C m : Str} {pl : Sem Bool} (cc : CalX X Wx (.ref f) 1 g) (c : Cls X.K (He.ga X.K C)) (hm : Meth X.K (He.ga X.K C) m f) (ho : ME X Wx o mo)
    (ht : eval (.Call (.Attribute o m apos) [] [] pos) X.env = (do
      let ov ← eval o X.env
      standAt apos.atName
      let (f, first) ← holding [ov] (getMethod ov m pl)
      callWith pos f first (backTo pos (starEach [] X.env)) (backToKw pos (keywordEach [] X.env))) := by rfl) : ME X Wx (.Call (.Attribute o m apos) [] [] pos) (m_meth C m g mo m_nil) := ⟨fun pins s σ H Q I ⟨Z, ρ, e, S, st, ev, q⟩ => by
  refine PySem.W.methodCall_KW (pl := pl) (thn (ho.run pins s σ H _ I (tt_bind (R' := fun v H1 => ∃ (ρ1 : List Addr) (y : Bv.X) (S1 : Sto), Sta X.K Z ρ1 S1 H1 ∧ AX X.K (Wn Z ρ1) ρ1 H1 y v ∧ isOf C m S1 y = true ∧ PostG (AX X.K) X.K Z ρ1 H1 Wx σ Q (g [y] S1)) st ev q
    fun ρ1 H1 v y S1 s1 g1 ev1 a1 p1 => by
      have p1 : PostG (AX X.K) X.K Z ρ1 H1 Wx σ Q (if isOf C m S1 y then g [y] S1 else .bad) := p1
      split at p1
      · rename_i hq; exact ⟨ρ1, y, S1, s1, a1, hq, p1⟩
      · exact p1.elim)) fun u s1 ⟨x, H1, I1, rx, ρ1, y, S1, st1, a1, hq, p1⟩ => ?_) ht
  obtain ⟨a, dx, fs, rfl, ea, l⟩ := isOf_ins st1 a1 hq
  obtain rfl : u = Value.ref a := rx
  refine getmeth_ok I1 ea c hm l ?_
  exact PySem.W.callWith_K0 (first := [.ref a]) I1.kIn hm.kp (wpAny_call (cc pins s1 σ H1 Q [.ref a] [.ref a] Z ρ1 [y] S1 I1 (.cons rfl .nil) st1 (.cons a1 .nil) rfl p1))⟩

/-! ### built-in functions -/
/-- a rule of the layer, by value -/
def BinX (K : PySem.W.Frag) (r : List V → Hp → VK → Prop) (g : List Bv.X → Sto → R Bv.X) : Prop := ∀ (Z : Wd) (ρ : List Addr) (S : Sto) (H : Hp) (Wx : WX) (σ : St) (xs : List Bv.X) (vs : List V) (Q : VK), Sta K Z ρ S H → AXs K (Wn Z ρ) ρ H xs vs → PostG (AX K) K Z ρ H Wx σ Q (g xs S) → r vs H Q
theorem CallR.or {fv : Value} {r r' : List V → Hp → VK → Prop} (h : CallR X fv r) (h' : CallR X fv r') : CallR X fv (fun xs H Q => r xs H Q ∨ r' xs H Q) := fun pins s σ H xs us Q I v q => q.elim (h pins s σ H xs us Q I v) (h' pins s σ H xs us Q I v)
theorem me_bin {id : String} {r : List V → Hp → VK → Prop} (hc : CallR X (.builtin id) r) (h : BinX X.K r g) (hg : Gl X x) (hm : X.mg x = none) (ha : MA X Wx (e :: es) ms) (hv : bootBuiltins x = some (.builtin id) := by rfl) (hn : x ≠ "__name__" := by decide) (hdb : (x == ("__debug__" : Str)) = false := by decide)
    (he : starEach (e :: es) X.env = (false, eval e X.env) :: starEach es X.env := by rfl) (hpl : (backTo pos (starEach es X.env)).any (·.1) = false := by rfl) : ME X Wx (.Call (.Name x p) (e :: es) [] pos) (m_call g ms) := PE.of (pe_callB hc hg hm hv ha hn hdb he hpl) fun σ H Q ⟨Z, ρ, e, S, st, ev, q⟩ =>
  tt_bind st ev q fun ρ1 H1 v xs S1 s1 g1 ev1 a1 p1 => h Z ρ1 S1 H1 Wx σ xs v Q s1 a1 p1
theorem me_bty {T : String} {r : List V → Hp → VK → Prop} (hc : CallR X (.type T) r) (h : BinX X.K r g) (hg : Gl X x) (hm : X.mg x = none) (ha : MA X Wx (e :: es) ms) (hv : bootBuiltins x = some (.type T) := by rfl) (hn : x ≠ "__name__" := by decide) (hdb : (x == ("__debug__" : Str)) = false := by decide)
    (he : starEach (e :: es) X.env = (false, eval e X.env) :: starEach es X.env := by rfl) (hpl : (backTo pos (starEach es X.env)).any (·.1) = false := by rfl) : ME X Wx (.Call (.Name x p) (e :: es) [] pos) (m_call g ms) := PE.of (pe_callTy hc hg hm hv ha hn hdb he hpl) fun σ H Q ⟨Z, ρ, e, S, st, ev, q⟩ =>
  tt_bind st ev q fun ρ1 H1 v xs S1 s1 g1 ev1 a1 p1 => h Z ρ1 S1 H1 Wx σ xs v Q s1 a1 p1
end
/-- a function of ints -/
def intsF (f : List Int → Option Int) : List Bv.X → Sto → R Bv.X := fun xs S => match (ints? xs).bind f with
  | some i => .ok (.d (.int i)) S
  | none => .bad
theorem intsF_inv {K : PySem.W.Frag} {Z : Wd} {ρ : List Addr} {S : Sto} {H : Hp} {Wx : WX} {σ : St} {Q : VK} {f : List Int → Option Int} {xs : List Bv.X} {vs : List V} (st : Sta K Z ρ S H) (a : AXs K (Wn Z ρ) ρ H xs vs) (h : PostG (AX K) K Z ρ H Wx σ Q (intsF f xs S)) : ∃ l i, vs = l.map V.int ∧ f l = some i ∧ Q (.int i) H := by
  unfold intsF at h
  cases q : (ints? xs).bind f with
  | none => rw [q] at h; exact h.elim
  | some i =>
    rw [q] at h
    obtain ⟨l, h1, h2⟩ := Option.bind_eq_some_iff.mp q
    exact ⟨l, i, ints_inv a h1, h2, PostG.ret0 h st (.d (.int i))⟩
def absI : List Int → Option Int
  | [i] => some (if i < 0 then -i else i)
  | _ => none
def minI : List Int → Option Int
  | [i, j] => some (if j < i then j else i)
  | _ => none
def maxI : List Int → Option Int
  | [i, j] => some (if j > i then j else i)
  | _ => none
section
variable {K : PySem.W.Frag}
theorem b_abs : BinX K (fun xs H Q => ∃ i, xs = [.int i] ∧ Q (.int (if i < 0 then -i else i)) H) (intsF absI) := fun Z ρ S H Wx σ xs vs Q st a h => by
  obtain ⟨l, i, e1, e2, q⟩ := intsF_inv st a h
  match l, e2 with
  | [j], e2 => cases e2; exact ⟨j, e1, q⟩
theorem b_min : BinX K (fun xs H Q => ∃ i j, xs = [.int i, .int j] ∧ Q (.int (if j < i then j else i)) H) (intsF minI) := fun Z ρ S H Wx σ xs vs Q st a h => by
  obtain ⟨l, i, e1, e2, q⟩ := intsF_inv st a h
  match l, e2 with
  | [j, k], e2 => cases e2; exact ⟨j, k, e1, q⟩
theorem b_max : BinX K (fun xs H Q => ∃ i j, xs = [.int i, .int j] ∧ Q (.int (if j > i then j else i)) H) (intsF maxI) := fun Z ρ S H Wx σ xs vs Q st a h => by
  obtain ⟨l, i, e1, e2, q⟩ := intsF_inv st a h
  match l, e2 with
  | [j, k], e2 => cases e2; exact ⟨j, k, e1, q⟩
/-- int() of an int, of a bool -/
def intF : List Bv.X → Sto → R Bv.X
  | [.d (.int i)], S => .ok (.d (.int i)) S
  | [.d (.bl b)], S => .ok (.d (.int (if b then 1 else 0))) S
  | _, _ => .bad
theorem one_d {W : Wd} {ρ : List Addr} {H : Hp} {d : D} {vs : List V} (a : AXs K W ρ H [.d d] vs) : ∃ v, vs = [v] ∧ AV K W H d v := by
  cases a with
  | cons h t =>
    cases t
    cases h with
    | d h => exact ⟨_, rfl, h⟩
theorem b_int : BinX K (fun xs H Q => (∃ i, xs = [.int i] ∧ Q (.int i) H) ∨ ∃ k, xs = [.bl k] ∧ Q (.int (if k then 1 else 0)) H) intF := fun Z ρ S H Wx σ xs vs Q st a h => by
  unfold intF at h
  split at h
  · rename_i j
    obtain ⟨v, rfl, b⟩ := one_d a
    have e : v = .int j := by cases b; rfl
    exact .inl ⟨_, by rw [e], PostG.ret0 h st (.d (.int _))⟩
  · rename_i j
    obtain ⟨v, rfl, b⟩ := one_d a
    have e : v = .bl j := by cases b; rfl
    exact .inr ⟨_, by rw [e], PostG.ret0 h st (.d (.int _))⟩
  · exact h.elim
/-- len() -/
def lenD : D → Option Int
  | .str z => if decide (z.length ≤ sizeLine) then some z.length else none
  | .scr ns => some ns.length
  | _ => none
def lenS (S : Sto) : Bv.X → Option Int
  | .d (.dic kvs) => some kvs.length
  | .d d => match items S (.d d) with
    | some ys => some ys.length
    | none => lenD d
  | .r n => match S[n]? with
    | some (.lst xs) => some xs.length
    | some (.dic kvs) => some kvs.length
    | some (.fdc kvs) => some kvs.length
    | _ => none
def lenF : List Bv.X → Sto → R Bv.X
  | [x], S => (match lenS S x with
    | some n => .ok (.d (.int n)) S
    | none => .bad)
  | _, _ => .bad
abbrev rLenA (K : PySem.W.Frag) : List V → Hp → VK → Prop := fun xs H Q => ((∃ p ys, xs = [.ref p] ∧ (SqL K H p ys ∨ SqT K H p ys) ∧ Q (.int ys.length) H) ∨ (∃ z, xs = [.str z] ∧ z.length ≤ sizeLine ∧ Q (.int z.length) H)) ∨ ∃ a kvs, xs = [V.ref a] ∧ Rd H a (.dK kvs) ∧ Q (.int kvs.length) H
theorem call_lenDR {X : Cx} : CallR X (.builtin "len") (fun xs H Q => ∃ a kvs, xs = [V.ref a] ∧ Rd H a (.dK kvs) ∧ Q (.int kvs.length) H) := fun pins s σ H xs us Q I r h => by
  obtain ⟨a, kvs, rfl, hd, q⟩ := h
  cases r with
  | cons r t =>
    cases t
    cases (show _ = Value.ref a from r)
    exact d_len I hd fun t s' I' => ⟨V.int kvs.length, H, I', ⟨t, rfl⟩, q⟩
theorem c_len {X : Cx} : CallR X (.builtin "len") (rLenA X.K) := CallR.or (CallR.or call_len_seq call_len_str) call_lenDR
theorem AVk.length {W : Wd} {H : Hp} : ∀ {ds : List (D × D)} {vs : List (Key × V)}, AVk K W H ds vs → ds.length = vs.length
  | _, _, .nil => rfl
  | _, _, .cons _ _ t => by simp [AVk.length t]
theorem b_len : BinX K (rLenA K) lenF := fun Z ρ S H Wx σ xs vs Q st a h => by
  unfold lenF at h
  split at h
  · rename_i x
    cases a with
    | cons ha t =>
      cases t
      cases q : lenS S x with
      | none => rw [q] at h; exact h.elim
      | some n =>
        rw [q] at h
        have hQ : Q (.int n) H := PostG.ret0 h st (.d (.int n))
        cases ha with
        | d ha =>
          cases ha with
          | dic w r hs => cases q; exact .inr ⟨_, _, rfl, .inr ⟨_, r⟩, by rw [← hs.length]; exact hQ⟩
          | lst w r hs =>
            rw [show lenS S (.d (.lst _)) = some ((List.map Bv.X.d _).length : Int) from rfl, List.length_map] at q
            cases q; exact .inl (.inl ⟨_, _, rfl, .inl (.inl (.inl r)), by rw [← hs.length]; exact hQ⟩)
          | tup r hs =>
            rw [show lenS S (.d (.tup _)) = some ((List.map Bv.X.d _).length : Int) from rfl, List.length_map] at q
            cases q; exact .inl (.inl ⟨_, _, rfl, .inr r.sq, by rw [← hs.length]; exact hQ⟩)
          | scr r =>
            rename_i q' ns
            cases q
            exact .inl (.inl ⟨_, ns.map V.int, rfl, .inl r.sl, by rw [List.length_map]; exact hQ⟩)
          | str hz =>
            rename_i z
            have q : (if decide (z.length ≤ sizeLine) then some (z.length : Int) else none) = some n := q
            obtain ⟨h1, h2⟩ := ite_some q
            cases h2
            exact .inl (.inr ⟨z, rfl, of_decide_eq_true h1, hQ⟩)
          | _ => cases q
        | r e =>
          rename_i m b
          have q : (match S[m]? with
            | some (.lst xs) => some (xs.length : Int)
            | some (.dic kvs) => some (kvs.length : Int)
            | some (.fdc kvs) => some (kvs.length : Int)
            | _ => none) = some n := q
          cases z : S[m]? with
          | none => rw [z] at q; cases q
          | some o =>
            rw [z] at q
            have ob := st.ob m o b z e
            cases o with
            | lst xs =>
              cases q
              obtain ⟨vs, h3, h4⟩ := ob
              exact .inl (.inl ⟨_, vs, rfl, .inl (.inl (.inl h3)), by rw [← Paired.length h4]; exact hQ⟩)
            | dic xs =>
              cases q
              obtain ⟨vs, h3, h4⟩ := ob
              exact .inr ⟨_, vs, rfl, .inl h3, by rw [← Paired.length h4]; exact hQ⟩
            | fdc xs =>
              cases q
              obtain ⟨o, vs, h3, h4⟩ := ob
              exact .inr ⟨_, vs, rfl, .inr ⟨o, h3⟩, by rw [← Paired.length h4]; exact hQ⟩
            | _ => cases q
  · exact h.elim
/-- list(), as data; as a new list of the store -/
def listD : List Bv.X → Sto → R Bv.X
  | [x], S => (match (items S x).bind ds? with
    | some ds => .ok (.d (.lst ds)) S
    | none => .bad)
  | _, _ => .bad
def listN : List Bv.X → Sto → R Bv.X
  | [x], S => (match items S x with
    | some ys => .ok (.r S.length) (S ++ [.lst ys])
    | none => .bad)
  | _, _ => .bad
abbrev rListOf (K : PySem.W.Frag) : List V → Hp → VK → Prop := fun xs H Q => ∃ p ys, xs = [.ref p] ∧ (SqL K H p ys ∨ SqT K H p ys) ∧ ∀ l, H l = none → Q (.ref l) (upd H l (.lst ys))
theorem b_listD : BinX K (rListOf K) listD := fun Z ρ S H Wx σ xs vs Q st a h => by
  unfold listD at h
  split at h
  · rename_i x
    cases a with
    | cons ha t =>
      cases t
      cases q : (items S x).bind ds? with
      | none => rw [q] at h; exact h.elim
      | some ds =>
        rw [q] at h
        obtain ⟨ys, h1, h2⟩ := Option.bind_eq_some_iff.mp q
        obtain ⟨b, us, rfl, hq, hp⟩ := ha.items st h1
        exact ⟨b, us, rfl, hq.symm, fun l hl => PostG.ret h st (upd_keep hl) (.d (new_lst (fun z hz => st.thereW hz) hl (AXs.ds hp h2)))⟩
  · exact h.elim
theorem b_listN : BinX K (rListOf K) listN := fun Z ρ S H Wx σ xs vs Q st a h => by
  unfold listN at h
  split at h
  · rename_i x
    cases a with
    | cons ha t =>
      cases t
      cases q : items S x with
      | none => rw [q] at h; exact h.elim
      | some ys =>
        rw [q] at h
        obtain ⟨b, us, rfl, hq, hp⟩ := ha.items st q
        refine ⟨b, us, rfl, hq.symm, fun l hl => ?_⟩
        obtain ⟨s2, g2⟩ := st.pushL hl hp
        exact h _ _ _ s2 g2 (.r (by rw [st.len, List.getElem?_append_right (Nat.le_refl _), Nat.sub_self]; rfl))
  · exact h.elim
/-- tuple() -/
def tupF : List Bv.X → Sto → R Bv.X
  | [x], S => (match (items S x).bind ds? with
    | some ds => .ok (.d (.tup ds)) S
    | none => .bad)
  | _, _ => .bad
abbrev rTupOf (K : PySem.W.Frag) : List V → Hp → VK → Prop := fun xs H Q => ∃ p ys, xs = [.ref p] ∧ ((SqL K H p ys ∧ ∀ l, H l = none → Q (.ref l) (upd H l (.tup ys))) ∨ (SqT K H p ys ∧ Q (.ref p) H))
theorem b_tup : BinX K (rTupOf K) tupF := fun Z ρ S H Wx σ xs vs Q st a h => by
  unfold tupF at h
  split at h
  · rename_i x
    cases a with
    | cons ha t =>
      cases t
      cases q : (items S x).bind ds? with
      | none => rw [q] at h; exact h.elim
      | some ds =>
        rw [q] at h
        obtain ⟨ys, h1, h2⟩ := Option.bind_eq_some_iff.mp q
        have fin : ∀ {b us}, SqL K H b us → AXs K (Wn Z ρ) ρ H ys us → ∀ l, H l = none → Q (.ref l) (upd H l (.tup us)) := fun hq hp l hl => PostG.ret h st (upd_keep hl) (.d (new_tup (fun z hz => st.thereW hz) hl (AXs.ds hp h2)))
        cases ha with
        | r e =>
          obtain ⟨b, us, e1, hq, hp⟩ := (AX.r e).items st h1
          cases e1
          rename_i m _
          have h1' : (match S[m]? with
            | some (.lst xs) => some xs
            | _ => none) = some ys := h1
          cases z : S[m]? with
          | none => rw [z] at h1'; cases h1'
          | some o =>
            rw [z] at h1'
            cases o with
            | lst xs =>
              cases h1'
              obtain ⟨vs, h3, h4⟩ := st.ob m _ _ z e
              exact ⟨_, vs, rfl, .inl ⟨.inl (.inl h3), fin (.inl (.inl h3)) h4⟩⟩
            | _ => cases h1'
        | d ha =>
          cases ha with
          | lst w r hs => cases h1; exact ⟨_, _, rfl, .inl ⟨.inl (.inl r), fin (.inl (.inl r)) hs.axs⟩⟩
          | tup r hs =>
            cases h1
            rename_i ds2
            have e3 : ∀ (l : List D), ds? (l.map Bv.X.d) = some l := fun l => by
              induction l with
              | nil => rfl
              | cons d r ih => simp [ds?, ih]
            rw [e3] at h2
            cases h2
            exact ⟨_, _, rfl, .inr ⟨r.sq, PostG.ret0 h st (.d (.tup r hs))⟩⟩
          | _ => cases h1
  · exact h.elim
/-- all(), any(), sum() of a list -/
def bls? : List Bv.X → Option (List Bool)
  | [] => some []
  | .d (.bl b) :: r => (bls? r).map (b :: ·)
  | _ :: _ => none
theorem bls_inv {W : Wd} {ρ : List Addr} {H : Hp} : ∀ {xs : List Bv.X} {vs : List V} {l : List Bool}, AXs K W ρ H xs vs → bls? xs = some l → vs = l.map V.bl
  | _, _, _, .nil, e => by cases e; rfl
  | x :: r, _, l, .cons h t, e => by
    cases x with
    | r n => simp [bls?] at e
    | d d =>
      cases d with
      | bl b =>
        obtain ⟨l2, h1, h2⟩ := Option.map_eq_some_iff.mp (show (bls? r).map (b :: ·) = some l from e)
        subst h2
        cases h with
        | d h => cases h; rw [bls_inv t h1]; rfl
      | _ => simp [bls?] at e
def isLst (S : Sto) : Bv.X → Bool
  | .d (.lst _) => true
  | .r n => match S[n]? with
    | some (.lst _) => true
    | _ => false
  | _ => false
theorem AX.itemsL {Z : Wd} {ρ : List Addr} {S : Sto} {H : Hp} {x : Bv.X} {v : V} {ys : List Bv.X} (st : Sta K Z ρ S H) (h : AX K (Wn Z ρ) ρ H x v) (e : Bv.items S x = some ys) (hl : isLst S x = true) : ∃ q xs, v = .ref q ∧ H q = some (.lst xs) ∧ AXs K (Wn Z ρ) ρ H ys xs := by
  cases h with
  | d h =>
    cases h with
    | lst w r hs => cases e; exact ⟨_, _, rfl, r, hs.axs⟩
    | _ => cases hl
  | r h =>
    rename_i n q
    have e1 : (match S[n]? with
      | some (.lst xs) => some xs
      | _ => none) = some ys := e
    cases z : S[n]? with
    | none => rw [z] at e1; cases e1
    | some o =>
      rw [z] at e1
      cases o with
      | lst xs =>
        cases e1
        obtain ⟨vs, h1, h2⟩ := st.ob n _ q z h
        exact ⟨q, vs, rfl, h1, h2⟩
      | _ => cases e1
def blsF (f : List Bool → Bool) : List Bv.X → Sto → R Bv.X
  | [x], S => if isLst S x then (match (items S x).bind bls? with
    | some l => .ok (.d (.bl (f l))) S
    | none => .bad) else .bad
  | _, _ => .bad
theorem blsF_inv {f : List Bool → Bool} {Z : Wd} {ρ : List Addr} {S : Sto} {H : Hp} {Wx : WX} {σ : St} {Q : VK} {xs : List Bv.X} {vs : List V} (st : Sta K Z ρ S H) (a : AXs K (Wn Z ρ) ρ H xs vs) (h : PostG (AX K) K Z ρ H Wx σ Q (blsF f xs S)) : ∃ a bs, vs = [V.ref a] ∧ SqL K H a (bs.map V.bl) ∧ Q (.bl (f bs)) H := by
  unfold blsF at h
  split at h
  · rename_i x
    split at h
    · rename_i hl
      cases a with
      | cons ha t =>
        cases t
        cases q : (items S x).bind bls? with
        | none => rw [q] at h; exact h.elim
        | some l =>
          rw [q] at h
          obtain ⟨ys, h1, h2⟩ := Option.bind_eq_some_iff.mp q
          obtain ⟨b, us, rfl, hq, hp⟩ := ha.itemsL st h1 hl
          rw [bls_inv hp h2] at hq
          exact ⟨b, l, rfl, .inl (.inl hq), PostG.ret0 h st (.d (.bl _))⟩
    · exact h.elim
  · exact h.elim
theorem b_all : BinX K (rAll K) (blsF fun l => l.all id) := fun Z ρ S H Wx σ xs vs Q st a h => blsF_inv st a h
theorem b_any : BinX K (rAny K) (blsF fun l => l.any id) := fun Z ρ S H Wx σ xs vs Q st a h => blsF_inv st a h
def sumF : List Bv.X → Sto → R Bv.X
  | [x], S => if isLst S x then (match (items S x).bind ints? with
    | some l => .ok (.d (.int l.sum)) S
    | none => .bad) else .bad
  | _, _ => .bad
theorem b_sum : BinX K (rSum K) sumF := fun Z ρ S H Wx σ xs vs Q st a h => by
  unfold sumF at h
  split at h
  · rename_i x
    split at h
    · rename_i hl
      cases a with
      | cons ha t =>
        cases t
        cases q : (items S x).bind ints? with
        | none => rw [q] at h; exact h.elim
        | some l =>
          rw [q] at h
          obtain ⟨ys, h1, h2⟩ := Option.bind_eq_some_iff.mp q
          obtain ⟨b, us, rfl, hq, hp⟩ := ha.itemsL st h1 hl
          rw [ints_inv hp h2] at hq
          exact ⟨b, l, rfl, .inl (.inl hq), PostG.ret0 h st (.d (.int _))⟩
    · exact h.elim
  · exact h.elim
end
end Bv
set_option Elab.async false
set_option linter.all false
set_option maxRecDepth 100000
set_option maxHeartbeats 4000000
/-! By value: slices, stores into lists, methods of lists and texts, two names at once. -/
namespace Bv
open PySem PySem.Spec L2
open PyProof.Rows hiding St
variable [HasW]

/-! ### slices -/
abbrev relI : Wd → List Addr → Hp → Option Int → Option Int → Prop := fun _ _ _ b c => b = c
abbrev MO (X : Cx) (Wx : WX) (e : Option Expr) (m : MG (Option Int)) : Prop := PO X e (RG relI X.K Wx m)
def m_no : MG (Option Int) := fun _ S => .ok none S
def m_part (m : M) : MG (Option Int) := fun e S => (m e S).bind fun x S1 => optR ((intX x).map some) S1
def cutL {α : Type} (xs : List α) (lo hi : Option Int) : List α := (xs.drop (HT.sIx xs.length 0 lo)).take (HT.sIx xs.length xs.length hi - HT.sIx xs.length 0 lo)
def slX (S : Sto) (x : X) (lo hi : Option Int) : Option X := match x with
  | .d (.lst ds) => some (.d (.lst (cutL ds lo hi)))
  | .d (.tup ds) => some (.d (.tup (cutL ds lo hi)))
  | .d (.scr ns) => some (.d (.lst ((cutL ns lo hi).map .int)))
  | .d (.str z) => if decide (z.length ≤ sizeLine) then some (.d (.str ⟨(cutL z.cps.toList lo hi).toArray⟩)) else none
  | .r n => (match S[n]? with
    | some (.lst xs) => (ds? (cutL xs lo hi)).map fun ds => .d (.lst ds)
    | _ => none)
  | _ => none
def m_slice (m : M) (ml mh : MG (Option Int)) : M := fun e S => (m e S).bind fun x S1 => (ml e S1).bind fun l S2 => (mh e S2).bind fun h S3 => optR (slX S3 x l h) S3
section
variable {X : Cx} {Wx : WX} {pos p p2 apos : Pos} {a b c o i e : Expr} {lo hi : Option Expr} {ma mb mc m mo mi : M} {ml mh : MG (Option Int)} {ms : MG (List Bv.X)}
theorem PO.of {e : Option Expr} {t t' : TO} (h : PO X e t) (w : ∀ σ H Q, t' σ H Q → t σ H Q) : PO X e t' := ⟨fun pins s σ H Q I q => h.run pins s σ H Q I (w σ H Q q)⟩
theorem mo_none : MO X Wx none m_no := PO.of po_none fun σ H Q ⟨Z, ρ, e, S, st, ev, p⟩ => PostG.ret0 p st rfl
theorem mo_some (h : ME X Wx a m) : MO X Wx (some a) (m_part m) := PO.of (po_some h) fun σ H Q ⟨Z, ρ, e, S, st, ev, p⟩ => tt_bind st ev p fun ρ1 H1 v x S1 s1 g1 ev1 a1 p1 => by
  obtain ⟨o, ho, p2⟩ := p1.opt
  obtain ⟨j, h1, h2⟩ := Option.map_eq_some_iff.mp ho
  subst h2
  exact ⟨j, a1.int h1, PostG.ret0 p2 s1 rfl⟩
theorem AVs.cutV {K : PySem.W.Frag} {W : Wd} {H : Hp} {ds : List D} {vs : List V} (h : AVs K W H ds vs) (lo hi : Option Int) : AVs K W H (cutL ds lo hi) (L2.cutV vs lo hi) := by
  unfold cutL L2.cutV
  rw [h.length]
  exact (h.drop _).take _
theorem AXs.takeP {α β : Type} {F : α → β → Prop} : ∀ {l : List α} {r : List β} (n : Nat), Paired F l r → Paired F (l.take n) (r.take n)
  | _, _, 0, _ => .nil
  | _, _, _ + 1, .nil => .nil
  | _, _, n + 1, .cons x t => .cons x (AXs.takeP n t)
theorem AXs.dropP {α β : Type} {F : α → β → Prop} : ∀ {l : List α} {r : List β} (n : Nat), Paired F l r → Paired F (l.drop n) (r.drop n)
  | _, _, 0, t => t
  | _, _, _ + 1, .nil => .nil
  | _, _, n + 1, .cons x t => AXs.dropP n t
theorem pair_cut {F : Bv.X → V → Prop} {l : List Bv.X} {r : List V} (h : Paired F l r) (lo hi : Option Int) : Paired F (cutL l lo hi) (L2.cutV r lo hi) := by
  unfold cutL L2.cutV
  rw [Paired.length h]
  exact AXs.takeP _ (AXs.dropP _ h)
theorem cut_map {α β : Type} (f : α → β) (xs : List α) (lo hi : Option Int) : cutL (xs.map f) lo hi = (cutL xs lo hi).map f := by
  unfold cutL
  rw [List.length_map, List.map_take, List.map_drop]
theorem cutL_mem {α : Type} {xs : List α} {lo hi : Option Int} {a : α} (h : a ∈ cutL xs lo hi) : a ∈ xs := List.mem_of_mem_drop (List.mem_of_mem_take h)
theorem me_slice (he : ME X Wx a m) (hl : MO X Wx lo ml) (hh : MO X Wx hi mh) : ME X Wx (.Subscript a (.Slice lo hi none p2) pos) (m_slice m ml mh) := PE.of (pe_slice (SlR.or (SlR.or sl_list sl_tupA) sl_str) he hl hh) fun σ H Q ⟨Z, ρ, e, S, st, ev, p⟩ => by
  refine tt_bind st ev p fun ρ1 H1 v x S1 s1 g1 ev1 a1 p1 => ?_
  refine tt_bind (rel := relI) s1 ev1 p1 fun ρ2 H2 l l' S2 s2 g2 ev2 e2 p2 => ?_
  refine tt_bind (rel := relI) s2 ev2 p2 fun ρ3 H3 h h' S3 s3 g3 ev3 e3 p3 => ?_
  cases (show l' = l from e2)
  cases (show h' = h from e3)
  have a3 := (a1.mv (g2.mv s1) g2.pre).mv (g3.mv s2) g3.pre
  obtain ⟨y, hy, p4⟩ := p3.opt
  clear p3 p2 p1 p a1
  have lst : ∀ {q : Addr} {xs : List V} {ds : List D}, SqL X.K H3 q xs → AVs X.K (Wn Z ρ3) H3 ds xs → y = .d (.lst (cutL ds l h)) → ∃ a xs, V.ref q = .ref a ∧ SqL X.K H3 a xs ∧ ∀ p, H3 p = none → Q (.ref p) (upd H3 p (.lst (L2.cutV xs l h))) := fun {q xs ds} hq hs ey => by
    subst ey
    exact ⟨q, xs, rfl, hq, fun p hp => PostG.ret p4 s3 (upd_keep hp) (.d (new_lst (fun z hz => s3.thereW hz) hp (hs.cutV l h)))⟩
  cases a3 with
  | d a =>
    cases a with
    | lst w r hs => cases hy; exact .inl (.inl (lst (.inl (.inl r)) hs rfl))
    | scr r =>
      rename_i q ns
      cases hy
      exact .inl (.inl (lst r.sl (avs_ints ns) (by rw [cut_map])))
    | tup t hs =>
      rename_i q xs ds
      cases hy
      refine .inl (.inr ⟨_, xs, rfl, t.sq, fun hw => ?_, fun _ p hp => PostG.ret p4 s3 (upd_keep hp) (.d (new_tup (fun z hz => s3.thereW hz) hp (hs.cutV l h)))⟩)
      have e0 : cutL ds l h = ds := by
        unfold cutL
        rw [hs.length, hw.1, hw.2, List.drop_zero, Nat.sub_zero, ← hs.length, List.take_length]
      rw [e0] at p4
      exact PostG.ret0 p4 s3 (.d (.tup t hs))
    | str hz =>
      rename_i z
      have hy : (if decide (z.length ≤ sizeLine) then some (Bv.X.d (.str ⟨(cutL z.cps.toList l h).toArray⟩)) else none) = some y := hy
      obtain ⟨h1, h2⟩ := ite_some hy
      cases h2
      refine .inr ⟨z, rfl, of_decide_eq_true h1, ?_⟩
      have e0 : cutS z l h = ⟨(cutL z.cps.toList l h).toArray⟩ := by
        unfold cutS cutL
        rw [show z.cps.toList.length = z.length from by simp [Str.length]]
      rw [e0]
      exact PostG.ret0 p4 s3 (.d (.str (strOk_of fun c m => strOk_mem hz (cutL_mem (by simpa using m)))))
    | _ => cases hy
  | r hr =>
    rename_i n q
    have hy : (match S3[n]? with
      | some (.lst xs) => (ds? (cutL xs l h)).map fun ds => Bv.X.d (.lst ds)
      | _ => none) = some y := hy
    cases z : S3[n]? with
    | none => rw [z] at hy; cases hy
    | some ob =>
      rw [z] at hy
      cases ob with
      | lst xs =>
        obtain ⟨ds, h1, h2⟩ := Option.map_eq_some_iff.mp (show (ds? (cutL xs l h)).map (fun ds => Bv.X.d (.lst ds)) = some y from hy)
        subst h2
        obtain ⟨vs, h3, h4⟩ := s3.ob n _ q z hr
        exact .inl (.inl ⟨q, vs, rfl, .inl (.inl h3), fun p hp => PostG.ret p4 s3 (upd_keep hp) (.d (new_lst (fun z hz => s3.thereW hz) hp (AXs.ds (pair_cut h4 l h) h1)))⟩)
      | _ => cases hy

/-! ### xs[i] = e -/
def setO (S : Sto) (o i v : Bv.X) : Option Sto := match o, intX i with
  | .r n, some k => (match S[n]? with
    | some (.lst xs) => (ixN xs.length k).map fun j => S.set n (.lst (xs.set j v))
    | _ => none)
  | _, _ => none
def s_sub (mo mi m : M) : MS := fun e S => (m e S).so e fun v S1 => (mo e S1).so e fun o S2 => (mi e S2).so e fun i S3 => match setO S3 o i v with
  | some S4 => .go (.nx e) S4
  | none => .bad
theorem Paired.setP {α β : Type} {F : α → β → Prop} {a : α} {b : β} (h : F a b) : ∀ {l : List α} {r : List β} (j : Nat), Paired F l r → Paired F (l.set j a) (r.set j b)
  | _, _, _, .nil => .nil
  | _, _, 0, .cons _ t => .cons h t
  | _, _, j + 1, .cons x t => .cons x (Paired.setP h j t)
/-- a list of the store is changed -/
theorem Sta.putL {K : PySem.W.Frag} {Z : Wd} {ρ : List Addr} {S : Sto} {H : Hp} {n : Nat} {q : Addr} {xs : List Bv.X} {vs us : List V} (s : Sta K Z ρ S H) (hn : ρ[n]? = some q) (hq : H q = some (.lst us)) (a : AXs K (Wn Z ρ) ρ H xs vs) : Sta K Z ρ (S.set n (.lst xs)) (upd H q (.lst vs)) ∧ Go ρ H ρ (upd H q (.lst vs)) :=
  s.put hn (fun _ _ z => by rw [hq] at z; cases z) ⟨vs, upd_same, AXs.mv (fun b o h z => ⟨h, by rw [upd_ne (fun y => h (.inr (by rw [y]; exact List.mem_of_getElem? hn)))]; exact z⟩) (List.prefix_refl _) a⟩
theorem mp_sub (ho : ME X Wx o mo) (hi : ME X Wx i mi) (ha : ME X Wx a m) (hs : swapsWithSole [.Subscript o i p] a pos.line X.env = pure false := by rfl) (hw : swappedStores [.Subscript o i p] a X.env = pure none := by rfl)
    (h1 : (assignEach [.Subscript o i p] X.env).map (·.2) = [assign (.Subscript o i p) X.env] := by rfl)
    (h2 : ∀ v, assign (.Subscript o i p) X.env v = (do
      let ov ← holding [v] (eval o X.env)
      let iv ← holding [v, ov] (eval i X.env)
      standAt p
      holding [v, ov, iv] (setItem ov iv v)
      release [v, ov, iv] []) := by intro _; rfl) : MP X Wx (.Assign [.Subscript o i p] a pos) (s_sub mo mi m) := PS.of (ps_asg ha (pg_sub ho hi set_list h2) hs hw h1) fun D σ H ⟨Z, ρ, e, S, st, ev, q⟩ => by
  refine so_bind st ev q fun ρ1 H1 v x S1 s1 g1 ev1 a1 q1 => ?_
  refine so_bind s1 ev1 q1 fun ρ2 H2 ov y S2 s2 g2 ev2 a2 q2 => ?_
  refine so_bind s2 ev2 q2 fun ρ3 H3 iv z S3 s3 g3 ev3 a3 q3 => ?_
  have b1 := (a1.mv (g2.mv s1) g2.pre).mv (g3.mv s2) g3.pre
  have b2 := a2.mv (g3.mv s2) g3.pre
  cases q4 : setO S3 y z x with
  | none => rw [q4] at q3; exact q3.elim
  | some S4 =>
    rw [q4] at q3
    cases y with
    | d d => cases q4
    | r n =>
      have q4 : (match intX z with
        | some k => (match S3[n]? with
          | some (.lst xs) => (ixN xs.length k).map fun j => S3.set n (.lst (xs.set j x))
          | _ => none)
        | none => none) = some S4 := by
        cases hz : intX z with
        | none => simp [setO, hz] at q4
        | some k => simp only [setO, hz] at q4; exact q4
      cases hz : intX z with
      | none => rw [hz] at q4; cases q4
      | some k =>
        rw [hz] at q4
        have q4 : (match S3[n]? with
          | some (.lst xs) => (ixN xs.length k).map fun j => S3.set n (.lst (xs.set j x))
          | _ => none) = some S4 := q4
        cases hs : S3[n]? with
        | none => rw [hs] at q4; cases q4
        | some ob =>
          rw [hs] at q4
          cases ob with
          | lst xs =>
            obtain ⟨j, h1, h2⟩ := Option.map_eq_some_iff.mp (show (ixN xs.length k).map (fun j => S3.set n (.lst (xs.set j x))) = some S4 from q4)
            subst h2
            cases b2 with
            | r b2 =>
              rename_i q
              obtain ⟨vs, h3, h4⟩ := s3.ob n _ q hs b2
              have e3 := a3.int hz
              subst e3
              obtain ⟨s5, g5⟩ := s3.putL b2 h3 (Paired.setP b1 j h4)
              exact ⟨q, vs, k, j, rfl, rfl, h3, by rw [← Paired.length h4]; exact h1, q3 ρ3 _ σ s5 g5 (ev3.mv (g5.mv s3) g5.pre)⟩
          | _ => cases q4

/-! ### methods of lists -/
def m_bm (ty : Sto → Bv.X → Bool) (g : Bv.X → List Bv.X → Sto → R Bv.X) (mo : M) (ms : MG (List Bv.X)) : M := fun e S => (mo e S).bind fun x S1 => if ty S1 x then (ms e S1).bind fun xs S2 => g x xs S2 else .bad
/-- a method's rule, by value -/
def MtX (K : PySem.W.Frag) (r : V → List V → Hp → VK → Prop) (g : Bv.X → List Bv.X → Sto → R Bv.X) : Prop := ∀ (Z : Wd) (ρ : List Addr) (S : Sto) (H : Hp) (Wx : WX) (σ : L2.St) (x : Bv.X) (v : V) (xs : List Bv.X) (vs : List V) (Q : VK), Sta K Z ρ S H → AX K (Wn Z ρ) ρ H x v → AXs K (Wn Z ρ) ρ H xs vs → PostG (AX K) K Z ρ H Wx σ Q (g x xs S) → r v vs H Q
theorem isLst_ty {Z : Wd} {ρ : List Addr} {S : Sto} {H : Hp} {x : Bv.X} {v : V} (st : Sta X.K Z ρ S H) (a : AX X.K (Wn Z ρ) ρ H x v) (h : isLst S x = true) : tyV X.K "list" v H := by
  cases a with
  | d a =>
    cases a with
    | lst w r hs => exact .inl ⟨rfl, _, .inl (.inl r)⟩
    | _ => cases h
  | r e =>
    rename_i n q
    have h : (match S[n]? with
      | some (.lst _) => true
      | _ => false) = true := h
    cases z : S[n]? with
    | none => rw [z] at h; cases h
    | some ob =>
      rw [z] at h
      cases ob with
      | lst xs =>
        obtain ⟨vs, h3, _⟩ := st.ob n _ q z e
        exact .inl ⟨rfl, vs, .inl (.inl h3)⟩
      | _ => cases h
variable {es : List Expr} {id : String} {name : Str} {r : V → List V → Hp → VK → Prop} {g : Bv.X → List Bv.X → Sto → R Bv.X} {cpos : Pos}
theorem me_lm (slot : Slot "list" name id) (hty : typeOf (.builtin id) = pure (.type "method_descriptor")) (hm : MtR X id r) (h : MtX X.K r g) (ho : ME X Wx o mo) (ha : MA X Wx (e :: es) ms) (hbase : attributeBase o name X.env (eval o X.env) = eval o X.env := by rfl)
    (hfew : ((backTo cpos (starEach (e :: es) X.env)).all (fun x => !x.1) && (backToKw cpos (keywordEach [] X.env)).all (fun x => x.1.isSome)
      && decide ((e :: es).length + ([] : List Keyword).length + (if ([] : List Keyword).isEmpty then 0 else 1) < 30)) = true := by rfl)
    (hline : (apos.endLine == cpos.line) = true := by rfl) (hs : starEach (e :: es) X.env = (false, eval e X.env) :: starEach es X.env := by rfl) (hplain : (backTo cpos (starEach es X.env)).any (·.1) = false := by rfl) :
    ME X Wx (.Call (.Attribute o name apos) (e :: es) [] cpos) (m_bm isLst g mo ms) := PE.of (pe_bm PySem.F.plainAttrs_list slot hty hm ho ha hbase hfew hline hs hplain) fun σ H Q ⟨Z, ρ, e, S, st, ev, p⟩ => tt_bind st ev p fun ρ1 H1 v x S1 s1 g1 ev1 a1 p1 => by
  have p1 : PostG (AX X.K) X.K Z ρ1 H1 Wx σ Q (if isLst S1 x then (ms e S1).bind fun xs S2 => g x xs S2 else .bad) := p1
  split at p1
  · rename_i hl
    exact ⟨isLst_ty s1 a1 hl, tt_bind s1 ev1 p1 fun ρ2 H2 vs xs S2 s2 g2 ev2 a2 p2 => h Z ρ2 S2 H2 Wx σ x v xs vs Q s2 (a1.mv (g2.mv s1) g2.pre) a2 p2⟩
  · exact p1.elim
theorem me_lm0 (slot : Slot "list" name id) (hty : typeOf (.builtin id) = pure (.type "method_descriptor")) (hm : MtR X id r) (h : MtX X.K r g) (ho : ME X Wx o mo) (hbase : attributeBase o name X.env (eval o X.env) = eval o X.env := by rfl) (hline : (apos.endLine == cpos.line) = true := by rfl) :
    ME X Wx (.Call (.Attribute o name apos) [] [] cpos) (m_bm isLst g mo m_nil) := PE.of (pe_bm0 PySem.F.plainAttrs_list slot hty hm ho hbase hline) fun σ H Q ⟨Z, ρ, e, S, st, ev, p⟩ => tt_bind st ev p fun ρ1 H1 v x S1 s1 g1 ev1 a1 p1 => by
  have p1 : PostG (AX X.K) X.K Z ρ1 H1 Wx σ Q (if isLst S1 x then g x [] S1 else .bad) := p1
  split at p1
  · rename_i hl
    exact ⟨isLst_ty s1 a1 hl, h Z ρ1 S1 H1 Wx σ x v [] [] Q s1 a1 .nil p1⟩
  · exact p1.elim
def lstOf (S : Sto) : Bv.X → Option (Nat × List Bv.X)
  | .r n => (match S[n]? with
    | some (.lst xs) => some (n, xs)
    | _ => none)
  | _ => none
theorem lstOf_inv {K : PySem.W.Frag} {Z : Wd} {ρ : List Addr} {S : Sto} {H : Hp} {x : Bv.X} {v : V} {n : Nat} {xs : List Bv.X} (st : Sta K Z ρ S H) (a : AX K (Wn Z ρ) ρ H x v) (h : lstOf S x = some (n, xs)) : ∃ q vs, v = .ref q ∧ ρ[n]? = some q ∧ H q = some (.lst vs) ∧ AXs K (Wn Z ρ) ρ H xs vs := by
  cases a with
  | d a => cases h
  | r e =>
    rename_i k q
    have h : (match S[k]? with
      | some (.lst xs) => some (k, xs)
      | _ => none) = some (n, xs) := h
    cases z : S[k]? with
    | none => rw [z] at h; cases h
    | some ob =>
      rw [z] at h
      cases ob with
      | lst ys =>
        cases h
        obtain ⟨vs, h3, h4⟩ := st.ob _ _ q z e
        exact ⟨q, vs, rfl, e, h3, h4⟩
      | _ => cases h
def g_append : Bv.X → List Bv.X → Sto → R Bv.X := fun x ys S => match lstOf S x, ys with
  | some (n, xs), [y] => if decide (xs.length < sizeLine) then .ok (.d .non) (S.set n (.lst (xs ++ [y]))) else .bad
  | _, _ => .bad
theorem b_append {K : PySem.W.Frag} : MtX K rAppend g_append := fun Z ρ S H Wx σ x v ys ws Q st a as p => by
  unfold g_append at p
  split at p
  · rename_i n xs y hl
    split at p
    · rename_i hz
      obtain ⟨q, vs, rfl, e, h3, h4⟩ := lstOf_inv st a hl
      cases as with
      | cons h t =>
        cases t
        have hz := of_decide_eq_true hz
        obtain ⟨s5, g5⟩ := st.putL e h3 (Paired.append h4 (.cons h .nil))
        exact ⟨q, vs, _, rfl, rfl, h3, by rw [← Paired.length h4]; exact hz, p ρ _ .non s5 g5 (.d .non)⟩
    · exact p.elim
  · exact p.elim
def g_pop0 : Bv.X → List Bv.X → Sto → R Bv.X := fun x ys S => match lstOf S x, ys with
  | some (n, xs), [] => (match xs[xs.length - 1]? with
    | some y => .ok y (S.set n (.lst xs.dropLast))
    | none => .bad)
  | _, _ => .bad
theorem Paired.dropL {α β : Type} {F : α → β → Prop} {l : List α} {r : List β} (h : Paired F l r) : Paired F l.dropLast r.dropLast := by
  rw [List.dropLast_eq_take, List.dropLast_eq_take, Paired.length h]
  exact AXs.takeP _ h
theorem Paired.get {α β : Type} {F : α → β → Prop} {l : List α} {r : List β} (p : Paired F l r) {j : Nat} {a : α} (e : l[j]? = some a) : ∃ b, r[j]? = some b ∧ F a b := by
  induction p generalizing j with
  | nil => simp at e
  | cons x _ ih =>
    cases j with
    | zero => simp at e; subst e; exact ⟨_, rfl, x⟩
    | succ n => simp at e; obtain ⟨b, h1, h2⟩ := ih e; exact ⟨b, by simpa using h1, h2⟩
theorem b_pop0 {K : PySem.W.Frag} : MtX K rPop g_pop0 := fun Z ρ S H Wx σ x v ys ws Q st a as p => by
  unfold g_pop0 at p
  split at p
  · rename_i n xs hl
    obtain ⟨q, vs, rfl, e, h3, h4⟩ := lstOf_inv st a hl
    cases as
    cases hx : xs[xs.length - 1]? with
    | none => rw [hx] at p; exact p.elim
    | some y =>
      rw [hx] at p
      obtain ⟨w, h5, h6⟩ := Paired.get h4 hx
      obtain ⟨s5, g5⟩ := st.putL e h3 (Paired.dropL h4)
      exact ⟨q, vs, w, rfl, rfl, h3, by rw [← Paired.length h4]; exact h5, p ρ _ w s5 g5 (h6.mv (g5.mv st) g5.pre)⟩
  · exact p.elim
def g_popAt : Bv.X → List Bv.X → Sto → R Bv.X := fun x ys S => match lstOf S x, ys with
  | some (n, xs), [y] => (match intX y with
    | some i => if decide (-(2 ^ 63) ≤ i ∧ i < 2 ^ 63) then (match seqIndex? i xs.length with
      | some k => (match xs[k]? with
        | some z => .ok z (S.set n (.lst (xs.eraseIdx k)))
        | none => .bad)
      | none => .bad) else .bad
    | none => .bad)
  | _, _ => .bad
theorem Paired.eraseP {α β : Type} {F : α → β → Prop} : ∀ {l : List α} {r : List β} (j : Nat), Paired F l r → Paired F (l.eraseIdx j) (r.eraseIdx j)
  | _, _, _, .nil => .nil
  | _, _, 0, .cons _ t => t
  | _, _, j + 1, .cons x t => .cons x (Paired.eraseP j t)
theorem b_popAt {K : PySem.W.Frag} : MtX K rPopAt g_popAt := fun Z ρ S H Wx σ x v ys ws Q st a as p => by
  unfold g_popAt at p
  split at p
  · rename_i n xs y hl
    cases as with
    | cons h t =>
      cases t
      cases hi : intX y with
      | none => rw [hi] at p; exact p.elim
      | some i =>
        rw [hi] at p
        have p : PostG (AX K) K Z ρ H Wx σ Q (if decide (-(2 ^ 63) ≤ i ∧ i < 2 ^ 63) then (match seqIndex? i xs.length with
          | some k => (match xs[k]? with
            | some z => .ok z (S.set n (.lst (xs.eraseIdx k)))
            | none => .bad)
          | none => .bad) else .bad) := p
        split at p
        · rename_i hz
          have hz := of_decide_eq_true hz
          obtain ⟨q, vs, rfl, e, h3, h4⟩ := lstOf_inv st a hl
          cases hk : seqIndex? i xs.length with
          | none => rw [hk] at p; exact p.elim
          | some k =>
            rw [hk] at p
            have p : PostG (AX K) K Z ρ H Wx σ Q (match xs[k]? with
              | some z => .ok z (S.set n (.lst (xs.eraseIdx k)))
              | none => .bad) := p
            cases hx : xs[k]? with
            | none => rw [hx] at p; exact p.elim
            | some z =>
              rw [hx] at p
              obtain ⟨w, h5, h6⟩ := Paired.get h4 hx
              obtain ⟨s5, g5⟩ := st.putL e h3 (Paired.eraseP k h4)
              exact ⟨q, vs, i, k, w, rfl, by rw [h.int hi], h3, hz.1, hz.2, by rw [← Paired.length h4]; exact hk, h5, p ρ _ w s5 g5 (h6.mv (g5.mv st) g5.pre)⟩
        · exact p.elim
  · exact p.elim

/-! ### sep.join(xs) -/
def strs? : List Bv.X → Option (List Str)
  | [] => some []
  | .d (.str z) :: r => (strs? r).map (z :: ·)
  | _ :: _ => none
theorem strs_inv {K : PySem.W.Frag} {W : Wd} {ρ : List Addr} {H : Hp} : ∀ {xs : List Bv.X} {vs : List V} {l : List Str}, AXs K W ρ H xs vs → strs? xs = some l → vs = l.map V.str ∧ ∀ z ∈ l, PyData.strOk z = true
  | _, _, _, .nil, e => by cases e; exact ⟨rfl, fun z h => by simp at h⟩
  | x :: r, _, l, .cons h t, e => by
    cases x with
    | r n => simp [strs?] at e
    | d d =>
      cases d with
      | str b =>
        obtain ⟨l2, h1, h2⟩ := Option.map_eq_some_iff.mp (show (strs? r).map (b :: ·) = some l from e)
        subst h2
        cases h with
        | d h =>
          cases h with
          | str hz =>
            obtain ⟨h3, h4⟩ := strs_inv t h1
            exact ⟨by rw [h3]; rfl, fun z m => (List.mem_cons.mp m).elim (fun q => by rw [q]; exact hz) (h4 z)⟩
      | _ => simp [strs?] at e
theorem strOk_join {a : Str} (ha : PyData.strOk a = true) : ∀ {ys : List Str}, (∀ z ∈ ys, PyData.strOk z = true) → PyData.strOk (Str.join a ys) = true
  | [], _ => strOk_of fun c m => by simp [Str.join, Str.empty] at m
  | [x], h => h x (by simp)
  | x :: y :: r, h => by
    show PyData.strOk (x ++ a ++ Str.join a (y :: r)) = true
    exact strOk_append (strOk_append (h x (by simp)) ha) (strOk_join ha fun z m => h z (List.mem_cons_of_mem _ m))
def g_join (a : Str) (y : Bv.X) (S : Sto) : R Bv.X := match (items S y).bind strs? with
  | some ys => if decide ((ys.map (·.length)).sum + ys.length * a.length ≤ 16777216) then .ok (.d (.str (Str.join a ys))) S else .bad
  | none => .bad
/-- a text's method with one argument -/
def m_sm1 (g : Str → Bv.X → Sto → R Bv.X) (mo m : M) : M := fun e S => (mo e S).bind fun x S1 => match x with
  | .d (.str a) => (m e S1).bind fun y S2 => g a y S2
  | _ => .bad
theorem me_join (ho : ME X Wx o mo) (he : ME X Wx e m) (hs : starEach [e] X.env = [(false, eval e X.env)] := by rfl) (hbase : attributeBase o "join" X.env (eval o X.env) = eval o X.env := by rfl) (hline : (apos.endLine == pos.line) = true := by rfl) :
    ME X Wx (.Call (.Attribute o "join" apos) [e] [] pos) (m_sm1 g_join mo m) := PE.of (pe_join ho he hs hbase hline) fun σ H Q ⟨Z, ρ, e, S, st, ev, p⟩ => tt_bind st ev p fun ρ1 H1 v x S1 s1 g1 ev1 a1 p1 => by
  cases a1 with
  | r _ => exact p1.elim
  | d a =>
    cases a with
    | str hz =>
      rename_i z
      refine ⟨⟨z, rfl⟩, tt_bind s1 ev1 (show PostG (AX X.K) X.K Z ρ1 H1 Wx σ Q ((m e S1).bind fun y S2 => g_join z y S2) from p1) fun ρ2 H2 u y S2 s2 g2 ev2 a2 p2 => ?_⟩
      unfold g_join at p2
      cases q : (items S2 y).bind strs? with
      | none => rw [q] at p2; exact p2.elim
      | some ys =>
        rw [q] at p2
        obtain ⟨zs, h1, h2⟩ := Option.bind_eq_some_iff.mp q
        obtain ⟨b, us, rfl, hq, hp⟩ := a2.items s2 h1
        obtain ⟨rfl, hk⟩ := strs_inv hp h2
        have p2 : PostG (AX X.K) X.K Z ρ2 H2 Wx σ Q (if decide ((ys.map (·.length)).sum + ys.length * z.length ≤ 16777216) then .ok (.d (.str (Str.join z ys))) S2 else .bad) := p2
        split at p2
        · rename_i hl
          refine ⟨z, b, ys, rfl, rfl, hq.symm, of_decide_eq_true hl, ?_⟩
          rw [show Txt.join z ys = Str.join z ys from StrLaws.glued_eq_join ..]
          exact PostG.ret0 p2 s2 (.d (.str (strOk_join hz hk)))
        · exact p2.elim
    | _ => exact p1.elim

/-! ### a, b = e1, e2 -/
def s_par (i j : Nat) (ms : MG (List Bv.X)) : MS := fun e S => (ms e S).so e fun xs S1 => match xs with
  | [x, y] => .go (.nx ((e.set i (some x)).set j (some y))) S1
  | _ => .bad
theorem mp_par {i j : Nat} {x y : Str} {px py pt : Pos} {kt k2 pt2} (hc : X.calm = true) (hN : X.N.Nodup) (hi : X.N[i]? = some x) (hj : X.N[j]? = some y) (hij : i ≠ j) (hx : X.env.scope.names.lookup x = some .local) (hy : X.env.scope.names.lookup y = some .local) (ha : MA X Wx [a, b] ms)
    (hw : swappedStores [.Tuple [.Name x px, .Name y py] kt pt] (.Tuple [a, b] k2 pt2) X.env = pure (some [x, y]) := by rfl) (hs : swapsWithSole [.Tuple [.Name x px, .Name y py] kt pt] (.Tuple [a, b] k2 pt2) pos.line X.env = pure false := by rfl) :
    MP X Wx (.Assign [.Tuple [.Name x px, .Name y py] kt pt] (.Tuple [a, b] k2 pt2) pos) (s_par i j ms) := PS.of (ps_par hc hN hi hj hij hx hy ha hw hs) fun D σ H ⟨Z, ρ, e, S, st, ev, p⟩ => so_bind (rel := AXs X.K) st ev p fun ρ1 H1 vs xs S1 s1 g1 ev1 a1 p1 => by
  match xs, vs, a1, p1 with
  | [x, y], _, .cons h1 (.cons h2 .nil), p1 => exact ⟨_, _, rfl, p1.next s1 ((ev1.set h1).set h2)⟩
  | [], _, _, p1 => exact p1.elim
  | [_], _, _, p1 => exact p1.elim
  | _ :: _ :: _ :: _, _, _, p1 => exact p1.elim
end
end Bv
set_option Elab.async false
set_option linter.all false
set_option maxRecDepth 100000
set_option maxHeartbeats 4000000
/-! By value: isinstance, is of bools, repr, str. -/
namespace Bv
open PySem PySem.Spec L2
open PyProof.Rows hiding St
variable [HasW]

/-! ### isinstance -/
structure OwnIs (K : PySem.W.Frag) (C : Str) : Prop where
  cl : Cls K (He.ga K C)
  ha : PySem.W.findIn K (.ref (He.ga K C)) "__class__" = some (some (.builtin "object.__class__"))
  hn : PySem.W.specialIn K (.builtin "object.__class__") "__get__" = some (some (.builtin "getset_descriptor.__get__"))
  htk : PySem.W.takesIn K (.builtin "object.__class__") = some true
  hm : PySem.W.mroIn K (He.ga K C) (.type "object") = some true
/-- the answers for built-in kinds, for own classes -/
structure IsT (K : PySem.W.Frag) (u : Value) (tab : List (String × Bool)) (own : List (Str × Bool)) : Prop where
  bt : ∀ k b, tab.lookup k = some b → PySem.W.kitOne K (.type k) u = some b
  ow : ∀ C b, own.lookup C = some b → OwnIs K C ∧ PySem.W.kitOne K (.ref (He.ga K C)) u = some b
def kindD : D → Option String
  | .non => some "NoneType"
  | .bl _ => some "bool"
  | .int _ => some "int"
  | .str _ => some "str"
  | .tup _ => some "tuple"
  | .lst _ => some "list"
  | .scr _ => some "list"
  | .dic _ => some "dict"
  | _ => none
def isX (tab : List (String × Bool)) (own : List (Str × Bool)) (S : Sto) : X → Option Bool
  | .d (.obj C _) => own.lookup C
  | .d d => (kindD d).bind fun k => tab.lookup k
  | .r n => match S[n]? with
    | some (.lst _) => tab.lookup "list"
    | some (.dic _) => tab.lookup "dict"
    | some (.fdc _) => tab.lookup "dict"
    | some (.ins C _) => own.lookup C
    | _ => none
def m_isi (tab : List (String × Bool)) (own : List (Str × Bool)) (m : M) : M := fun e S => (m e S).bind fun x S1 => optR ((isX tab own S1 x).map fun b => .d (.bl b)) S1
section
variable {X : Cx} {Wx : WX} {pos p p2 apos : Pos} {a b c o i e : Expr} {ma mb mc m mo mi : M} {ms : MG (List Bv.X)}
theorem Tp.tyX {K : PySem.W.Frag} {W : Wd} {H : Hp} {a : Addr} {xs : List V} (t : Tp K W H a xs) : TyX K H (.ref a) (.type "tuple") := by
  rcases t with ⟨_, h⟩ | ⟨o, its, n, h1, h2, _⟩
  · exact .base (.tup h)
  · exact .kTuple h1 h2
theorem isX_ty {K : PySem.W.Frag} {u : Value} {tab : List (String × Bool)} {own : List (Str × Bool)} (T : IsT K u tab own) {Z : Wd} {ρ : List Addr} {S : Sto} {H : Hp} {x : Bv.X} {v : V} {k : Bool} (st : Sta K Z ρ S H) (a : AX K (Wn Z ρ) ρ H x v) (h : isX tab own S x = some k) :
    ∃ t, TyX K H v t ∧ PySem.W.kitOne K t u = some k := by
  cases a with
  | d a =>
    cases a with
    | obj w r hs =>
      obtain ⟨O, q⟩ := T.ow _ _ h
      exact ⟨_, .base (.ins r O.cl O.ha O.hn O.htk O.hm), q⟩
    | non => exact ⟨_, .base .non, T.bt _ _ h⟩
    | bl k => exact ⟨_, .base (.bl k), T.bt _ _ h⟩
    | int k => exact ⟨_, .base (.int k), T.bt _ _ h⟩
    | str k => exact ⟨_, .base (.str _), T.bt _ _ h⟩
    | tup t hs => exact ⟨_, t.tyX, T.bt _ _ h⟩
    | lst w r hs => exact ⟨_, .base (.lst r), T.bt _ _ h⟩
    | scr r =>
      rcases r with ⟨_, r | ⟨ob, r⟩⟩ | ⟨o, its, n, r1, r2, _⟩
      · exact ⟨_, .base (.lst r), T.bt _ _ h⟩
      · exact ⟨_, .base (.frz r), T.bt _ _ h⟩
      · exact ⟨_, .kList r1 r2, T.bt _ _ h⟩
    | dic w r hs => exact ⟨_, .fDict r, T.bt _ _ h⟩
    | gl x => cases h
  | r e =>
    rename_i n q
    have h : (match S[n]? with
      | some (.lst _) => tab.lookup "list"
      | some (.dic _) => tab.lookup "dict"
      | some (.fdc _) => tab.lookup "dict"
      | some (.ins C _) => own.lookup C
      | _ => none) = some k := h
    cases z : S[n]? with
    | none => rw [z] at h; cases h
    | some ob =>
      rw [z] at h
      have y := st.ob n _ q z e
      cases ob with
      | lst xs => obtain ⟨vs, h1, _⟩ := y; exact ⟨_, .base (.lst h1), T.bt _ _ h⟩
      | dic xs => obtain ⟨vs, h1, _⟩ := y; exact ⟨_, .base (.dK h1), T.bt _ _ h⟩
      | fdc xs => obtain ⟨o, vs, h1, _⟩ := y; exact ⟨_, .fDict h1, T.bt _ _ h⟩
      | tdc xs => cases h
      | ins C fs =>
        obtain ⟨dx, vs, h1, _⟩ := y
        obtain ⟨O, q⟩ := T.ow _ _ h
        exact ⟨_, .base (.ins h1 O.cl O.ha O.hn O.htk O.hm), q⟩
theorem me_isi {tab : List (String × Bool)} {own : List (Str × Bool)} {u : Value} {cv : V} (hg : Gl X "isinstance") (hm : X.mg "isinstance" = none) (he : ME X Wx a m) (hc : PE X c (tC cv)) (T : IsT X.K u tab own) (k : ClsV cv u)
    (hs : starEach [a, c] X.env = (false, eval a X.env) :: starEach [c] X.env := by rfl) (hs2 : starEach [c] X.env = (false, eval c X.env) :: starEach [] X.env := by rfl) (hpl : (backTo pos (starEach [c] X.env)).any (·.1) = false := by rfl) :
    ME X Wx (.Call (.Name "isinstance" p) [a, c] [] pos) (m_isi tab own m) := PE.of (pe_callB call_isi hg hm (by rfl) (pa_cons he (pa_cons hc pa_nil hs2) hs) (by decide) (by decide) hs hpl) fun σ H Q ⟨Z, ρ, e, S, st, ev, q⟩ => tt_bind st ev q fun ρ1 H1 v x S1 s1 g1 ev1 a1 p1 => by
  obtain ⟨w, hw, p2⟩ := p1.opt
  obtain ⟨b, h1, h2⟩ := Option.map_eq_some_iff.mp hw
  subst h2
  obtain ⟨t, ty, kt⟩ := isX_ty T s1 a1 h1
  exact ⟨v, cv, t, u, b, rfl, k, ty, kt, PostG.ret0 p2 s1 (.d (.bl b))⟩
omit [HasW] in
theorem lk_mem {β : Type} {k : String} {b : β} : ∀ {l : List (String × β)}, l.lookup k = some b → (k, b) ∈ l
  | [], h => by cases h
  | (k', b') :: r, h => by
    rw [List.lookup_cons] at h
    cases q : k == k' with
    | true =>
      rw [q] at h
      cases h
      rw [beq_iff_eq.mp q]
      exact List.mem_cons_self
    | false => rw [q] at h; exact List.mem_cons_of_mem _ (lk_mem h)
/-- a built-in class: its name -/
def tabOf (T : String) : List (String × Bool) := ["NoneType", "bool", "int", "str", "tuple", "list", "dict"].filterMap fun k => (kitB k T).map fun b => (k, b)
theorem isT_ty {K : PySem.W.Frag} {T : String} {own : List (Str × Bool)} (ow : ∀ C b, own.lookup C = some b → OwnIs K C ∧ PySem.W.kitOne K (.ref (He.ga K C)) (.type T) = some b) : IsT K (.type T) (tabOf T) own := ⟨fun k b h => by
  have h := lk_mem h
  unfold tabOf at h
  obtain ⟨k', _, h2⟩ := List.mem_filterMap.mp h
  obtain ⟨b', h3, h4⟩ := Option.map_eq_some_iff.mp h2
  cases h4
  exact kit_ty h3, ow⟩

/-! ### is, is not -/
def isB (a b : D) : Option D := match a, b with
  | .bl x, .bl y => some (.bl (decide (x = y)))
  | _, _ => none
def isnB (a b : D) : Option D := match a, b with
  | .bl x, .bl y => some (.bl (!decide (x = y)))
  | _, _ => none
theorem o_isB {K : PySem.W.Frag} : Op2 K rIsB isB := fun W H d1 d2 v1 v2 d Q hw a1 a2 e k => by
  cases d1 <;> cases d2 <;> first | (cases e; exact ⟨_, _, a1.bl_inv, a2.bl_inv, k H _ (Same.refl H) (.bl _)⟩) | cases e
theorem o_isnB {K : PySem.W.Frag} : Op2 K rNotB isnB := fun W H d1 d2 v1 v2 d Q hw a1 a2 e k => by
  cases d1 <;> cases d2 <;> first | (cases e; exact ⟨_, _, a1.bl_inv, a2.bl_inv, k H _ (Same.refl H) (.bl _)⟩) | cases e

/-! ### repr -/
/-- as it is shown, where that is known -/
def shownOf (d : D) : Option Str := match d.py with
  | some p => if p.showable && !p.hasDict && dOk p && decide (p.shown.length ≤ sizeLine) && PyData.strOk p.shown then some p.shown else none
  | none => none
def g_repr : List Bv.X → Sto → R Bv.X
  | [x], S => (match (x.get S).bind shownOf with
    | some z => .ok (.d (.str z)) S
    | none => .bad)
  | _, _ => .bad
/-- repr of data at an address -/
abbrev rReprA (K : PySem.W.Frag) : List V → Hp → VK → Prop := fun xs H Q => ∃ (a : Addr) (p : PyData), xs = [.ref a] ∧ Dp K H (.ref a) p ∧ p.showable = true ∧ p.hasDict = false ∧ p.depth ≤ 64 ∧ p.shown.length ≤ sizeLine ∧ Q (.str p.shown) H
theorem c_repr (gu : X.A.guards = some []) (room : Room 0 X.A) : CallR X (.builtin "repr") (rReprA X.K) := fun pins s σ H xs us Q I r h => by
  obtain ⟨a, p, rfl, dp, h1, h2, h3, h4, q⟩ := h
  cases r with
  | cons r t =>
    cases t
    cases r
    obtain ⟨as, rd⟩ := Dp.reads I p _ _ dp rfl
    refine repr_of_reads' rd h1 (fun z => absurd z (by rw [h2]; simp)) gu (by have := room.un; omega) (fun b o e => e) (fun h' u tk k => ?_) h4
    exact ⟨.str p.shown, H, I.kept k, ⟨u, rfl⟩, q⟩
def isBox : D → Bool
  | .lst _ | .tup _ | .dic _ | .scr _ => true
  | _ => false
theorem AW.is_ref {K : PySem.W.Frag} {W : Wd} {H : Hp} {d : D} {v : V} (h : AW K W H d v) (hr : isBox d = true) : ∃ a, v = .ref a := by
  cases h with
  | av h => cases h <;> first | exact ⟨_, rfl⟩ | cases hr
  | lst _ _ => exact ⟨_, rfl⟩
  | fdc _ _ => exact ⟨_, rfl⟩
def g_reprA : List Bv.X → Sto → R Bv.X
  | [x], S => (match x.get S with
    | some d => if isBox d then (match shownOf d with
      | some z => .ok (.d (.str z)) S
      | none => .bad) else .bad
    | none => .bad)
  | _, _ => .bad
theorem b_repr {K : PySem.W.Frag} : BinX K (rReprA K) g_reprA := fun Z ρ S H Wx σ xs vs Q st a h => by
  unfold g_reprA at h
  split at h
  · rename_i x
    cases a with
    | cons ha t =>
      cases t
      cases q : x.get S with
      | none => rw [q] at h; exact h.elim
      | some d =>
        rw [q] at h
        have h : PostG (AX K) K Z ρ H Wx σ Q (if isBox d then (match shownOf d with
          | some z => .ok (.d (.str z)) S
          | none => .bad) else .bad) := h
        split at h
        · rename_i hb
          cases q2 : shownOf d with
          | none => rw [q2] at h; exact h.elim
          | some z =>
            rw [q2] at h
            have w := ha.get st q
            obtain ⟨a, rfl⟩ := w.is_ref hb
            unfold shownOf at q2
            cases q3 : d.py with
            | none => rw [q3] at q2; cases q2
            | some p =>
              rw [q3] at q2
              obtain ⟨h1, h2⟩ := ite_some q2
              cases h2
              simp only [Bool.and_eq_true, decide_eq_true_eq] at h1
              obtain ⟨⟨⟨⟨c1, c2⟩, c3⟩, c4⟩, c5⟩ := h1
              obtain ⟨dp, _⟩ := w.dp q3
              exact ⟨a, p, rfl, dp, c1, by simpa using c2, of_decide_eq_true c3, c4, PostG.ret0 h st (.d (.str c5))⟩
        · exact h.elim
  · exact h.elim

/-! ### str of an int, of a text -/
def g_strI : List Bv.X → Sto → R Bv.X
  | [.d (.int i)], S => if decide (i.natAbs.log2 < 1920) && PyData.strOk (toString i : String) then .ok (.d (.str (toString i : String))) S else .bad
  | [.d (.str z)], S => .ok (.d (.str z)) S
  | _, _ => .bad
abbrev rStrI : List V → Hp → VK → Prop := fun xs H Q => (∃ i, xs = [.int i] ∧ i.natAbs.log2 < 1920 ∧ Q (.str (toString i)) H) ∨ ∃ a, xs = [.str a] ∧ Q (.str a) H
theorem c_strI : CallR X (.type "str") rStrI := CallR.or call_str_int SkE.call_str_str
theorem b_strI {K : PySem.W.Frag} : BinX K rStrI g_strI := fun Z ρ S H Wx σ xs vs Q st a h => by
  unfold g_strI at h
  split at h
  · rename_i i
    obtain ⟨v, rfl, b⟩ := one_d a
    have e : v = .int i := by cases b; rfl
    split at h
    · rename_i hc
      obtain ⟨h1, h2⟩ := Bool.and_eq_true_iff.mp hc
      exact .inl ⟨i, by rw [e], of_decide_eq_true h1, PostG.ret0 h st (.d (.str h2))⟩
    · exact h.elim
  · rename_i z
    obtain ⟨v, rfl, b⟩ := one_d a
    have e : v = .str z := by cases b; rfl
    have hz : PyData.strOk z = true := by cases b with | str h => exact h
    exact .inr ⟨z, by rw [e], PostG.ret0 h st (.d (.str hz))⟩
  · exact h.elim
end
end Bv
set_option Elab.async false
set_option linter.all false
set_option maxRecDepth 100000
set_option maxHeartbeats 4000000
/-! By value: str, ==, != by own defs; isinstance of two types. -/
namespace Bv
open PySem PySem.Spec L2
open PyProof.Rows hiding St
variable [HasW]

abbrev EN : XK := fun _ _ _ => False
section
variable {X : Cx} {Wx : WX} {pos p p2 apos : Pos} {a b c o i e : Expr} {ma mb mc m mo mi : M} {ms : MG (List Bv.X)} {k n : Nat} {f : Addr} {fd : FuncData} {ps : List Str} {g : List D → PR} {C : Str}
/-- a def that does not raise, run within what is built in -/
theorem run_in {pins : List (Addr × Obj)} {σ : St} {H : Hp} {s : Shared} {Q : VK} {us : List Value} {vs : List V} {sp : Sp} {A : Around} {E : Value → Shared → Prop} (F : FnG X.prog X.w X.K X.mg X.base k f fd ps sp) (gu : A.guards = some []) (room : Room k A) (hb : Binds X.K fd ps []) (I : Inv X pins σ H s)
    (e0 : Env0 X.prog X.w X.K X.mg X.base A X.stack s H) (r : Vals vs us) (h : sp vs H Q EN) : wpAny (model X.prog X.w) A (call (.ref f) us) (EP X pins σ Q) E s := by
  have many : us.length = ps.length := r.length.symm.trans (F.len _ _ _ _ h)
  have bd := hb s us I.kIn (by rw [List.append_nil]; exact many)
  rw [List.append_nil] at bd
  refine wpAny_call (codeAny_mono (F.run A X.stack s H ⟨us, []⟩ us vs Q EN gu room e0 bd r h) fun y s' z => ?_)
  cases y with
  | error e =>
    obtain ⟨_, _, _, _, _, _, _, _, _, _, _, _, no⟩ := z
    exact no.elim
  | ok fl =>
    cases fl with
    | ret u => exact I.after z
    | next => exact z.elim
    | brk => exact z.elim
    | cont => exact z.elim
theorem ins_at {pins : List (Addr × Obj)} {σ : St} {H : Hp} {s : Shared} {a Ca dx : Addr} {fs : List (Str × V)} (I : Inv X pins σ H s) (h : H a = some (.ins Ca dx fs)) : ∃ ox od, PySem.W.InstAt s.heap a ox Ca od := by
  obtain ⟨mA, J, _⟩ := ins_get I.hok h
  obtain ⟨od, J2, _⟩ := J.look
  exact ⟨_, _, J2⟩

/-! ### str(o) -/
structure OwnStr (K : PySem.W.Frag) (C : Str) (f : Addr) : Prop where
  at_ : PySem.W.findIn K (.ref (He.ga K C)) "__str__" = some (some (.ref f))
  fn : PySem.W.isFn K (.ref f) = true
abbrev rStrO (K : PySem.W.Frag) (C : Str) (g : List D → PR) : List V → Hp → VK → Prop := fun xs H Q => ∃ a dx fs, xs = [.ref a] ∧ H a = some (.ins (He.ga K C) dx fs) ∧ spP K 1 g [.ref a] H (fun v H' => ∃ z, v = .str z ∧ Q (.str z) H') EN
theorem c_strO (gu : X.A.guards = some []) (F : FnG X.prog X.w X.K X.mg X.base k f fd ps (spP X.K 1 g)) (O : OwnStr X.K C f) (room : Room (k + 2) X.A) (hb : Binds X.K fd ps []) : CallR X (.type "str") (rStrO X.K C g) := fun pins s σ H xs us Q I r h => by
  obtain ⟨a, dx, fs, rfl, ha, q⟩ := h
  cases r with
  | cons r t =>
    cases t
    cases r
    obtain ⟨ox, od, J⟩ := ins_at I ha
    refine PySem.W.kso_call (by have := room.un; show X.A.units + 1 + 1 < _; omega) I.kIn J O.at_ O.fn (wpAny_mono (run_in F (by exact gu) room.in1.in1 hb I I.env0.in1.in1 (.cons (show RelV (V.ref a) (Value.ref a) from rfl) .nil) q) (fun u s' z => ?_) fun _ _ z => z)
    obtain ⟨v, H', I', rv, z, rfl, q'⟩ := z
    obtain ⟨t, rfl⟩ := rv
    exact ⟨.str z, H', I', ⟨t, rfl⟩, q'⟩
def g_strO (C : Str) (g : List D → PR) : List Bv.X → Sto → R Bv.X
  | [.d (.obj D fs)], S => if decide (D = C) then (match g [.obj D fs] with
    | .ok (.str z) => .ok (.d (.str z)) S
    | _ => .bad) else .bad
  | _, _ => .bad
theorem b_strO {K : PySem.W.Frag} : BinX K (rStrO K C g) (g_strO C g) := fun Z ρ S H Wx σ xs vs Q st a h => by
  unfold g_strO at h
  split at h
  · rename_i D fs
    split at h
    · rename_i hc
      obtain rfl := of_decide_eq_true hc
      obtain ⟨v, rfl, b⟩ := one_d a
      cases b with
      | obj w r hs =>
        refine ⟨_, _, _, rfl, r, rfl, Wn Z ρ, [.obj D fs], fun a h => st.thereW h, .cons (.obj w r hs) .nil, ?_⟩
        cases q : g [.obj D fs] with
        | ok d =>
          rw [q] at h
          cases d with
          | str z =>
            intro H' v k a
            cases a with
            | str hz => exact ⟨z, rfl, PostG.ret h st k (.d (.str hz))⟩
          | _ => exact h.elim
        | err _ _ => rw [q] at h; exact h.elim
        | bad => rw [q] at h; exact h.elim
    · exact h.elim
  · exact h.elim

/-! ### ==, != -/
structure OwnEq (K : PySem.W.Frag) (C : Str) (f : Addr) : Prop where
  at_ : PySem.W.findIn K (.ref (He.ga K C)) "__eq__" = some (some (.ref f))
  fn : PySem.W.isFn K (.ref f) = true
  ne : PySem.W.findIn K (.ref (He.ga K C)) "__ne__" = some (some (.builtin "object.__ne__"))
  mo : PySem.W.mroIn K (He.ga K C) (.type "object") = some true
abbrev rEqO (K : PySem.W.Frag) (C : Str) (g : List D → PR) (neg : Bool) : R2 := fun x y H Q => ∃ a dx fs b dy gs, x = .ref a ∧ y = .ref b ∧ H a = some (.ins (He.ga K C) dx fs) ∧ H b = some (.ins (He.ga K C) dy gs) ∧ spP K 2 g [x, y] H (fun v H' => ∃ r, v = .bl r ∧ Q (.bl (r ^^ neg)) H') EN
theorem op_eqO (gu : X.A.guards = some []) (F : FnG X.prog X.w X.K X.mg X.base k f fd ps (spP X.K 2 g)) (O : OwnEq X.K C f) (room : Room k X.A) (hb : Binds X.K fd ps []) : OpR X (compareOp .Eq) (rEqO X.K C g false) := fun pins s σ H x y v u Q I rx ry h => by
  obtain ⟨a, dx, fs, b, dy, gs, rfl, rfl, ha, hb', q⟩ := h
  cases rx
  cases ry
  obtain ⟨ox, od, J⟩ := ins_at I ha
  obtain ⟨oy, oe, J'⟩ := ins_at I hb'
  obtain ⟨m, hF⟩ := I.fr
  show wpAny (model X.prog X.w) X.A (richCompare .Eq (.ref a) (.ref b)) (EP X pins σ Q) X.xe s
  refine PySem.W.cmp_K (op := .Eq) (tb := .ref (He.ga X.K C)) room.units0 hF I.ok.mod.kin J J'.type (by simp [PySem.W.notFirst]) O.at_ O.fn (wpAny_mono (run_in F gu room hb I I.env0 (.cons (show RelV (V.ref a) (Value.ref a) from rfl) (.cons (show RelV (V.ref b) (Value.ref b) from rfl) .nil)) q) (fun w s' z => ?_) fun _ _ z => z)
  obtain ⟨v, H', I', rv, r, rfl, q'⟩ := z
  cases rv
  exact ⟨.bl r, H', I', rfl, by simpa using q'⟩
open Builtin in
theorem op_neO (gu : X.A.guards = some []) (F : FnG X.prog X.w X.K X.mg X.base k f fd ps (spP X.K 2 g)) (O : OwnEq X.K C f) (room : Room (k + 1) X.A) (hb : Binds X.K fd ps []) : OpR X (compareOp .NotEq) (rEqO X.K C g true) := fun pins s σ H x y v u Q I rx ry h => by
  obtain ⟨a, dx, fs, b, dy, gs, rfl, rfl, ha, hb', q⟩ := h
  cases rx
  cases ry
  obtain ⟨ox, od, J⟩ := ins_at I ha
  obtain ⟨oy, oe, J'⟩ := ins_at I hb'
  have hu := room.un
  show wpAny (model X.prog X.w) X.A (richCompare .NotEq (.ref a) (.ref b)) (EP X pins σ Q) X.xe s
  have core : wpAny (model X.prog X.w) X.A (call (.builtin "object.__ne__") [.ref a, .ref b]) (fun v s' => ∃ r : Bool, v = .bool r ∧ EP X pins σ Q (.bool r) s') X.xe s := by
    refine wpAny_call (codeAny_call_builtin (by decide +kernel) PySem.F.cmpEntry_ne (PySem.W.check_slot (i := "object.__ne__") (owner := "object") (n := "__ne__") (by decide +kernel) (by decide +kernel) (J.type.andThen (PySem.W.looks_mroIn I.kIn O.mo)) (PySem.F.cmpArgs_ne _ _) ?_))
    unfold Builtin.«object.__ne__»
    refine wpAny_bind (m := slotArgs "__ne__" 1 _) (wpAny_pure ?_)
    refine wpAny_bind (m := cRoomFor _ _) (wpAny_cRoomFor (by show X.A.units + 1 < _; omega) ?_)
    refine wpAny_bind (m := callSpecialIfBound? (.ref a) (Str.ofString "__eq__") _) (PySem.W.ifBound_K I.kIn J O.at_ O.fn (wpAny_mono (run_in F (by exact gu) room.in1 hb I I.env0.in1 (.cons (show RelV (V.ref a) (Value.ref a) from rfl) (.cons (show RelV (V.ref b) (Value.ref b) from rfl) .nil)) q) (fun w s' z => ?_) fun _ _ z => z))
    obtain ⟨v, H', I', rv, r, rfl, q'⟩ := z
    cases rv
    refine wpAny_bind (m := truthy (.bool r)) (wpAny_truthy_bool (wpAny_pure ?_))
    exact ⟨!r, rfl, .bl (!r), H', I', rfl, by simpa using q'⟩
  have one : wpAny (model X.prog X.w) X.A (tryCompare (.ref a) "__ne__" (.ref b)) (fun r s' => ∃ v, r = some v ∧ EP X pins σ Q v s') X.xe s := by
    unfold tryCompare
    refine wpAny_bind (NtL.csib (J.type.andThen (PySem.W.looks_findIn I.kIn O.ne)) (by rfl) (wpAny_mono core (fun v s' z => ?_) fun _ _ z => z))
    obtain ⟨r, rfl, q'⟩ := z
    exact wpAny_pure ⟨_, rfl, q'⟩
  unfold richCompare
  simp only [oneThing_ref]
  refine wpAny_holding (wpAny_bind (wpAny_cRoomFor (by omega) ?_))
  refine wpAny_bind (J.type.here (wpAny_bind (J'.type.here ?_)))
  rw [if_neg (by simp)]
  refine wpAny_bind (wpAny_pure ?_)
  simp only [Bool.false_eq_true, if_false]
  refine wpAny_bind (wpAny_mono one (fun r s' z => ?_) fun _ _ e => e)
  obtain ⟨v, rfl, hq⟩ := z
  exact wpAny_pure hq
def eqO (C : Str) (g : List D → PR) (neg : Bool) (a b : D) : Option D := match a, b with
  | .obj C1 f1, .obj C2 f2 => if decide (C1 = C) && decide (C2 = C) then (match g [.obj C1 f1, .obj C2 f2] with
    | .ok (.bl r) => some (.bl (r ^^ neg))
    | _ => none) else none
  | _, _ => none
theorem o_eqO {K : PySem.W.Frag} {neg : Bool} : Op2 K (rEqO K C g neg) (eqO C g neg) := fun W H d1 d2 v1 v2 d Q hw a1 a2 e k => by
  unfold eqO at e
  split at e
  · rename_i C1 f1 C2 f2
    obtain ⟨h1, h2⟩ := ite_some e
    obtain ⟨h3, h4⟩ := Bool.and_eq_true_iff.mp h1
    obtain rfl := of_decide_eq_true h3
    obtain rfl := of_decide_eq_true h4
    obtain ⟨a, dx, vs, rfl, w, r, hs⟩ := a1.ob
    obtain ⟨b, dy, us, rfl, w', r', hs'⟩ := a2.ob
    refine ⟨a, dx, vs, b, dy, us, rfl, rfl, r, r', rfl, W, _, hw, .cons (.obj w r hs) (.cons (.obj w' r' hs') .nil), ?_⟩
    cases q : g [.obj C2 f1, .obj C2 f2] with
    | ok d' =>
      rw [q] at h2
      cases d' with
      | bl r =>
        cases h2
        intro H' v ex a
        cases a with
        | bl _ => exact ⟨r, rfl, k H' _ ex (.bl _)⟩
      | _ => cases h2
    | err _ _ => rw [q] at h2; cases h2
    | bad => rw [q] at h2; cases h2
  · cases e

/-! ### isinstance of two built-in types -/
structure IsTs (K : PySem.W.Frag) (us : List Value) (tab : List (String × Bool)) (own : List (Str × Bool)) : Prop where
  bt : ∀ k b, tab.lookup k = some b → PySem.W.kitAny K (.type k) us = some b
  ow : ∀ C b, own.lookup C = some b → OwnIs K C ∧ PySem.W.kitAny K (.ref (He.ga K C)) us = some b
theorem isXs_ty {K : PySem.W.Frag} {us : List Value} {tab : List (String × Bool)} {own : List (Str × Bool)} (T : IsTs K us tab own) {Z : Wd} {ρ : List Addr} {S : Sto} {H : Hp} {x : Bv.X} {v : V} {k : Bool} (st : Sta K Z ρ S H) (a : AX K (Wn Z ρ) ρ H x v) (h : isX tab own S x = some k) :
    ∃ t, TyX K H v t ∧ PySem.W.kitAny K t us = some k := by
  cases a with
  | d a =>
    cases a with
    | obj w r hs =>
      obtain ⟨O, q⟩ := T.ow _ _ h
      exact ⟨_, .base (.ins r O.cl O.ha O.hn O.htk O.hm), q⟩
    | non => exact ⟨_, .base .non, T.bt _ _ h⟩
    | bl k => exact ⟨_, .base (.bl k), T.bt _ _ h⟩
    | int k => exact ⟨_, .base (.int k), T.bt _ _ h⟩
    | str k => exact ⟨_, .base (.str _), T.bt _ _ h⟩
    | tup t hs => exact ⟨_, t.tyX, T.bt _ _ h⟩
    | lst w r hs => exact ⟨_, .base (.lst r), T.bt _ _ h⟩
    | scr r =>
      rcases r with ⟨_, r | ⟨ob, r⟩⟩ | ⟨o, its, n, r1, r2, _⟩
      · exact ⟨_, .base (.lst r), T.bt _ _ h⟩
      · exact ⟨_, .base (.frz r), T.bt _ _ h⟩
      · exact ⟨_, .kList r1 r2, T.bt _ _ h⟩
    | dic w r hs => exact ⟨_, .fDict r, T.bt _ _ h⟩
    | gl x => cases h
  | r e =>
    rename_i n q
    have h : (match S[n]? with
      | some (.lst _) => tab.lookup "list"
      | some (.dic _) => tab.lookup "dict"
      | some (.fdc _) => tab.lookup "dict"
      | some (.ins C _) => own.lookup C
      | _ => none) = some k := h
    cases z : S[n]? with
    | none => rw [z] at h; cases h
    | some ob =>
      rw [z] at h
      have y := st.ob n _ q z e
      cases ob with
      | lst xs => obtain ⟨vs, h1, _⟩ := y; exact ⟨_, .base (.lst h1), T.bt _ _ h⟩
      | dic xs => obtain ⟨vs, h1, _⟩ := y; exact ⟨_, .base (.dK h1), T.bt _ _ h⟩
      | fdc xs => obtain ⟨o, vs, h1, _⟩ := y; exact ⟨_, .fDict h1, T.bt _ _ h⟩
      | tdc xs => cases h
      | ins C fs =>
        obtain ⟨dx, vs, h1, _⟩ := y
        obtain ⟨O, q⟩ := T.ow _ _ h
        exact ⟨_, .base (.ins h1 O.cl O.ha O.hn O.htk O.hm), q⟩
theorem me_isi2 {tab : List (String × Bool)} {own : List (Str × Bool)} {u1 u2 : Value} {c1 c2 : V} {x1 : Bool} {tpos : Pos} (hg : Gl X "isinstance") (hm : X.mg "isinstance" = none) (he : ME X Wx a m) (hc1 : PE X b (tC c1)) (hc2 : PE X c (tC c2)) (T : IsTs X.K [u1, u2] tab own) (k1 : ClsV c1 u1) (k2 : ClsV c2 u2)
    (ht1 : starEach [b, c] X.env = (false, eval b X.env) :: starEach [c] X.env := by rfl) (ht2 : starEach [c] X.env = (false, eval c X.env) :: starEach [] X.env := by rfl)
    (hs : ∀ {x1 tpos}, starEach [a, .Tuple [b, c] x1 tpos] X.env = (false, eval a X.env) :: starEach [.Tuple [b, c] x1 tpos] X.env := by intros; rfl) (hs2 : ∀ {x1 tpos}, starEach [.Tuple [b, c] x1 tpos] X.env = (false, eval (.Tuple [b, c] x1 tpos) X.env) :: starEach [] X.env := by intros; rfl)
    (hpl : ∀ {x1 tpos}, (backTo pos (starEach [.Tuple [b, c] x1 tpos] X.env)).any (·.1) = false := by intros; rfl) {kt} :
    ME X Wx (.Call (.Name "isinstance" p) [a, .Tuple [b, c] kt tpos] [] pos) (m_isi tab own m) := PE.of (pe_callB call_isiT hg hm (by rfl) (pa_cons he (pa_cons (pe_tup (pa_cons hc1 (pa_cons hc2 pa_nil ht2) ht1)) pa_nil hs2) hs) (by decide) (by decide) hs hpl) fun σ H Q ⟨Z, ρ, e, S, st, ev, q⟩ => tt_bind st ev q fun ρ1 H1 v x S1 s1 g1 ev1 a1 p1 => by
  obtain ⟨w, hw, p2⟩ := p1.opt
  obtain ⟨b, h1, h2⟩ := Option.map_eq_some_iff.mp hw
  subst h2
  refine ⟨Nat.le_trans (show [c1, c2].length ≤ 2 from Nat.le_refl _) (by decide), fun r hr => ?_⟩
  have k := upd_keep (o := HO.tup [c1, c2]) hr
  have s2 := s1.grow k
  obtain ⟨t, ty, kt⟩ := isXs_ty T s2 (a1.mv ((Go.grow k).mv s1) (List.prefix_refl _)) h1
  exact ⟨v, r, [c1, c2], t, [u1, u2], b, rfl, upd_same, .cons k1 (.cons k2 .nil), ty, kt, PostG.ret p2 s1 k (.d (.bl b))⟩
end
end Bv
set_option Elab.async false
set_option linter.all false
set_option maxRecDepth 100000
set_option maxHeartbeats 4000000
/-! By value: what the head tells. -/
namespace Bv
open PySem PySem.Spec L2
open PyProof.Rows hiding St

/-! ### defs by where they stand -/
structure DefB where
  ad : PySem.W.Frag → Addr
  name : Str
  qual : Str
  params : Arguments
  body : List Stmt
  scope : Scope
  dfl : List He.Dv := []
/-- the def within a classmethod's record -/
def cmAd (C m : Str) (K : PySem.W.Frag) : Addr := match PySem.W.recIn K (He.ma K (He.ga K C) m) "classmethod" with
  | some (.ref g :: _) => g
  | _ => 0
def seen (K : PySem.W.Frag) (a : Addr) : He.FnW := match K.lookup a with
  | some ⟨_, _, .func fd, _⟩ => some (fd.name, fd.qualname, fd.params, fd.body, fd.scope, fd.globals, fd.closure, fd.builtins)
  | _ => none
def DefB.val (d : DefB) : He.FnW := some (d.name, d.qual, d.params, .stmts d.body, d.scope, mainGlobals, [], builtinsNs)
def DefB.dvs (K : PySem.W.Frag) (d : DefB) : List V := d.dfl.map (He.Dv.v K)
def DefB.ok (K : PySem.W.Frag) (d : DefB) : Bool := PySem.W.keepIn K (.ref (d.ad K)) && (match K.lookup (d.ad K) with
  | some ⟨_, _, .func fd, _⟩ => PySem.W.codeIn K fd.code d.qual && He.dflB K fd.defaults (d.dvs K)
  | _ => false)
theorem DefB.fun {K : PySem.W.Frag} {d : DefB} (e : seen K (d.ad K) = d.val) (c : d.ok K = true) : ∃ fd, FunD K d.name d.qual d.params d.body d.scope (d.dvs K) [] (d.ad K) fd := by
  obtain ⟨kp, c2⟩ := He.ba c
  unfold seen at e
  cases q : K.lookup (d.ad K) with
  | none => rw [q] at c2; cases c2
  | some o =>
    obtain ⟨oc, od, dt, osl⟩ := o
    rw [q] at c2 e
    cases dt with
    | func fd =>
      obtain ⟨m1, m2, m3, m4, m5, m6, m7, m8, m9, m10, m11, m12, m13, m14, m15⟩ := fd
      have e2 : (some (m1, m2, m3, m4, m5, m6, m7, m15) : He.FnW) = some (d.name, d.qual, d.params, .stmts d.body, d.scope, mainGlobals, [], builtinsNs) := e
      simp only [Option.some.injEq, Prod.mk.injEq] at e2
      obtain ⟨rfl, rfl, rfl, rfl, rfl, rfl, rfl, rfl⟩ := e2
      obtain ⟨k1, k2⟩ := He.ba (show (PySem.W.codeIn K m13 d.qual && He.dflB K m8 (d.dvs K)) = true from c2)
      exact ⟨_, ⟨oc, od, m8, m9, m10, m11, m12, m13, m14, osl, rfl, q, k1, He.dflB_ok k2, .inl rfl⟩, kp⟩
    | _ => cases c2
/-! ### the Hook: any tests of the written part, and the defs -/
abbrev AlB : Type := Bool × List He.FnW
def obsB (ts : List (PySem.W.Frag → Bool)) (ds : List DefB) (K : PySem.W.Frag) : AlB := ((ts.all fun t => t K) && ds.all fun d => d.ok K, ds.map fun d => seen K (d.ad K))
def valB (ds : List DefB) : AlB := (true, ds.map DefB.val)
def SaysB (ts : List (PySem.W.Frag → Bool)) (ds : List DefB) (K : PySem.W.Frag) : Prop := obsB ts ds K = valB ds
def obsBG (n : Nat) (ts : List (PySem.W.Frag → Bool)) (ds : List DefB) (g : Addr → Option Obj) : AlB := obsB ts ds (He.frG g (He.asD g n ++ [cStatics]))
def hookB (n : Nat) (ts : List (PySem.W.Frag → Bool)) (ds : List DefB) : PySem.W.Hook where
  α := AlB
  obs := fun s => obsBG n ts ds s.heap.get?
  val := fun _ => valB ds
  says := fun _ h => ∃ K : PySem.W.Frag, K.In h ∧ SaysB ts ds K
  of := fun _ _ e => ⟨_, He.frG_in, e⟩
  keeps := fun _ _ _ ⟨K, i, c⟩ k => ⟨K, PySem.W.Frag.In.keeps i k, c⟩
theorem obsBG_eq {n : Nat} {ts : List (PySem.W.Frag → Bool)} {ds : List DefB} {g : Addr → Option Obj} {s : Shared} (h : ∀ a, g a = s.heap.get? a) : obsBG n ts ds g = (hookB n ts ds).obs s := by
  rw [show g = s.heap.get? from funext h]
  rfl
section
variable {ts : List (PySem.W.Frag → Bool)} {ds : List DefB} {K : PySem.W.Frag}
theorem SaysB.both (c : SaysB ts ds K) : (ts.all fun t => t K) = true ∧ (ds.all fun d => d.ok K) = true := He.ba (show ((ts.all fun t => t K) && ds.all fun d => d.ok K) = true from congrArg (fun z : AlB => z.1) c)
theorem SaysB.test (c : SaysB ts ds K) (i : Nat) {t : PySem.W.Frag → Bool} (h : ts[i]? = some t := by rfl) : t K = true := List.all_eq_true.mp c.both.1 t (List.mem_of_getElem? h)
theorem SaysB.fun (c : SaysB ts ds K) (i : Nat) {d : DefB} (h : ds[i]? = some d := by rfl) : ∃ fd, FunD K d.name d.qual d.params d.body d.scope (d.dvs K) [] (d.ad K) fd := by
  have e : ds.map (fun d => seen K (d.ad K)) = ds.map DefB.val := congrArg (fun z : AlB => z.2) c
  have e2 := congrArg (fun l => l[i]?) e
  simp only [List.getElem?_map, h, Option.map_some, Option.some.injEq] at e2
  exact DefB.fun e2 (List.all_eq_true.mp c.both.2 d (List.mem_of_getElem? h))
end
/-! ### what is asked of the written part -/
def t_glo (x : Str) (K : PySem.W.Frag) : Bool := (He.Fa.glo x).ok K
def t_free (x : Str) (K : PySem.W.Frag) : Bool := (He.Fa.free x).ok K
def t_cls (C : Str) (K : PySem.W.Frag) : Bool := (He.Fa.cls C).ok K
def t_noat (C f : Str) (K : PySem.W.Frag) : Bool := (He.Fa.noat C f).ok K
def t_meth (C m : Str) (K : PySem.W.Frag) : Bool := (He.Fa.meth C m).ok K
def t_mkr (C : Str) (K : PySem.W.Frag) : Bool := (He.Fa.mkr C).ok K
def t_own (C : Str) (K : PySem.W.Frag) : Bool := (He.Fa.cls C).ok K && (He.eqO (PySem.W.findIn K (.ref (He.ga K C)) "__class__") (some (some (.builtin "object.__class__"))) && (He.eqO (PySem.W.specialIn K (.builtin "object.__class__") "__get__") (some (some (.builtin "getset_descriptor.__get__"))) &&
  (decide (PySem.W.takesIn K (.builtin "object.__class__") = some true) && decide (PySem.W.mroIn K (He.ga K C) (.type "object") = some true))))
theorem own_ok {C : Str} {K : PySem.W.Frag} (h : t_own C K = true) : OwnIs K C := by
  obtain ⟨c1, h⟩ := He.ba h
  obtain ⟨c2, h⟩ := He.ba h
  obtain ⟨c3, h⟩ := He.ba h
  obtain ⟨c4, c5⟩ := He.ba h
  exact ⟨He.cls_ok c1, He.eqO_ok c2, He.eqO_ok c3, of_decide_eq_true c4, of_decide_eq_true c5⟩
/-- isinstance(an instance of C, u) -/
def t_kit (C : Str) (u : PySem.W.Frag → Value) (b : Bool) (K : PySem.W.Frag) : Bool := decide (PySem.W.kitOne K (.ref (He.ga K C)) (u K) = some b)
def t_kitT (T : String) (u : PySem.W.Frag → Value) (b : Bool) (K : PySem.W.Frag) : Bool := decide (PySem.W.kitOne K (.type T) (u K) = some b)
def t_kits (C : Str) (us : List Value) (b : Bool) (K : PySem.W.Frag) : Bool := decide (PySem.W.kitAny K (.ref (He.ga K C)) us = some b)
def t_str (C : Str) (K : PySem.W.Frag) : Bool := He.eqO (PySem.W.findIn K (.ref (He.ga K C)) "__str__") (some (some (.ref (He.ma K (He.ga K C) "__str__")))) && PySem.W.isFn K (.ref (He.ma K (He.ga K C) "__str__"))
theorem str_ok {C : Str} {K : PySem.W.Frag} (h : t_str C K = true) : OwnStr K C (He.ma K (He.ga K C) "__str__") := ⟨He.eqO_ok (He.ba h).1, (He.ba h).2⟩
def t_eq (C : Str) (K : PySem.W.Frag) : Bool := He.eqO (PySem.W.findIn K (.ref (He.ga K C)) "__eq__") (some (some (.ref (He.ma K (He.ga K C) "__eq__")))) && (PySem.W.isFn K (.ref (He.ma K (He.ga K C) "__eq__")) &&
  (He.eqO (PySem.W.findIn K (.ref (He.ga K C)) "__ne__") (some (some (.builtin "object.__ne__"))) && decide (PySem.W.mroIn K (He.ga K C) (.type "object") = some true)))
theorem eq_ok {C : Str} {K : PySem.W.Frag} (h : t_eq C K = true) : OwnEq K C (He.ma K (He.ga K C) "__eq__") := by
  obtain ⟨c1, h⟩ := He.ba h
  obtain ⟨c2, h⟩ := He.ba h
  obtain ⟨c3, c4⟩ := He.ba h
  exact ⟨He.eqO_ok c1, c2, He.eqO_ok c3, of_decide_eq_true c4⟩
def t_fn (ad : PySem.W.Frag → Addr) (K : PySem.W.Frag) : Bool := PySem.W.keepIn K (.ref (ad K))
/-- the module's tuple of texts -/
def t_tup (x : Str) (vs : List Str) (K : PySem.W.Frag) : Bool := He.tupB K x (vs.map He.Dv.str)
theorem avs_strs {K : PySem.W.Frag} {W : Wd} {H : Hp} : ∀ {vs : List Str}, (vs.all fun z => PyData.strOk z) = true → AVs K W H (vs.map D.str) ((vs.map He.Dv.str).map (He.Dv.v K))
  | [], _ => .nil
  | z :: r, h => by
    rw [List.all_cons, Bool.and_eq_true] at h
    exact .cons (.str h.1) (avs_strs h.2)
theorem kTup_ok {K : PySem.W.Frag} {x : Str} {vs : List He.Dv} (h : He.tupB K x vs = true) : KTup K (He.ga K x) (vs.map (He.Dv.v K)) := by
  unfold He.tupB at h
  cases q : K.lookup (He.ga K x) with
  | none => rw [q] at h; cases h
  | some o =>
    obtain ⟨oc, od, dt, osl⟩ := o
    rw [q] at h
    cases oc with
    | type c =>
      cases dt with
      | seq its n =>
        obtain ⟨h1, h2⟩ := He.ba (show (decide (c = "tuple") && (decide (its.size ≤ sizeLine) && He.relAll (vs.map (He.Dv.v K)) its.toList)) = true from h)
        obtain ⟨h3, h4⟩ := He.ba h2
        exact ⟨_, its, n, q, congrArg Value.type (of_decide_eq_true h1), rfl, of_decide_eq_true h3, He.relAll_ok h4⟩
      | _ => cases h
    | _ => cases dt <;> cases h
theorem av_tup {K : PySem.W.Frag} {x : Str} {vs : List Str} (h : t_tup x vs K = true) (hv : (vs.all fun z => PyData.strOk z) = true := by decide +kernel) : ∃ v, (∀ W H, AV K W H (.tup (vs.map D.str)) v) ∧ RelV v (.ref (He.ga K x)) :=
  ⟨.ref (He.ga K x), fun W H => .tup (.inr (kTup_ok h)) (avs_strs hv), rfl⟩
/-- the module's text, int -/
def t_txt (x z : Str) (K : PySem.W.Frag) : Bool := (He.Fa.str x z).ok K
def t_int (x : Str) (i : Int) (K : PySem.W.Frag) : Bool := (He.Fa.int x i).ok K
section
variable {K : PySem.W.Frag} {h : Heap} {mg : Str → Option Value}
/-- the empty tuple that is a default -/
def t_dfl0 (f : Str × Option Str) (i : Nat) (K : PySem.W.Frag) : Bool := match K.lookup (He.dflAt f i K) with
  | some ⟨.type c, _, .seq its _, _⟩ => decide (c = "tuple") && decide (its.size = 0)
  | _ => false
theorem av_dfl0 {f : Str × Option Str} {i : Nat} (h : t_dfl0 f i K = true) (W : Wd) (H : Hp) : AV K W H (.tup []) (.ref (He.dflAt f i K)) := by
  unfold t_dfl0 at h
  cases q : K.lookup (He.dflAt f i K) with
  | none => rw [q] at h; cases h
  | some o =>
    obtain ⟨oc, od, dt, osl⟩ := o
    rw [q] at h
    cases oc with
    | type c =>
      cases dt with
      | seq its n =>
        obtain ⟨h1, h2⟩ := He.ba (show (decide (c = "tuple") && decide (its.size = 0)) = true from h)
        have e0 := of_decide_eq_true h2
        refine .tup (.inr ⟨_, its, n, q, congrArg Value.type (of_decide_eq_true h1), rfl, by rw [e0]; exact Nat.zero_le _, ?_⟩) .nil
        rw [show its.toList = [] from by rw [← List.length_eq_zero_iff]; simpa using e0]
        exact .nil
      | _ => cases h
    | _ => cases dt <;> cases h
end
/-! ### a def that may be called, by how many arguments -/
structure Kept (P : Program) (w : World) (K : PySem.W.Frag) (mg : Str → Option Value) (base : Heap) (k : Nat) (f : Addr) (sp : Sp) : Prop where
  ex : ∃ fd ps, FnG P w K mg base k f fd ps sp ∧ Binds K fd ps []
  kp : PySem.W.keepIn K (.ref f) = true
/-- .. with defaults dxs filled up -/
structure KeptD (P : Program) (w : World) (K : PySem.W.Frag) (mg : Str → Option Value) (base : Heap) (k : Nat) (f : Addr) (sp : Sp) (dxs : List D) : Prop where
  ex : ∃ fd ps dvs ds, FnG P w K mg base k f fd ps sp ∧ Binds K fd ps ds ∧ Dft K dxs dvs ds
  kp : PySem.W.keepIn K (.ref f) = true
/-- the place where a body runs -/
structure Here (X : Cx) (Wx : WX) (k : Nat) : Prop where
  tk : Xq.Tk X Wx
  gu : X.A.guards = some []
  room : Room k X.A
section
variable [HasW] {X : Cx} {Wx : WX} {k j n : Nat} {f : Addr} {dxs : List D}
theorem AVs.len_d {K : PySem.W.Frag} {ds : List Value} {dvs : List V} (d : Dft K dxs dvs ds) : dvs.length = dxs.length := (d.av (fun _ => False) (fun _ => none)).length.symm
theorem Here.callE {g : List Bv.X → Sto → R Bv.X} (h : Here X Wx k) (c : Kept X.prog X.w X.K X.mg X.base j f (spE X.K n g)) (hj : j ≤ k := by decide) : CalX X Wx (.ref f) n (withD [] g) := by
  obtain ⟨fd, ps, F, b⟩ := c.ex
  exact cal_E h.tk h.gu F (h.room.mono hj) b dft_nil
theorem Here.callP {g : List D → PR} (h : Here X Wx k) (c : Kept X.prog X.w X.K X.mg X.base j f (spP X.K n g)) (hj : j ≤ k := by decide) : CalX X Wx (.ref f) n (withD [] (Bv.callP g)) := by
  obtain ⟨fd, ps, F, b⟩ := c.ex
  exact cal_P h.tk h.gu F (h.room.mono hj) b dft_nil
theorem Here.make {C : Str} {mk : Nat → R Bv.X → R Bv.X} {g : List Bv.X → Sto → R Bv.X} (hm : Mks mk) (h : Here X Wx k) (M : Mk X.K (He.ga X.K C) f) (c : Kept X.prog X.w X.K X.mg X.base j f (spE X.K (n + 1) g)) (hj : j + 1 ≤ k := by decide) : CalX X Wx (.ref (He.ga X.K C)) n (withD [] (made C mk g)) := by
  obtain ⟨fd, ps, F, b⟩ := c.ex
  exact cal_make hm h.tk h.gu M F (h.room.mono hj) b dft_nil
theorem Here.makeD {C : Str} {mk : Nat → R Bv.X → R Bv.X} {g : List Bv.X → Sto → R Bv.X} (hm : Mks mk) (h : Here X Wx k) (M : Mk X.K (He.ga X.K C) f) (c : KeptD X.prog X.w X.K X.mg X.base j f (spE X.K (n + dxs.length + 1) g) dxs) (hj : j + 1 ≤ k := by decide) : CalX X Wx (.ref (He.ga X.K C)) n (withD dxs (made C mk g)) := by
  obtain ⟨fd, ps, dvs, ds, F, b, d⟩ := c.ex
  have e := AVs.len_d d
  have q := cal_make hm h.tk h.gu M F (h.room.mono hj) b d (by rw [e]; omega)
  rw [e, Nat.add_sub_cancel] at q
  exact q
end
end Bv
set_option Elab.async false
set_option linter.all false
set_option maxRecDepth 100000
set_option maxHeartbeats 4000000
/-! By value: short words for derivations. -/
namespace Bv
open PySem PySem.Spec L2
open PyProof.Rows hiding St
variable [HasW]

theorem here_of {P : Program} {w : World} {K : PySem.W.Frag} {mg : Str → Option Value} {base : Heap} {N : List Str} {qual : Str} {sc : Scope} {f : Addr} {cdv : Value} {A : Around} {outer : List Env} {s : Shared} {H : Hp} {E : XK} {k : Nat}
    (gu : A.guards = some []) (room : Room k (A.deeper (envOfC qual sc s.heap.objs.size f cdv))) : Here (cxB P w K mg base N qual sc f cdv A outer s H E) (wxE E) k :=
  ⟨Xq.tk_of (E := E) rfl rfl rfl rfl, gu, room⟩
theorem own_of {P : Program} {w : World} {K : PySem.W.Frag} {mg : Str → Option Value} {base : Heap} {N : List Str} {qual : Str} {sc : Scope} {f : Addr} {cdv : Value} {A : Around} {outer : List Env} {s : Shared} {H : Hp} {E : XK} :
    PassesOwn (model (cxB P w K mg base N qual sc f cdv A outer s H E).prog (cxB P w K mg base N qual sc f cdv A outer s H E).w) (cxB P w K mg base N qual sc f cdv A outer s H E).A (cxB P w K mg base N qual sc f cdv A outer s H E).env (cxB P w K mg base N qual sc f cdv A outer s H E).xe :=
  passes_of (X := cxB P w K mg base N qual sc f cdv A outer s H E) rfl
theorem ownAt_of {P : Program} {w : World} {K : PySem.W.Frag} {mg : Str → Option Value} {base : Heap} {N : List Str} {qual : Str} {sc : Scope} {f : Addr} {cdv : Value} {A : Around} {outer : List Env} {s : Shared} {H : Hp} {E : XK} (hd : Option Value) :
    PassesOwnAt (model (cxB P w K mg base N qual sc f cdv A outer s H E).prog (cxB P w K mg base N qual sc f cdv A outer s H E).w) ((cxB P w K mg base N qual sc f cdv A outer s H E).A.mark hd) (cxB P w K mg base N qual sc f cdv A outer s H E).A (cxB P w K mg base N qual sc f cdv A outer s H E).env (cxB P w K mg base N qual sc f cdv A outer s H E).xe :=
  L2H.passesAt_of (X := cxB P w K mg base N qual sc f cdv A outer s H E) rfl hd
section
variable {X : Cx} {Wx : WX} {k : Nat} {pos : Pos} {a b c : Expr} {ma mb mc m : M}
theorem Here.blk (h : Here X Wx k) (s : Shared) (H : Hp) (sc : Scope) (ce : Env) (fp : List Addr) : Here (X.blk s H sc ce fp) WX0 k := ⟨Xq.tk0, h.gu, h.room⟩
theorem Here.u1 (h : Here X Wx k) : X.A.units + 1 < cLine := by have := h.room.un; omega
theorem Here.u64 (h : Here X Wx k) : X.A.units + 64 < cLine := by have := h.room.un; omega
theorem Here.u65 (h : Here X Wx k) : X.A.units + 65 < cLine := by have := h.room.un; omega
theorem Here.r0 (h : Here X Wx k) : Room 0 X.A := h.room.mono (Nat.zero_le _)
/-- an operator's two sides -/
structure Opr (X : Cx) (s : Value → Value → Sem Value) (f : D → D → Option D) : Prop where
  ex : ∃ r : R2, OpR X s r ∧ Op2 X.K r f
theorem Here.eq (h : Here X Wx k) : Opr X (compareOp .Eq) eqD := ⟨_, op_eqD h.u64, o_eq⟩
theorem Here.ne (h : Here X Wx k) : Opr X (compareOp .NotEq) neD := ⟨_, op_neD h.u64, o_ne⟩
theorem Here.in_ (h : Here X Wx k) : Opr X (compareOp .In) inD := ⟨_, op_inA h.u65, o_in⟩
theorem Here.nin (h : Here X Wx k) : Opr X (compareOp .NotIn) ninD := ⟨_, op_ninA h.u65, o_nin⟩
theorem Here.lt (h : Here X Wx k) : Opr X (compareOp .Lt) ltD := ⟨_, op_lt, o_cmpI⟩
theorem Here.le (h : Here X Wx k) : Opr X (compareOp .LtE) leD := ⟨_, op_le, o_cmpI⟩
theorem Here.gt (h : Here X Wx k) : Opr X (compareOp .Gt) gtD := ⟨_, op_gt, o_cmpI⟩
theorem Here.ge (h : Here X Wx k) : Opr X (compareOp .GtE) geD := ⟨_, op_ge, o_cmpI⟩
theorem Here.is_ (h : Here X Wx k) : Opr X (compareOp .Is) isD := ⟨_, op_isN, o_is⟩
theorem Here.isn (h : Here X Wx k) : Opr X (compareOp .IsNot) isnD := ⟨_, op_notN, o_isn⟩
theorem Here.isB (h : Here X Wx k) : Opr X (compareOp .Is) Bv.isB := ⟨_, op_isBl, o_isB⟩
theorem Here.isnB (h : Here X Wx k) : Opr X (compareOp .IsNot) Bv.isnB := ⟨_, op_notBl, o_isnB⟩
theorem Here.add (h : Here X Wx k) : Opr X (binaryOp .Add) addD := ⟨_, op_addA, o_add⟩
theorem Here.sub (h : Here X Wx k) : Opr X (binaryOp .Sub) subD := ⟨_, op_sub, o_int0⟩
theorem Here.mul (h : Here X Wx k) : Opr X (binaryOp .Mult) mulD := ⟨_, op_mul, o_intC⟩
theorem Here.fdiv (h : Here X Wx k) : Opr X (binaryOp .FloorDiv) fdivD := ⟨_, op_fdiv, o_intC⟩
theorem Here.mod (h : Here X Wx k) : Opr X (binaryOp .Mod) modD := ⟨_, op_mod, o_intC⟩
theorem Here.pow (h : Here X Wx k) : Opr X (binaryOp .Pow) powD := ⟨_, op_pow, o_intC⟩
theorem Here.eqO {j : Nat} {C : Str} {g : List D → PR} (h : Here X Wx k) (c : Kept X.prog X.w X.K X.mg X.base j (He.ma X.K (He.ga X.K C) "__eq__") (spP X.K 2 g)) (O : OwnEq X.K C (He.ma X.K (He.ga X.K C) "__eq__")) (hj : j ≤ k := by decide) : Opr X (compareOp .Eq) (Bv.eqO C g false) := by
  obtain ⟨fd, ps, F, b⟩ := c.ex
  exact ⟨_, op_eqO h.gu F O (h.room.mono hj) b, o_eqO⟩
theorem Here.neO {j : Nat} {C : Str} {g : List D → PR} (h : Here X Wx k) (c : Kept X.prog X.w X.K X.mg X.base j (He.ma X.K (He.ga X.K C) "__eq__") (spP X.K 2 g)) (O : OwnEq X.K C (He.ma X.K (He.ga X.K C) "__eq__")) (hj : j + 1 ≤ k := by decide) : Opr X (compareOp .NotEq) (Bv.eqO C g true) := by
  obtain ⟨fd, ps, F, b⟩ := c.ex
  exact ⟨_, op_neO h.gu F O (h.room.mono hj) b, o_eqO⟩
theorem e_op {op : Operator} {f : D → D → Option D} (o : Opr X (binaryOp op) f) (ha : ME X Wx a ma) (hb : ME X Wx b mb) : ME X Wx (.BinOp a op b pos) (m_op2 f ma mb) := by
  obtain ⟨r, h1, h2⟩ := o.ex
  exact me_op h1 h2 ha hb
theorem e_cmp {op : CmpOp} {f : D → D → Option D} (o : Opr X (compareOp op) f) (ha : ME X Wx a ma) (hb : ME X Wx b mb) (hm : behindInMarks op b = false := by first | exact nomark _ | (with_unfolding_all rfl)) : ME X Wx (.Compare a [op] [b] pos) (m_op2 f ma mb) := by
  obtain ⟨r, h1, h2⟩ := o.ex
  exact me_cmp h1 h2 ha hb hm
theorem t_cmp {op : CmpOp} {f : D → D → Option D} (o : Opr X (compareOp op) f) (ha : ME X Wx a ma) (hb : ME X Wx b mb) (hm : behindInMarks op b = false := by first | exact nomark _ | (with_unfolding_all rfl)) : MT X Wx (.Compare a [op] [b] pos) (m_tb (m_op2 f ma mb)) := by
  obtain ⟨r, h1, h2⟩ := o.ex
  exact mt_cmp h1 h2 ha hb hm
theorem e_chain {op op' : CmpOp} {f g : D → D → Option D} (o : Opr X (compareOp op) f) (o' : Opr X (compareOp op') g) (ha : ME X Wx a ma) (hb : ME X Wx b mb) (hc : ME X Wx c mc) (hm : lastMarks [op, op'] [b, c] = false := by with_unfolding_all rfl) :
    ME X Wx (.Compare a [op, op'] [b, c] pos) (m_chain f g ma mb mc) := by
  obtain ⟨r, h1, h2⟩ := o.ex
  obtain ⟨r', h1', h2'⟩ := o'.ex
  exact me_chain h1 h1' h2 h2' ha hb hc hm
theorem t_chain {op op' : CmpOp} {f g : D → D → Option D} (o : Opr X (compareOp op) f) (o' : Opr X (compareOp op') g) (ha : ME X Wx a ma) (hb : ME X Wx b mb) (hc : ME X Wx c mc) (hm : lastMarks [op, op'] [b, c] = false := by with_unfolding_all rfl) :
    MT X Wx (.Compare a [op, op'] [b, c] pos) (m_tb (m_chain f g ma mb mc)) := by
  obtain ⟨r, h1, h2⟩ := o.ex
  obtain ⟨r', h1', h2'⟩ := o'.ex
  exact mt_chain h1 h1' h2 h2' ha hb hc hm
/-! ### names of the module, built-in types -/
theorem e_gstr {x z : Str} (hg : Gl X x) (h : ∃ t, X.mg x = some (.str z t)) (hz : PyData.strOk z = true := by decide +kernel) (hd : (x == ("__debug__" : Str)) = false := by decide) : ME X Wx (.Name x pos) (m_c (.str z)) := by
  obtain ⟨t, e⟩ := h
  exact me_glob hg e ⟨.str z, fun _ _ => .str hz, ⟨t, rfl⟩⟩ hd
theorem e_gint {x : Str} {i : Int} (hg : Gl X x) (h : ∃ t, X.mg x = some (.int i t)) (hd : (x == ("__debug__" : Str)) = false := by decide) : ME X Wx (.Name x pos) (m_c (.int i)) := by
  obtain ⟨t, e⟩ := h
  exact me_glob hg e ⟨.int i, fun _ _ => .int i, ⟨t, rfl⟩⟩ hd
theorem e_gtup {x : Str} {vs : List Str} (hg : Gl X x) (h : X.mg x = some (.ref (He.ga X.K x))) (hv : t_tup x vs X.K = true) (hz : (vs.all fun z => PyData.strOk z) = true := by decide +kernel) (hd : (x == ("__debug__" : Str)) = false := by decide) : ME X Wx (.Name x pos) (m_c (.tup (vs.map D.str))) :=
  me_glob hg h (av_tup hv hz) hd
theorem e_gcls {x : Str} (hg : Gl X x) (h : X.mg x = some (.ref (He.ga X.K x))) (hd : (x == ("__debug__" : Str)) = false := by decide) : ME X Wx (.Name x pos) (m_c (.gl x)) :=
  me_glob hg h ⟨.ref (He.ga X.K x), fun _ _ => .gl x, rfl⟩ hd
theorem p_ty {x : Str} {T : String} (hg : Gl X x) (hm : X.mg x = none) (hv : bootBuiltins x = some (.type T) := by rfl) (hn : x ≠ "__name__" := by decide) (hd : (x == ("__debug__" : Str)) = false := by decide) : PE X (.Name x pos) (tC (.ty T)) := pe_bltn hg hm hv rfl hn hd
theorem p_own {x : Str} (hg : Gl X x) (h : X.mg x = some (.ref (He.ga X.K x))) (hd : (x == ("__debug__" : Str)) = false := by decide) : PE X (.Name x pos) (tC (.ref (He.ga X.K x))) := pe_glob hg h rfl hd
end
end Bv
set_option Elab.async false
set_option linter.all false
set_option maxRecDepth 100000
set_option maxHeartbeats 4000000
/-! By value: more short words. -/
namespace Bv
open PySem PySem.Spec L2
open PyProof.Rows hiding St
variable [HasW]
/-- built-in kinds are not of an own class -/
def tabNone : List (String × Bool) := [("NoneType", false), ("bool", false), ("int", false), ("str", false), ("tuple", false), ("list", false), ("dict", false)]
/-- a test that is never come to -/
def t_bad : MG Bool := fun _ _ => .bad
theorem mt_bad {X : Cx} {Wx : WX} {a : Expr} : MT X Wx a t_bad := ⟨fun _ _ _ _ _ _ ⟨Z, ρ, e, S, st, ev, p⟩ => p.elim⟩
section
variable {X : Cx} {Wx : WX} {k j n : Nat} {pos p : Pos} {e : Expr} {es : List Expr} {ms : MG (List Bv.X)} {C : Str} {g : List D → PR}
theorem Kept.strO (c : Kept X.prog X.w X.K X.mg X.base j (He.ma X.K (He.ga X.K C) "__str__") (spP X.K 1 g)) (O : OwnStr X.K C (He.ma X.K (He.ga X.K C) "__str__")) (h : Here X Wx k) (hj : j + 2 ≤ k) (hg : Gl X "str") (hm : X.mg "str" = none) (ha : MA X Wx (e :: es) ms)
    (he : starEach (e :: es) X.env = (false, eval e X.env) :: starEach es X.env := by rfl) (hpl : (backTo pos (starEach es X.env)).any (·.1) = false := by rfl) : ME X Wx (.Call (.Name "str" p) (e :: es) [] pos) (m_call (g_strO C g) ms) := by
  obtain ⟨fd, ps, F, b⟩ := c.ex
  exact me_bty (c_strO h.gu F O (h.room.mono hj) b) b_strO hg hm ha (by rfl) (by decide) (by decide) he hpl
end
end Bv
set_option Elab.async false
set_option linter.all false
set_option maxRecDepth 100000
set_option maxHeartbeats 4000000
/-! By value: facts, from the head's tests. -/
namespace Bv
open PySem PySem.Spec L2
open PyProof.Rows hiding St

def t_isT (u : PySem.W.Frag → Value) (tab : List (String × Bool)) (own : List (Str × Bool)) (K : PySem.W.Frag) : Bool := (tab.all fun p => decide (PySem.W.kitOne K (.type p.1) (u K) = some p.2)) && own.all fun p => t_own p.1 K && decide (PySem.W.kitOne K (.ref (He.ga K p.1)) (u K) = some p.2)
def t_isTs (us : List Value) (tab : List (String × Bool)) (own : List (Str × Bool)) (K : PySem.W.Frag) : Bool := (tab.all fun p => decide (PySem.W.kitAny K (.type p.1) us = some p.2)) && own.all fun p => t_own p.1 K && decide (PySem.W.kitAny K (.ref (He.ga K p.1)) us = some p.2)
def tabsOf (Ts : List String) : List (String × Bool) := ["NoneType", "bool", "int", "str", "tuple", "list", "dict"].map fun k => (k, Ts.any fun T => kitB k T == some true)
section
variable {K : PySem.W.Frag} {h : Heap} {mg : Str → Option Value}
theorem isT_ok {u : PySem.W.Frag → Value} {tab : List (String × Bool)} {own : List (Str × Bool)} (c : t_isT u tab own K = true) : IsT K (u K) tab own := by
  obtain ⟨c1, c2⟩ := He.ba c
  refine ⟨fun k b q => of_decide_eq_true (List.all_eq_true.mp c1 (k, b) (lk_mem q)), fun C b q => ?_⟩
  obtain ⟨c3, c4⟩ := He.ba (List.all_eq_true.mp c2 (C, b) (PySem.mem_of_lookup q))
  exact ⟨own_ok c3, of_decide_eq_true c4⟩
theorem isTs_ok {us : List Value} {tab : List (String × Bool)} {own : List (Str × Bool)} (c : t_isTs us tab own K = true) : IsTs K us tab own := by
  obtain ⟨c1, c2⟩ := He.ba c
  refine ⟨fun k b q => of_decide_eq_true (List.all_eq_true.mp c1 (k, b) (lk_mem q)), fun C b q => ?_⟩
  obtain ⟨c3, c4⟩ := He.ba (List.all_eq_true.mp c2 (C, b) (PySem.mem_of_lookup q))
  exact ⟨own_ok c3, of_decide_eq_true c4⟩
def t_attr (Cs : List Str) (f : Str) (K : PySem.W.Frag) : Bool := Cs.all fun C => t_cls C K && t_noat C f K
theorem attr_ok {Cs : List Str} {f : Str} (c : t_attr Cs f K = true) : AttrOk K Cs f := fun C m => by
  obtain ⟨c1, c2⟩ := He.ba (List.all_eq_true.mp c C m)
  exact ⟨He.cls_ok c1, He.noat_ok c2⟩
theorem glo_ok' (X : K.In h) (G : h.Ns mainGlobals mg) {x : Str} (c : t_glo x K = true) : mg x = some (.ref (He.ga K x)) := He.glo_ok X G c
theorem free_ok' (X : K.In h) (G : h.Ns mainGlobals mg) {x : Str} (c : t_free x K = true) : mg x = none := He.free_ok X G c
theorem txt_ok' (X : K.In h) (G : h.Ns mainGlobals mg) {x z : Str} (c : t_txt x z K = true) : ∃ t, mg x = some (.str z t) := He.str_ok X G c
theorem int_ok' (X : K.In h) (G : h.Ns mainGlobals mg) {x : Str} {i : Int} (c : t_int x i K = true) : ∃ t, mg x = some (.int i t) := He.int_ok X G c
theorem mkr_ok' {C : Str} (c : t_mkr C K = true) : Mk K (He.ga K C) (He.ma K (He.ga K C) "__init__") := He.mkr_ok c
end
section
variable {P : Program} {w : World} {K : PySem.W.Frag} {mg : Str → Option Value} {base : Heap} {k : Nat} {f : Addr} {fd : FuncData} {ps : List Str} {sp : Sp} {x qual : Str} {pa : Arguments} {bd : List Stmt} {sc : Scope} {dl : List V}
/-- a def without defaults -/
theorem kept0 (F : FunD K x qual pa bd sc [] [] f fd) (ok : FnG P w K mg base k f fd ps sp)
    (h : ∀ (kV doc pm : Value) (an : Option Addr) (cdv ct : Value) (us : List Value), us.length = ps.length → bindArgs (PySem.W.fnOf x qual pa bd sc .none kV doc pm an cdv ct) ⟨us, []⟩ = pure (ps.zip us)) : Kept P w K mg base k f sp := ⟨⟨fd, ps, ok, F.bindsN h⟩, F.kp⟩
/-- a def with defaults, all of them given -/
theorem keptA (F : FunD K x qual pa bd sc dl [] f fd) (ok : FnG P w K mg base k f fd ps sp) (hd : dl ≠ [])
    (h : ∀ (T : Addr) (kV doc pm : Value) (an : Option Addr) (cdv ct : Value) (us its : List Value), us.length = ps.length → its.length = dl.length →
      ∃ k, bindArgs (PySem.W.fnOf x qual pa bd sc (.ref T) kV doc pm an cdv ct) ⟨us, []⟩ = seqItems? (.ref T) >>= k ∧ k (some its.toArray) = pure (ps.zip (us ++ its.drop dl.length))) : Kept P w K mg base k f sp := by
  obtain ⟨ds, r, b⟩ := F.binds1 ps.length dl.length hd (by omega) h
  rw [List.drop_length] at r
  cases r
  exact ⟨⟨fd, ps, ok, b⟩, F.kp⟩
/-- .. the last ones not given -/
theorem keptD {dxs : List D} (F : FunD K x qual pa bd sc dl [] f fd) (ok : FnG P w K mg base k f fd ps sp) (n j : Nat) (hd : dl ≠ []) (hn : n + (dl.length - j) = ps.length) (a : ∀ W H, AVs K W H dxs (dl.drop j))
    (h : ∀ (T : Addr) (kV doc pm : Value) (an : Option Addr) (cdv ct : Value) (us its : List Value), us.length = n → its.length = dl.length →
      ∃ k, bindArgs (PySem.W.fnOf x qual pa bd sc (.ref T) kV doc pm an cdv ct) ⟨us, []⟩ = seqItems? (.ref T) >>= k ∧ k (some its.toArray) = pure (ps.zip (us ++ its.drop j))) : KeptD P w K mg base k f sp dxs := by
  obtain ⟨ds, r, b⟩ := F.binds1 n j hd hn h
  exact ⟨⟨fd, ps, dl.drop j, ds, ok, b, ⟨a, r⟩⟩, F.kp⟩
end
/-! ### the end -/
theorem law_sp {K : PySem.W.Frag} {g : List D → PR} (hg : ∀ ns : List Int, ns.length ≤ 63 → g [.scr ns] = .ok (.bl true)) (H : Hp) (a : Addr) (ns : List Int) (hl : ns.length ≤ 63) (only : Only H) (hS : SqL K H a (ns.map V.int)) : spP K 1 g [.ref a] H (fun v _ => v = .bl true) fun _ _ _ => False := by
  refine ⟨rfl, fun _ => False, [.scr ns], fun _ z => z.elim, .cons (.scr ?_) .nil, ?_⟩
  · rcases hS with h | h
    · exact .inl ⟨fun z => z, h⟩
    · exact .inr h
  · rw [hg ns hl]
    intro H' v k a
    cases a
    rfl
end Bv
set_option Elab.async false
set_option linter.all false
set_option maxRecDepth 100000
set_option maxHeartbeats 4000000
/-! By value: len(set(texts)). -/
namespace Bv
open PySem PySem.Spec L2
open PyProof.Rows hiding St
variable [HasW]

/-- each text once, as it was first met -/
def sawStep (acc : List Str) (x : Str) : List Str := if acc.contains x then acc else acc ++ [x]
def sawn (xs : List Str) : List Str := xs.foldl sawStep []
theorem sawn_succ {xs : List Str} {i : Nat} (h : i < xs.length) : sawn (xs.take (i + 1)) = sawStep (sawn (xs.take i)) (xs.getD i Str.empty) := by
  unfold sawn
  rw [List.take_add_one, List.getElem?_eq_getElem h, Option.toList_some, List.foldl_append]
  simp [List.getD_eq_getElem?_getD, h]
theorem saw_contains (acc : List Str) (x k : Str) : (sawStep acc x).contains k = (acc.contains k || decide (k = x)) := by
  unfold sawStep
  by_cases h : acc.contains x = true
  · rw [if_pos h]
    by_cases e : k = x
    · rw [e, h]; rfl
    · simp [e]
  · rw [if_neg h]
    simp [List.contains_append, Bool.or_comm, eq_comm]
theorem saw_length (acc : List Str) (x : Str) : (sawStep acc x).length = if acc.contains x then acc.length else acc.length + 1 := by
  unfold sawStep
  split <;> simp
theorem sawn_le : ∀ (xs acc : List Str), (xs.foldl sawStep acc).length ≤ acc.length + xs.length
  | [], acc => by simp
  | x :: r, acc => by
    have h := sawn_le r (sawStep acc x)
    have h2 := saw_length acc x
    simp only [List.foldl_cons, List.length_cons]
    split at h2 <;> omega
section
variable {prog : Program} {w : World} {A : Around} {R : Result → Shared → Prop} {it : Addr} {fp wr : List Addr} {G : Array GenState → Array GenState → Prop} {n : Nat} {P : Nat → Value → Prop} {St : Nat → Shared → Prop}
/-- the loop that fills a set -/
theorem fill (W : WalksS prog w A.in1 it fp wr G n P St) (S : Addr) (apart : S ∉ fp) (xs : List Str) (many : xs.length = n) (few : xs.length + 1 < scanBound) (says : ∀ i v, P i v → ∃ t, v = .str (xs.getD i Str.empty) t) :
    ∀ (k i : Nat) (s : Shared), n - i = k → i ≤ n → St i s → s.heap.SetOf (PySem.strKind prog w) S (fun k => (sawn (xs.take i)).contains k) (sawn (xs.take i)).length →
      (∀ s', Moved (S :: wr) G s s' → s'.heap.SetOf (PySem.strKind prog w) S (fun k => (sawn (xs.take n)).contains k) (sawn (xs.take n)).length → R (.ok (.ret .none)) s') →
      codeAny (model prog w) A (.builtin "set.update.loop" ⟨[.ref S, .ref it], []⟩) R s := by
  have out : S ∉ wr := fun z => apart (W.sub _ z)
  have more : ∀ b ∈ wr, b ∈ S :: wr := fun b z => List.mem_cons_of_mem _ z
  have stay : ∀ {i : Nat} {s s' : Shared}, Moved wr G s s' → s.heap.SetOf (PySem.strKind prog w) S (fun k => (sawn (xs.take i)).contains k) (sawn (xs.take i)).length → s'.heap.SetOf (PySem.strKind prog w) S (fun k => (sawn (xs.take i)).contains k) (sawn (xs.take i)).length :=
    fun mv ⟨o, es, ep, t, q, rest⟩ => ⟨o, es, ep, t, mv.heap S _ out q, rest⟩
  intro k
  induction k with
  | zero =>
    intro i s e1 e2 st set fin
    obtain rfl : i = n := by omega
    refine (codeAny_builtin PyProof.Rows.F.entry_set_update_loop ?_)
    rw [(Around.under_plainId PyProof.Rows.F.plain_set_update_loop _)]
    show wpAny _ A.in1 (pyNext (.ref it) >>= _) _ _ s
    refine wpAny_bind (W.done s _ _ st fun s' mv => ?_)
    exact wpAny_pure (fin s' (mv.mono more) (stay mv set))
  | succ k ih =>
    intro i s e1 e2 st set fin
    have lt : i < n := by omega
    refine (codeAny_builtin PyProof.Rows.F.entry_set_update_loop ?_)
    rw [(Around.under_plainId PyProof.Rows.F.plain_set_update_loop _)]
    show wpAny _ A.in1 (pyNext (.ref it) >>= _) _ _ s
    refine wpAny_bind (W.item i s _ _ lt st fun v s' p st' mv => ?_)
    obtain ⟨t, rfl⟩ := says i v p
    have set' := stay mv set
    have room : (sawn (xs.take i)).length + 1 < scanBound := by
      have h := sawn_le (xs.take i) []
      have h2 := List.length_take_le i xs
      unfold sawn at *
      simp only [List.length_nil, Nat.zero_add] at h
      omega
    show wpAny _ A.in1 (holding [Value.str (xs.getD i Str.empty) t] (setAdd S (.str (xs.getD i Str.empty) t)) >>= _) _ _ s'
    refine (wpAny_bind (wpAny_holding ?_))
    unfold setAdd
    refine (wpAny_holding (wpAny_bind ((PySem.strKind prog w).pyHash (k := xs.getD i Str.empty) (strKind_is _ _ _ _) ?_)))
    refine wpAny_setAddHashed_of (knd := PySem.strKind prog w) (s := { s' with toks := s'.toks + 1 }) (strKind_is _ _ _ _) rfl set' room fun h' but set2 => ?_
    have set3 : h'.SetOf (PySem.strKind prog w) S (fun k => (sawn (xs.take (i + 1))).contains k) (sawn (xs.take (i + 1))).length := SetOf_congr set2 (fun k => by rw [sawn_succ (by omega), saw_contains]) (by rw [sawn_succ (by omega), saw_length])
    refine wpAny_pure ⟨plainId_quiet PyProof.Rows.F.plain_set_update_loop _, ih (i + 1) _ (by omega) lt (W.frame _ s' _ _ st' (Nat.le_succ _) fun b z o q => ?_) set3 fun s2 mv2 q2 => ?_⟩
    · rw [but.2 b fun y => apart (by rw [← y]; exact z)]; exact q
    · refine fin s2 (Moved.trans W.gtrans ((mv.mono more).then_heap (Nat.le_succ _) fun b o z q => ?_) mv2) q2
      rw [but.2 b fun y => z (by rw [y]; exact List.mem_cons_self)]; exact q
end
section
variable {prog : Program} {w : World} {A : Around} {E : Value → Shared → Prop} {s : Shared}

set_option maxHeartbeats 3200000 in
theorem set_list {l : Addr} {items : Array Value} {xs : List Str} {Q : Value → Shared → Prop} (calm : A.handled = none) (at_ : s.heap.IsList l items) (are : StrsAre items.toList xs) (few : xs.length + 1 < scanBound)
    (fin : ∀ (h' : Heap) (tk : Nat), h'.SetOf (PySem.strKind prog w) s.heap.objs.size (fun k => (sawn xs).contains k) (sawn xs).length → (∀ b o, b < s.heap.objs.size → s.heap.get? b = some o → h'.get? b = some o) → Q (.ref s.heap.objs.size) { s with heap := h', toks := tk }) :
    wpAny (model prog w) A (call (.type "set") [.ref l]) Q E s := by
  obtain ⟨c, tl, known⟩ := PySem.F.called_set.mro
  have mk := PySem.F.called_set.made
  have below := PySem.F.called_set.sub
  have no1 := PySem.F.called_set.notType
  have may := PySem.F.called_set.canCreate
  have chk := PySem.F.typeCall_set_1 (.ref l)
  have slen : xs.length = items.size := by rw [← StrsAre.len_eq are, Array.length_toList]
  refine wpAny_call (codeAny_of_tree ?_)
  show wpAny _ _ (callAny (.type "set") _) _ E s
  refine (wpAny_pure ⟨Code.quiet_builtin _ (by decide +kernel), (codeAny_builtin PySem.F.entry_type_call ?_)⟩)
  rw [(Around.under_plain (weight_type_call_type "set" [.ref l] []) rfl)]
  (repeat (any_goals (first | assumption | wp_step)))
  let new (led : Bool) : Heap := s.heap.push { cls := .type "set", dict := none, data := .set #[] 0 (.fresh 0 0 led) }
  refine codeAny_mono (code_set_new_1 (.ref l) (E := E) (Q₁ := fun obj s1 => ∃ led : Bool, obj = .ref s.heap.objs.size ∧ s1 = { s with heap := new led }) fun led => ⟨led, rfl, rfl⟩) fun y s1 z => ?_
  match y, z with
  | .error e, z => exact z
  | .ok (.ret obj), z =>
    obtain ⟨led, rfl, rfl⟩ := z
    have there : (new led).get? s.heap.objs.size = some { cls := .type "set", dict := none, data := .set #[] 0 (.fresh 0 0 led) } := Heap.get?_push_size _ rfl
    have isSet : Shared.TypeIs { s with heap := new led } (.ref s.heap.objs.size) "set" := ⟨_, there, rfl⟩
    have look := PySem.F.called_set.init.lookup
    have bound := PySem.F.called_set.init.bind (.ref s.heap.objs.size)
    (repeat (any_goals (first | assumption | wp_step)))
    refine codeAny_mono (codeAny_call_builtin (R := wants (fun r s2 => r = .none ∧ ∃ h' tk, s2 = { s with heap := h', toks := tk } ∧ h'.SetOf (PySem.strKind prog w) s.heap.objs.size (fun k => (sawn xs).contains k) (sawn xs).length ∧ (∀ b o, b < s.heap.objs.size → s.heap.get? b = some o → h'.get? b = some o)) E)
      PySem.F.called_set.init.plain PySem.F.entry_set_init (check_set_init_1 isSet ?_)) fun y2 s2 z2 => ?_
    · obtain ⟨ob, hob, cl, n, dt⟩ := at_
      obtain ⟨obc, obd, obt, obs⟩ := ob
      simp only at cl dt
      subst cl dt
      have ob2 : (new led).get? l = some { cls := .type "list", dict := obd, data := .seq items n, slots := obs } := Heap.get?_push_of_some _ hob
      have no2 := PySem.F.sub_list_set
      have no3 := PySem.F.sub_list_frozenset
      have no4 : (Value.type "list" == Value.type "dict") = false := by decide
      have isL : (new led).IsList l items := ⟨_, ob2, rfl, n, rfl⟩
      unfold Builtin.«set.__init__» noKeywords Builtin.Frozenset.updateFrom
      generalize hp : pyIter = it
      wp_walk
      subst hp
      refine wpAny_pyIter_list isL ?_
      refine (wpAny_bind (wpAny_runValue ?_))
      have lt : l < s.heap.objs.size := Heap.lt_size hob
      have sz : (new led).objs.size = s.heap.objs.size + 1 := Heap.size_push ..
      have off1 : l ≠ (new led).objs.size := by rw [sz]; exact Nat.ne_of_lt (Nat.lt_succ_of_lt lt)
      have off2 : s.heap.objs.size ∉ [(new led).objs.size, l] := by
        simp only [List.mem_cons, List.not_mem_nil, or_false, not_or]
        exact ⟨by rw [sz]; exact Nat.ne_of_lt (Nat.lt_succ_self _), Nat.ne_of_gt lt⟩
      refine fill ((Walks.list (show A.in1.in1.in1.handled = none by simp [calm]) _ l off1 items).toS) s.heap.objs.size off2 xs slen few (fun i v q => SS.strs_at are i v (by rw [Array.getElem?_toList]; exact q)) (items.size - 0) 0 _ (by omega) (Nat.zero_le _) ⟨⟨_, Heap.get?_push_size _ rfl, rfl, rfl⟩, isL.push _⟩ ?_ ?_
      · have there2 : ((new led).push { cls := .type "list_iterator", data := .fields #[.ref l, .int 0 0] }).get? s.heap.objs.size = some { cls := .type "set", dict := none, data := .set #[] 0 (.fresh 0 0 led) } := Heap.get?_push_of_some _ there
        exact SetOf_congr ((setObjOf_fresh (knd := PySem.strKind prog w) led).setOf there2 (by unfold scanBound; omega)) (fun _ => rfl) rfl
      · intro s3 mv set3
        obtain ⟨h3, g3, d3, t3, o3⟩ := s3
        obtain rfl : g3 = s.gens := mv.gens
        obtain rfl : d3 = s.drawn := mv.drawn
        obtain rfl : o3 = s.os := mv.os
        show (wpAny _ _ _ _ _ _)
        refine (wpAny_pure ?_)
        show (wpAny _ _ (ret Value.none) _ _ _)
        refine wpAny_pure ⟨rfl, h3, t3, rfl, by rw [← slen, List.take_length] at set3; exact set3, fun b o hb q => ?_⟩
        exact mv.heap b o (by simp only [List.mem_cons, List.not_mem_nil, or_false, not_or]; exact ⟨Nat.ne_of_lt hb, by rw [sz]; exact Nat.ne_of_lt (Nat.lt_succ_of_lt hb)⟩) (Heap.get?_push_of_some _ (Heap.get?_push_of_some _ q))
    · match y2, z2 with
      | .error e, z2 => exact z2
      | .ok (.ret r), z2 =>
        obtain ⟨rfl, h3, t3, rfl, set3, keep3⟩ := z2
        (repeat (any_goals (first | assumption | wp_step)))
        exact fin _ _ set3 keep3
      | .ok .next, z2 => exact z2.elim
      | .ok .brk, z2 => exact z2.elim
      | .ok .cont, z2 => exact z2.elim
  | .ok .next, z => exact z.elim
  | .ok .brk, z => exact z.elim
  | .ok .cont, z => exact z.elim
end
end Bv
set_option Elab.async false
set_option linter.all false
set_option maxRecDepth 100000
set_option maxHeartbeats 4000000
/-! By value: len(set(texts)), of a tuple; the rule. -/
namespace Bv
open PySem PySem.Spec L2
open PyProof.Rows hiding St
variable [HasW]
section
variable {prog : Program} {w : World} {A : Around} {E : Value → Shared → Prop} {s : Shared}

set_option maxHeartbeats 3200000 in
theorem set_tuple {l : Addr} {items : Array Value} {xs : List Str} {Q : Value → Shared → Prop} (calm : A.handled = none) (at_ : s.heap.IsTuple l items) (are : StrsAre items.toList xs) (few : xs.length + 1 < scanBound)
    (fin : ∀ (h' : Heap) (tk : Nat), h'.SetOf (PySem.strKind prog w) s.heap.objs.size (fun k => (sawn xs).contains k) (sawn xs).length → (∀ b o, b < s.heap.objs.size → s.heap.get? b = some o → h'.get? b = some o) → Q (.ref s.heap.objs.size) { s with heap := h', toks := tk }) :
    wpAny (model prog w) A (call (.type "set") [.ref l]) Q E s := by
  obtain ⟨c, tl, known⟩ := PySem.F.called_set.mro
  have mk := PySem.F.called_set.made
  have below := PySem.F.called_set.sub
  have no1 := PySem.F.called_set.notType
  have may := PySem.F.called_set.canCreate
  have chk := PySem.F.typeCall_set_1 (.ref l)
  have slen : xs.length = items.size := by rw [← StrsAre.len_eq are, Array.length_toList]
  refine wpAny_call (codeAny_of_tree ?_)
  show wpAny _ _ (callAny (.type "set") _) _ E s
  refine (wpAny_pure ⟨Code.quiet_builtin _ (by decide +kernel), (codeAny_builtin PySem.F.entry_type_call ?_)⟩)
  rw [(Around.under_plain (weight_type_call_type "set" [.ref l] []) rfl)]
  (repeat (any_goals (first | assumption | wp_step)))
  let new (led : Bool) : Heap := s.heap.push { cls := .type "set", dict := none, data := .set #[] 0 (.fresh 0 0 led) }
  refine codeAny_mono (code_set_new_1 (.ref l) (E := E) (Q₁ := fun obj s1 => ∃ led : Bool, obj = .ref s.heap.objs.size ∧ s1 = { s with heap := new led }) fun led => ⟨led, rfl, rfl⟩) fun y s1 z => ?_
  match y, z with
  | .error e, z => exact z
  | .ok (.ret obj), z =>
    obtain ⟨led, rfl, rfl⟩ := z
    have there : (new led).get? s.heap.objs.size = some { cls := .type "set", dict := none, data := .set #[] 0 (.fresh 0 0 led) } := Heap.get?_push_size _ rfl
    have isSet : Shared.TypeIs { s with heap := new led } (.ref s.heap.objs.size) "set" := ⟨_, there, rfl⟩
    have look := PySem.F.called_set.init.lookup
    have bound := PySem.F.called_set.init.bind (.ref s.heap.objs.size)
    (repeat (any_goals (first | assumption | wp_step)))
    refine codeAny_mono (codeAny_call_builtin (R := wants (fun r s2 => r = .none ∧ ∃ h' tk, s2 = { s with heap := h', toks := tk } ∧ h'.SetOf (PySem.strKind prog w) s.heap.objs.size (fun k => (sawn xs).contains k) (sawn xs).length ∧ (∀ b o, b < s.heap.objs.size → s.heap.get? b = some o → h'.get? b = some o)) E)
      PySem.F.called_set.init.plain PySem.F.entry_set_init (check_set_init_1 isSet ?_)) fun y2 s2 z2 => ?_
    · obtain ⟨ob, hob, cl, n, dt⟩ := at_
      obtain ⟨obc, obd, obt, obs⟩ := ob
      simp only at cl dt
      subst cl dt
      have ob2 : (new led).get? l = some { cls := .type "tuple", dict := obd, data := .seq items n, slots := obs } := Heap.get?_push_of_some _ hob
      have no2 := PySem.F.sub_tuple_set
      have no3 := PySem.F.sub_tuple_frozenset
      have no4 : (Value.type "tuple" == Value.type "dict") = false := by decide
      have isL : (new led).IsTuple l items := ⟨_, ob2, rfl, n, rfl⟩
      unfold Builtin.«set.__init__» noKeywords Builtin.Frozenset.updateFrom
      generalize hp : pyIter = it
      wp_walk
      subst hp
      refine wpAny_pyIter_tuple isL ?_
      refine (wpAny_bind (wpAny_runValue ?_))
      have lt : l < s.heap.objs.size := Heap.lt_size hob
      have sz : (new led).objs.size = s.heap.objs.size + 1 := Heap.size_push ..
      have off1 : l ≠ (new led).objs.size := by rw [sz]; exact Nat.ne_of_lt (Nat.lt_succ_of_lt lt)
      have off2 : s.heap.objs.size ∉ [(new led).objs.size, l] := by
        simp only [List.mem_cons, List.not_mem_nil, or_false, not_or]
        exact ⟨by rw [sz]; exact Nat.ne_of_lt (Nat.lt_succ_self _), Nat.ne_of_gt lt⟩
      refine fill ((Walks.tuple (show A.in1.in1.in1.handled = none by simp [calm]) _ l off1 items).toS) s.heap.objs.size off2 xs slen few (fun i v q => SS.strs_at are i v (by rw [Array.getElem?_toList]; exact q)) (items.size - 0) 0 _ (by omega) (Nat.zero_le _) ⟨⟨_, Heap.get?_push_size _ rfl, rfl, rfl⟩, isL.push _⟩ ?_ ?_
      · have there2 : ((new led).push { cls := .type "tuple_iterator", data := .fields #[.ref l, .int 0 0] }).get? s.heap.objs.size = some { cls := .type "set", dict := none, data := .set #[] 0 (.fresh 0 0 led) } := Heap.get?_push_of_some _ there
        exact SetOf_congr ((setObjOf_fresh (knd := PySem.strKind prog w) led).setOf there2 (by unfold scanBound; omega)) (fun _ => rfl) rfl
      · intro s3 mv set3
        obtain ⟨h3, g3, d3, t3, o3⟩ := s3
        obtain rfl : g3 = s.gens := mv.gens
        obtain rfl : d3 = s.drawn := mv.drawn
        obtain rfl : o3 = s.os := mv.os
        show (wpAny _ _ _ _ _ _)
        refine (wpAny_pure ?_)
        show (wpAny _ _ (ret Value.none) _ _ _)
        refine wpAny_pure ⟨rfl, h3, t3, rfl, by rw [← slen, List.take_length] at set3; exact set3, fun b o hb q => ?_⟩
        exact mv.heap b o (by simp only [List.mem_cons, List.not_mem_nil, or_false, not_or]; exact ⟨Nat.ne_of_lt hb, by rw [sz]; exact Nat.ne_of_lt (Nat.lt_succ_of_lt hb)⟩) (Heap.get?_push_of_some _ (Heap.get?_push_of_some _ q))
    · match y2, z2 with
      | .error e, z2 => exact z2
      | .ok (.ret r), z2 =>
        obtain ⟨rfl, h3, t3, rfl, set3, keep3⟩ := z2
        (repeat (any_goals (first | assumption | wp_step)))
        exact fin _ _ set3 keep3
      | .ok .next, z2 => exact z2.elim
      | .ok .brk, z2 => exact z2.elim
      | .ok .cont, z2 => exact z2.elim
  | .ok .next, z => exact z.elim
  | .ok .brk, z => exact z.elim
  | .ok .cont, z => exact z.elim
end
def g_lenset : List Bv.X → Sto → R Bv.X
  | [x], S => (match (items S x).bind strs? with
    | some xs => if decide (xs.length + 1 < scanBound) then .ok (.d (.int (sawn xs).length)) S else .bad
    | none => .bad)
  | _, _ => .bad
def m_lenset (m : M) : M := fun e S => (m e S).bind fun x S1 => g_lenset [x] S1
section
variable {X : Cx} {Wx : WX} {p p2 q pos : Pos} {a : Expr} {m : M}
theorem me_lenset (hc : X.calm = true) (hg : Gl X "len") (hm : X.mg "len" = none) (hg2 : Gl X "set") (hm2 : X.mg "set" = none) (ha : ME X Wx a m) (na : starEach [a] X.env = (false, eval a X.env) :: starEach [] X.env := by rfl) :
    ME X Wx (.Call (.Name "len" p) [.Call (.Name "set" p2) [a] [] q] [] pos) (m_lenset m) := ⟨fun pins s σ H Q I ⟨Z, ρ, e, S, st, ev, w⟩ => by
  refine Call_ (ld_blt I hg hm boot_len (callWith_builtin1 (args_cons (Call_ (ld_blt I hg2 hm2 boot_set (callWith_type1 (args_cons (thn (ha.run pins s σ H _ I (tt_bind (R' := fun v H1 => ∃ (b : Addr) (xs : List Str), v = .ref b ∧ (SqT X.K H1 b (xs.map V.str) ∨ SqL X.K H1 b (xs.map V.str)) ∧ xs.length + 1 < scanBound ∧ Q (.int (sawn xs).length) H1) st ev w
    fun ρ1 H1 v x S1 s1 g1 ev1 a1 p1 => ?_)) fun v s1 ⟨x, H1, I1, r1, b, xs, ex, hq, few, q1⟩ => args_nil ?_) na) na rfl))) rfl) rfl rfl))
  · have p1 : PostG (AX X.K) X.K Z ρ1 H1 Wx σ Q (match (items S1 x).bind strs? with
      | some xs => if decide (xs.length + 1 < scanBound) then .ok (.d (.int (sawn xs).length)) S1 else .bad
      | none => .bad) := p1
    cases y : (items S1 x).bind strs? with
    | none => rw [y] at p1; exact p1.elim
    | some xs =>
      rw [y] at p1
      have p1 : PostG (AX X.K) X.K Z ρ1 H1 Wx σ Q (if decide (xs.length + 1 < scanBound) then .ok (.d (.int (sawn xs).length)) S1 else .bad) := p1
      split at p1
      · rename_i few
        obtain ⟨ys, h1, h2⟩ := Option.bind_eq_some_iff.mp y
        obtain ⟨b, us, rfl, hq, hp⟩ := a1.items s1 h1
        obtain ⟨rfl, _⟩ := strs_inv hp h2
        exact ⟨b, xs, rfl, hq, of_decide_eq_true few, PostG.ret0 p1 s1 (.d (.int _))⟩
      · exact p1.elim
  · subst ex
    cases r1
    have fin : ∀ (h' : Heap) (tk : Nat), h'.SetOf (PySem.strKind X.prog X.w) s1.heap.objs.size (fun k => (sawn xs).contains k) (sawn xs).length → (∀ b o, b < s1.heap.objs.size → s1.heap.get? b = some o → h'.get? b = some o) →
        wpAny (model X.prog X.w) X.A (spliced (backTo pos (starEach [] X.env))) (fun vs s2 => wpAny (model X.prog X.w) X.A (call (.builtin "len") (Value.ref s1.heap.objs.size :: vs)) (EP X pins σ Q) X.xe s2) X.xe { s1 with heap := h', toks := tk } := fun h' tk set keep => by
      refine args_nil ?_
      obtain ⟨o, es, ep, t, ho, hex, hd, _, _, _, hf, hn⟩ := set
      have I2 : Inv X pins σ H1 { s1 with heap := h', toks := tk } := I1.kept fun b o e => keep b o (Heap.lt_size e) e
      have le := sawn_le xs []
      refine call_len_set ho hex hd hf (by rw [hn]; unfold sawn scanBound at *; simp only [List.length_nil, Nat.zero_add] at le; omega) ⟨.int (sawn xs).length, H1, I2.tok _, ⟨_, by rw [hn]⟩, q1⟩
    rcases hq with hq | hq
    · obtain ⟨its, r, pl, _⟩ := I1.tuple hq
      exact set_tuple (I1.ok.hd hc) pl (by simpa using strsAre_of r) few fun h' tk set keep => fin h' tk set keep
    · obtain ⟨its, r, pl, _⟩ := I1.list hq
      exact set_list (I1.ok.hd hc) pl.isList (by simpa using strsAre_of r) few fun h' tk set keep => fin h' tk set keep⟩
end
end Bv
set_option Elab.async false
set_option linter.all false
set_option maxRecDepth 100000
set_option maxHeartbeats 4000000
/-! By value: classmethods, a class held by a name, try that runs through, x op= e, methods of texts. -/
namespace Bv
open PySem PySem.Spec L2
open PyProof.Rows hiding St

/-! ### C.m(..) of a classmethod -/
structure ClsM (K : PySem.W.Frag) (C m : Str) : Prop where
  rd : ClX.CRead K (He.ga K C) (.type "type")
  me : ClX.CMet K (He.ga K C) (.type "type") m (He.ma K (He.ga K C) m) (cmAd C m K)
def t_cm (C m : Str) (K : PySem.W.Frag) : Bool := PySem.W.readsIn K (He.ga K C) (.type "type") && (He.eqO (PySem.W.specialIn K (.ref (He.ga K C)) "__getattribute__") (some (some (.builtin "type.__getattribute__"))) &&
  ((match PySem.W.findCls K (.ref (He.ga K C)) (.type "type") m with
    | some (.get (.builtin id) (.ref p) .none (.ref c)) => decide (id = "classmethod.__get__") && (decide (p = He.ma K (He.ga K C) m) && decide (c = He.ga K C))
    | _ => false) && ((match PySem.W.recIn K (He.ma K (He.ga K C) m) "classmethod" with
    | some (.ref _ :: _) => true
    | _ => false) && PySem.W.fnIn K (cmAd C m K))))
theorem cm_ok {C m : Str} {K : PySem.W.Frag} (h : t_cm C m K = true) : ClsM K C m := by
  obtain ⟨c1, h⟩ := He.ba h
  obtain ⟨c2, h⟩ := He.ba h
  obtain ⟨c3, h⟩ := He.ba h
  obtain ⟨c4, c5⟩ := He.ba h
  refine ⟨⟨c1, He.eqO_ok c2⟩, ⟨?_, ?_, c5⟩⟩
  · split at c3
    · rename_i id p c q
      obtain ⟨e1, e2⟩ := He.ba c3
      obtain ⟨e2, e3⟩ := He.ba e2
      obtain rfl := of_decide_eq_true e1
      obtain rfl := of_decide_eq_true e2
      obtain rfl := of_decide_eq_true e3
      exact q
    · cases c3
  · split at c4
    · rename_i g rest q
      refine ⟨rest, ?_⟩
      have e : cmAd C m K = g := by unfold cmAd; rw [q]
      rw [e]; exact q
    · cases c4
def m_cmeth (C : Str) (g : List Bv.X → Sto → R Bv.X) (mo : M) (ms : MG (List Bv.X)) : M := fun e S => (mo e S).bind fun x S1 => match x with
  | .d (.gl D) => if decide (D = C) then (ms e S1).bind fun xs S2 => g (x :: xs) S2 else .bad
  | _ => .bad
section
variable [HasW] {X : Cx} {Wx : WX} {n : Nat} {x : Str} {p pos apos : Pos} {e o : Expr} {es : List Expr} {ms : MG (List Bv.X)} {mo m : M} {g : List Bv.X → Sto → R Bv.X} {C mth : Str} {pl : Sem Bool}
theorem me_cm (cc : CalX X Wx (.ref (cmAd C mth X.K)) n g) (k : ClsM X.K C mth) (ho : ME X Wx o mo) (ha : MA X Wx (e :: es) ms) (hst : starEach (e :: es) X.env = (false, eval e X.env) :: starEach es X.env := by rfl) (hpl : (backTo pos (starEach es X.env)).any (·.1) = false := by rfl)
    (ht : eval (.Call (.Attribute o mth apos) (e :: es) [] pos) X.env = (do
      let ov ← eval o X.env
      standAt apos.atName
      let (f, first) ← holding [ov] (getMethod ov mth pl)
      callWith pos f first (backTo pos (starEach (e :: es) X.env)) (backToKw pos (keywordEach [] X.env))) := by rfl) : ME X Wx (.Call (.Attribute o mth apos) (e :: es) [] pos) (m_cmeth C (arity n g) mo ms) := ⟨fun pins s σ H Q I ⟨Z, ρ, e, S, st, ev, q⟩ => by
  refine PySem.W.methodCall_KW (pl := pl) (thn (ho.run pins s σ H _ I (tt_bind (R' := fun v H1 => v = .ref (He.ga X.K C) ∧ ∃ (ρ1 : List Addr) (S1 : Sto), Sta X.K Z ρ1 S1 H1 ∧ EvOk X.K (Wn Z ρ1) ρ1 H1 e σ ∧ PostG (AX X.K) X.K Z ρ1 H1 Wx σ Q ((ms e S1).bind fun xs S2 => arity n g (.d (.gl C) :: xs) S2)) st ev q
    fun ρ1 H1 v y S1 s1 g1 ev1 a1 p1 => by
      cases a1 with
      | r _ => exact p1.elim
      | d a =>
        cases a with
        | gl D =>
          have p2 : PostG (AX X.K) X.K Z ρ1 H1 Wx σ Q (if decide (D = C) then (ms e S1).bind fun xs S2 => arity n g (.d (.gl D) :: xs) S2 else .bad) := p1
          clear p1
          by_cases hd : D = C
          · rw [if_pos (decide_eq_true hd)] at p2
            subst hd
            exact ⟨rfl, ρ1, S1, s1, ev1, p2⟩
          · rw [if_neg (by simpa using hd)] at p2; exact p2.elim
        | _ => exact p1.elim)) fun u s1 ⟨x, H1, I1, rx, ex, ρ1, S1, st1, ev1, p1⟩ => ?_) ht
  subst ex
  obtain rfl : u = Value.ref (He.ga X.K C) := rx
  refine ClX.getmethcm_ok I1 k.rd k.me fun s2 I2 => ?_
  refine ClX.callwith_cm I2 (ClX.base_none I1 (Nat.le_refl _)) k.me.fi (thn (ha.run pos _ s2 σ H1 _ I2 (tt_bind (R' := fun vs H2 => ∃ (ρ2 : List Addr) (xs : List Bv.X) (S2 : Sto), Sta X.K Z ρ2 S2 H2 ∧ AXs X.K (Wn Z ρ2) ρ2 H2 xs vs ∧ PostG (AX X.K) X.K Z ρ2 H2 Wx σ Q (arity n g (.d (.gl C) :: xs) S2)) st1 ev1 p1
    fun ρ2 H2 v xs S2 s2 g2 ev2 a2 p2 => ⟨ρ2, xs, S2, s2, a2, p2⟩)) fun us s3 ⟨vs, H2, I3, rv, ρ2, xs, S2, st2, a2, p2⟩ => ⟨⟨ClX.pin_at I3, I3.kIn⟩, ?_⟩) hst hpl
  obtain ⟨hl, p3⟩ := ari (rel := PostG (AX X.K) X.K Z ρ2 H2 Wx σ Q) (fun z => z) p2
  have aa : AXs X.K (Wn Z ρ2) ρ2 H2 (.d (.gl C) :: xs) (V.ref (He.ga X.K C) :: vs) := .cons (.d (.gl C)) a2
  have z := wpAny_call (PySem.W.method_call (ClX.pin_at I3) (cc _ s3 σ H2 Q (.ref (He.ga X.K C) :: us) (.ref (He.ga X.K C) :: vs) Z ρ2 _ S2 I3 (.cons rfl rv) st2 aa (by rw [← Paired.length aa]; exact hl) p3))
  exact thn z fun _ _ y => ClX.unpinE y⟩

/-! ### cls(..), the class held by a local name -/
def m_callV (i : Nat) (C : Str) (g : List Bv.X → Sto → R Bv.X) (ms : MG (List Bv.X)) : M := fun e S => (m_var i e S).bind fun x S1 => match x with
  | .d (.gl D) => if decide (D = C) then (ms e S1).bind g else .bad
  | _ => .bad
theorem me_callV (i : Nat) (c : CalX X Wx (.ref (He.ga X.K C)) n g) (hk : PySem.W.keepIn X.K (.ref (He.ga X.K C)) = true) (ha : MA X Wx (e :: es) ms) (hN : X.N[i]? = some x := by rfl) (hv : Vis X.env.scope x := by first | exact Or.inl rfl | exact Or.inr (Or.inl rfl) | exact Or.inr (Or.inr rfl))
    (hdb : (x == ("__debug__" : Str)) = false := by decide) (hcd : (x == ("__classdict__" : Str)) = false := by decide) (he : starEach (e :: es) X.env = (false, eval e X.env) :: starEach es X.env := by rfl) (hpl : (backTo pos (starEach es X.env)).any (·.1) = false := by rfl) :
    ME X Wx (.Call (.Name x p) (e :: es) [] pos) (m_callV i C (arity n g) ms) := ⟨fun pins s σ H Q I ⟨Z, ρ, e, S, st, ev, q⟩ => by
  refine wpAny_Call_Name_kw (thn ((me_var (Wx := Wx) (pos := p) i hN hv hdb hcd).run pins s σ H _ I (tt_bind (R' := fun v H1 => v = .ref (He.ga X.K C) ∧ ∃ (ρ1 : List Addr) (S1 : Sto), Sta X.K Z ρ1 S1 H1 ∧ EvOk X.K (Wn Z ρ1) ρ1 H1 e σ ∧ PostG (AX X.K) X.K Z ρ1 H1 Wx σ Q ((ms e S1).bind (arity n g))) st ev q
    fun ρ1 H1 v y S1 s1 g1 ev1 a1 p1 => by
      cases a1 with
      | r _ => exact p1.elim
      | d a =>
        cases a with
        | gl D =>
          have p2 : PostG (AX X.K) X.K Z ρ1 H1 Wx σ Q (if decide (D = C) then (ms e S1).bind (arity n g) else .bad) := p1
          clear p1
          by_cases hd : D = C
          · rw [if_pos (decide_eq_true hd)] at p2
            subst hd
            exact ⟨rfl, ρ1, S1, s1, ev1, p2⟩
          · rw [if_neg (by simpa using hd)] at p2; exact p2.elim
        | _ => exact p1.elim)) fun u s1 ⟨x, H1, I1, rx, ex, ρ1, S1, st1, ev1, p1⟩ => ?_)
  subst ex
  obtain rfl : u = Value.ref (He.ga X.K C) := rx
  refine PySem.W.callWith_K (h₀ := X.base) I1.ok.mod.kin hk (thn (ha.run pos pins s1 σ H1 _ I1 (tt_bind (R' := fun vs H2 => ∃ (ρ2 : List Addr) (xs : List Bv.X) (S2 : Sto), Sta X.K Z ρ2 S2 H2 ∧ AXs X.K (Wn Z ρ2) ρ2 H2 xs vs ∧ PostG (AX X.K) X.K Z ρ2 H2 Wx σ Q (arity n g xs S2)) st1 ev1 p1
    fun ρ2 H2 v xs S2 s2 g2 ev2 a2 p2 => ⟨ρ2, xs, S2, s2, a2, p2⟩)) fun us s2 ⟨vs, H2, I2, r, ρ2, xs, S2, st2, a2, p2⟩ => ⟨I2.kIn, ?_⟩) he hpl
  obtain ⟨hl, p3⟩ := ari (rel := PostG (AX X.K) X.K Z ρ2 H2 Wx σ Q) (fun z => z) p2
  exact wpAny_call (c pins s2 σ H2 Q us vs Z ρ2 xs S2 I2 r st2 a2 (by rw [← Paired.length a2]; exact hl) p3)⟩

/-! ### try, where nothing is raised -/
def s_ne (m : MS) : MS := fun e S => match m e S with
  | .err _ _ _ _ => .bad
  | r => r
theorem mp_try {body : List Stmt} {h0 : ExceptHandler} {hs : List ExceptHandler} {mb : MS} (hb : MPs X.nox WX0 body mb) : MP X Wx (.Try body (h0 :: hs) [] [] pos) (s_ne mb) := PS.of (ps_try_thru0 hb) fun D σ H ⟨Z, ρ, e, S, st, ev, q⟩ => by
  refine ⟨Z, ρ, e, S, st, ev, ?_⟩
  unfold s_ne at q
  cases z : mb e S with
  | bad => rw [z] at q; exact q
  | err _ _ _ _ => rw [z] at q; exact q.elim
  | go o S' => rw [z] at q; cases o <;> exact q
theorem Here.nox {k : Nat} (h : Here X Wx k) : Here X.nox WX0 k := ⟨Xq.tk0, h.gu, h.room⟩

/-! ### x += e of ints -/
def s_aug (i : Nat) (f : D → D → Option D) (m : M) : MS := fun e S => (m_var i e S).so e fun x S1 => (m e S1).so e fun y S2 => (op2 f S2 x y).so e fun z S3 => .go (.nx (e.set i (some z))) S3
def addI : D → D → Option D := ii fun i j => some (.int (i + j))
def subI : D → D → Option D := ii fun i j => some (.int (i - j))
theorem o_addI {K : PySem.W.Frag} : Op2 K (ipI fun i j => i + j) addI := fun W H d1 d2 v1 v2 d Q hw a1 a2 e k => by
  obtain ⟨i, j, rfl, rfl, e⟩ := ii_inv e
  cases e
  exact ⟨i, j, a1.int_inv, a2.int_inv, k H _ (Same.refl H) (.int _)⟩
theorem o_subI {K : PySem.W.Frag} : Op2 K (ipI fun i j => i - j) subI := fun W H d1 d2 v1 v2 d Q hw a1 a2 e k => by
  obtain ⟨i, j, rfl, rfl, e⟩ := ii_inv e
  cases e
  exact ⟨i, j, a1.int_inv, a2.int_inv, k H _ (Same.refl H) (.int _)⟩
theorem mp_aug {i : Nat} {f : D → D → Option D} {op : Operator} {ti : TIp} {pos' : Pos} (hN : X.N.Nodup) (hi : X.N[i]? = some x) (hx : Loc X.env.scope x) (he : ME X Wx e m) (ho : PIp X op ti) (hf : Op2 X.K ti f)
    (hc : X.fn x = true ∨ X.env.scope.names.lookup x = some .local := by first | exact .inl rfl | exact .inr rfl | assumption) : MP X Wx (.AugAssign (.Name x pos') op e pos) (s_aug i f m) := PS.of (ps_aug hN hi hx he ho hc) fun D σ H ⟨Z, ρ, e, S, st, ev, q⟩ => by
  unfold s_aug m_var at q
  cases z : e[i]? with
  | none => rw [z] at q; exact q.elim
  | some o =>
    cases o with
    | none => rw [z] at q; exact q.elim
    | some y =>
      rw [z] at q
      obtain ⟨v, h1, h2⟩ := ev.at_ i y z
      refine ⟨v, h1, so_bind st ev (show PostS X.K Z ρ H Wx D ((m e S).so e fun w S2 => (op2 f S2 y w).so e fun z S3 => .go (.nx (e.set i (some z))) S3) from q) fun ρ1 H1 u w S1 s1 g1 ev1 a1 p1 => ?_⟩
      have b1 := h2.mv (g1.mv st) g1.pre
      unfold op2 at p1
      cases e1 : y.get S1 with
      | none => rw [e1] at p1; exact p1.elim
      | some d1 =>
        cases e2 : w.get S1 with
        | none => rw [e1, e2] at p1; exact p1.elim
        | some d2 =>
          rw [e1, e2] at p1
          cases e3 : f d1 d2 with
          | none => simp only [e3] at p1; exact p1.elim
          | some d =>
            simp only [e3] at p1
            exact hf (Wn Z ρ1) H1 d1 d2 v u d _ (fun _ h => s1.thereW h) (b1.get s1 e1) (a1.get s1 e2) e3 fun H' v' k a =>
              p1 ρ1 H' _ (s1.grow k) (Go.grow k) ((ev1.mv ((Go.grow k).mv s1) (List.prefix_refl _)).set (.d a))
end
end Bv
set_option Elab.async false
set_option linter.all false
set_option maxRecDepth 100000
set_option maxHeartbeats 4000000
/-! By value: isinstance of two types, its binders in another order. -/
namespace Bv
open PySem PySem.Spec L2
open PyProof.Rows hiding St
variable [HasW]
theorem me_isiP {X : Cx} {Wx : WX} {pos p tpos : Pos} {kt : Nat} {a b c : Expr} {m : M} {tab : List (String × Bool)} {own : List (Str × Bool)} {u1 u2 : Value} {c1 c2 : V} (hg : Gl X "isinstance") (hm : X.mg "isinstance" = none) (he : ME X Wx a m) (hc1 : PE X b (tC c1)) (hc2 : PE X c (tC c2)) (T : IsTs X.K [u1, u2] tab own) (k1 : ClsV c1 u1) (k2 : ClsV c2 u2)
    (ht1 : starEach [b, c] X.env = (false, eval b X.env) :: starEach [c] X.env := by rfl) (ht2 : starEach [c] X.env = (false, eval c X.env) :: starEach [] X.env := by rfl)
    (hs : starEach [a, .Tuple [b, c] kt tpos] X.env = (false, eval a X.env) :: starEach [.Tuple [b, c] kt tpos] X.env := by rfl) (hs2 : starEach [.Tuple [b, c] kt tpos] X.env = (false, eval (.Tuple [b, c] kt tpos) X.env) :: starEach [] X.env := by rfl)
    (hpl : (backTo pos (starEach [.Tuple [b, c] kt tpos] X.env)).any (·.1) = false := by rfl) : ME X Wx (.Call (.Name "isinstance" p) [a, .Tuple [b, c] kt tpos] [] pos) (m_isi tab own m) := PE.of (pe_callB call_isiT hg hm (by rfl) (pa_cons he (pa_cons (pe_tup (pa_cons hc1 (pa_cons hc2 pa_nil ht2) ht1)) pa_nil hs2) hs) (by decide) (by decide) hs hpl) fun σ H Q ⟨Z, ρ, e, S, st, ev, q⟩ => tt_bind st ev q fun ρ1 H1 v x S1 s1 g1 ev1 a1 p1 => by
  obtain ⟨w, hw, p2⟩ := p1.opt
  obtain ⟨b, h1, h2⟩ := Option.map_eq_some_iff.mp hw
  subst h2
  refine ⟨Nat.le_trans (show [c1, c2].length ≤ 2 from Nat.le_refl _) (by decide), fun r hr => ?_⟩
  have k := upd_keep (o := HO.tup [c1, c2]) hr
  have s2 := s1.grow k
  obtain ⟨t, ty, kt⟩ := isXs_ty T s2 (a1.mv ((Go.grow k).mv s1) (List.prefix_refl _)) h1
  exact ⟨v, r, [c1, c2], t, [u1, u2], b, rfl, upd_same, .cons k1 (.cons k2 .nil), ty, kt, PostG.ret p2 s1 k (.d (.bl b))⟩
end Bv
set_option Elab.async false
set_option linter.all false
set_option maxRecDepth 100000
set_option maxHeartbeats 4000000
/-! By value: split, strip. -/
namespace Bv
open PySem PySem.Spec L2
open PyProof.Rows hiding St
variable [HasW]
def okStrs (l : List Str) : Bool := l.all fun z => PyData.strOk z
def g_split (a : Str) (y : Bv.X) (S : Sto) : R Bv.X := match y with
  | .d (.str b) => if !(b.length == 0) && decide (a.length + 2 ≤ sizeLine) && okStrs (Txt.split a b) then .ok (.d (.lst ((Txt.split a b).map .str))) S else .bad
  | _ => .bad
def g_words (a : Str) (S : Sto) : R Bv.X := if decide (a.length + 2 ≤ sizeLine) && okStrs (Txt.words a) then .ok (.d (.lst ((Txt.words a).map .str))) S else .bad
def g_strip (a : Str) (S : Sto) : R Bv.X := if decide (a.length ≤ sizeLine) && PyData.strOk (Txt.strip a) then .ok (.d (.str (Txt.strip a))) S else .bad
/-- a text's method without arguments -/
def m_sm0 (g : Str → Sto → R Bv.X) (mo : M) : M := fun e S => (mo e S).bind fun x S1 => match x with
  | .d (.str a) => g a S1
  | _ => .bad
theorem avs_strOk {K : PySem.W.Frag} {W : Wd} {H : Hp} : ∀ {l : List Str}, okStrs l = true → AVs K W H (l.map D.str) (l.map V.str)
  | [], _ => .nil
  | z :: r, h => by
    have h2 : (PyData.strOk z && okStrs r) = true := h
    rw [Bool.and_eq_true] at h2
    exact .cons (.str h2.1) (avs_strOk h2.2)
section
variable {X : Cx} {Wx : WX} {pos apos : Pos} {o e : Expr} {mo m : M}
theorem new_strs {Z : Wd} {ρ : List Addr} {S : Sto} {H : Hp} {σ : L2.St} {Q : VK} {l : List Str} (st : Sta X.K Z ρ S H) (h : okStrs l = true) (p : PostG (AX X.K) X.K Z ρ H Wx σ Q (.ok (.d (.lst (l.map .str))) S)) : ∀ q, H q = none → Q (.ref q) (upd H q (.lst (l.map V.str))) :=
  fun q hq => PostG.ret p st (upd_keep hq) (.d (new_lst (fun z hz => st.thereW hz) hq (avs_strOk h)))
theorem me_split (ho : ME X Wx o mo) (he : ME X Wx e m) (hs : starEach [e] X.env = [(false, eval e X.env)] := by rfl) (hbase : attributeBase o "split" X.env (eval o X.env) = eval o X.env := by rfl) (hline : (apos.endLine == pos.line) = true := by rfl) :
    ME X Wx (.Call (.Attribute o "split" apos) [e] [] pos) (m_sm1 g_split mo m) := PE.of (pe_split ho he hs hbase hline) fun σ H Q ⟨Z, ρ, e, S, st, ev, p⟩ => tt_bind st ev p fun ρ1 H1 v x S1 s1 g1 ev1 a1 p1 => by
  cases a1 with
  | r _ => exact p1.elim
  | d a =>
    cases a with
    | str hz =>
      rename_i z
      refine ⟨⟨z, rfl⟩, tt_bind s1 ev1 (show PostG (AX X.K) X.K Z ρ1 H1 Wx σ Q ((m e S1).bind fun y S2 => g_split z y S2) from p1) fun ρ2 H2 u y S2 s2 g2 ev2 a2 p2 => ?_⟩
      unfold g_split at p2
      split at p2
      · rename_i b
        split at p2
        · rename_i hc
          rw [Bool.and_eq_true, Bool.and_eq_true] at hc
          obtain ⟨⟨c1, c2⟩, c3⟩ := hc
          cases a2 with
          | d a2 =>
            cases a2 with
            | str hb => exact ⟨z, b, rfl, rfl, by simpa using c1, of_decide_eq_true c2, new_strs s2 c3 p2⟩
        · exact p2.elim
      · exact p2.elim
    | _ => exact p1.elim
theorem me_words (ho : ME X Wx o mo) (hbase : attributeBase o "split" X.env (eval o X.env) = eval o X.env := by rfl) (hline : (apos.endLine == pos.line) = true := by rfl) :
    ME X Wx (.Call (.Attribute o "split" apos) [] [] pos) (m_sm0 g_words mo) := PE.of (pe_words ho hbase hline) fun σ H Q ⟨Z, ρ, e, S, st, ev, p⟩ => tt_bind st ev p fun ρ1 H1 v x S1 s1 g1 ev1 a1 p1 => by
  cases a1 with
  | r _ => exact p1.elim
  | d a =>
    cases a with
    | str hz =>
      rename_i z
      have p2 : PostG (AX X.K) X.K Z ρ1 H1 Wx σ Q (g_words z S1) := p1
      unfold g_words at p2
      split at p2
      · rename_i hc
        obtain ⟨c1, c2⟩ := Bool.and_eq_true_iff.mp hc
        exact ⟨⟨z, rfl⟩, z, rfl, rfl, of_decide_eq_true c1, new_strs s1 c2 p2⟩
      · exact p2.elim
    | _ => exact p1.elim
theorem me_strip (ho : ME X Wx o mo) (hbase : attributeBase o "strip" X.env (eval o X.env) = eval o X.env := by rfl) (hline : (apos.endLine == pos.line) = true := by rfl) :
    ME X Wx (.Call (.Attribute o "strip" apos) [] [] pos) (m_sm0 g_strip mo) := PE.of (pe_strip ho hbase hline) fun σ H Q ⟨Z, ρ, e, S, st, ev, p⟩ => tt_bind st ev p fun ρ1 H1 v x S1 s1 g1 ev1 a1 p1 => by
  cases a1 with
  | r _ => exact p1.elim
  | d a =>
    cases a with
    | str hz =>
      rename_i z
      have p2 : PostG (AX X.K) X.K Z ρ1 H1 Wx σ Q (g_strip z S1) := p1
      unfold g_strip at p2
      split at p2
      · rename_i hc
        obtain ⟨c1, c2⟩ := Bool.and_eq_true_iff.mp hc
        exact ⟨⟨z, rfl⟩, z, rfl, rfl, of_decide_eq_true c1, PostG.ret0 p2 s1 (.d (.str c2))⟩
      · exact p2.elim
    | _ => exact p1.elim
end
end Bv
set_option Elab.async false
set_option linter.all false
set_option maxRecDepth 100000
set_option maxHeartbeats 4000000
/-! By value: enumerate of lists and of tuples. -/
namespace Bv
open PySem PySem.Spec L2
open PyProof.Rows hiding St
variable [HasW]

/-- enumerate of the tuple at a -/
def ItE (K : PySem.W.Frag) (a : Addr) : It :=
  ⟨fun i H => ∃ xs x, SqT K H a xs ∧ xs[i]? = some x, fun i H v H' => ∃ T x, v = .ref T ∧ H T = none ∧ H' = upd H T (.tup [.int (i : Nat), x]) ∧ ∀ xs, SqT K H a xs → xs[i]? = some x, fun i H => ∃ xs : List V, SqT K H a xs ∧ xs.length ≤ i⟩
theorem drawn_out {prog : Program} {w : World} {A : Around} {it a : Addr} {i : Nat} {items : Array Value} (hh : A.handled = none) (no : items[i]? = none) : Draws prog w A it [it, a] i (fun _ _ => True) (fun j h => j = i ∧ h.IsTupleIter it a i ∧ h.IsTuple a items) where
  live := fun _ _ st => let ⟨o, ho, _⟩ := st.2.1; ⟨o, ho⟩
  frame := fun _ _ _ st hk => ⟨st.1, st.2.1.at fun o e => hk it (by simp) o e, st.2.2.at fun o e => hk a (by simp) o e⟩
  item := fun j s Q E hj st _ => absurd st.1 (Nat.ne_of_lt hj)
  done := fun s Q E st hE => wpAny_nextOf_tuple_end hh st.2.1 st.2.2 no hE
theorem turn_enumT {P : Program} {w : World} {K : PySem.W.Frag} {elts : List Expr} {kk : Nat} {tpos : Pos} (a e it : Addr) :
    Turn P w K (.Tuple elts kk tpos) (ItE K a) [e, it] e (fun i h => (∃ old, IsEnum h e it ((i : Nat) : Int) old) ∧ h.IsTupleIter it a i ∧ e ≠ it ∧ a ≠ it ∧ e ≠ a) where
  mem := by simp
  obj := fun i h st b hb => by
    obtain ⟨⟨old, he⟩, ⟨o, ho, hc, hd⟩, _⟩ := st
    rcases (show b = e ∨ b = it by simpa using hb) with z | z
    · rw [z]; exact ⟨_, he, fun v q => nomatch q⟩
    · rw [z]; exact ⟨o, ho, fun v q => by rw [hd] at q; cases q⟩
  keep := fun i h h' st k => let ⟨⟨old, he⟩, hi, hne⟩ := st; ⟨⟨old, k e (by simp) _ he⟩, hi.at fun o q => k it (by simp) o q, hne⟩
  item := by
    intro X hP hw hK hc i pins s σ H E I hf st hg
    subst hP hw hK
    obtain ⟨⟨old, he⟩, hit, hne, hai, hea⟩ := st
    obtain ⟨xs, x, hq, hx⟩ := hg
    obtain ⟨its, rv, p, hz⟩ := I.tuple hq
    obtain ⟨u, hu, ru⟩ := rv.get hx
    have el : e < s.heap.objs.size := Heap.lt_size he
    have il : it < s.heap.objs.size := by obtain ⟨_, q, _⟩ := hit; exact Heap.lt_size q
    have lt : i < its.toArray.size := by
      have := (List.getElem?_eq_some_iff.mp hu).1
      simpa using this
    refine wpAny_pyNext_enum_itemD (Draws.tuple (A := X.A.in1) (show X.A.in1.handled = none from I.ok.hd hc) it a hai its.toArray) he ⟨hit, p⟩ lt hne (by simp; exact ⟨hne, hea⟩) fun y h' tk hy ho hit' hT hsz hk => ?_
    have ey : y = u := by
      have hy : its.toArray[i]? = some y := hy
      have hu' : its.toArray[i]? = some u := by simpa using hu
      rw [hy] at hu'
      exact Option.some.inj hu'
    subst ey
    refine ⟨_, rfl, wpAny_letOwnedTupleGo_enum (s := { s with heap := h', toks := tk + 1 }) ho fun h'' he' sb => ?_⟩
    have hT2 : h''.get? s.heap.objs.size = some { cls := .type "tuple", data := .seq #[.int i tk, y] } := (sb.2 _ (Nat.ne_of_gt el)).trans hT
    have new : ObjOk X.prog X.w (upd H s.heap.objs.size (.tup [.int (i : Nat), x])) h'' s.heap.objs.size (.tup [.int (i : Nat), x]) := ⟨(by decide : 2 ≤ sizeLine), [.int i tk, y], .cons ⟨_, rfl⟩ (.cons ru .nil), ⟨_, hT2, rfl, _, rfl⟩⟩
    have I1 : Inv X pins σ (upd H s.heap.objs.size (.tup [.int (i : Nat), x])) { s with heap := h'', toks := tk + 1 } :=
      I.turnedNew (ch := [e, it]) (fun b ob hb q => (sb.2 b (fun z => hb (by simp [z]))).trans (hk b ob (fun z => hb (by simp [z])) (fun z => hb (by simp [z])) q)) hf (Nat.le_refl _) new
    refine ⟨.ref s.heap.objs.size, _, I1, rfl, ⟨_, x, rfl, I.hok.fresh (Nat.le_refl _), rfl, fun ys hy => by rw [I.tuple_inj hy hq]; exact hx⟩, ⟨⟨y, ?_⟩, hit'.1.at fun o q => (sb.2 it (Ne.symm hne)).trans q, hne, hai, hea⟩, fun b hb => ?_⟩
    · rw [show ((i + 1 : Nat) : Int) = (i : Int) + 1 by omega]; exact he'
    · have hb' : b < s.heap.objs.size := by
        rcases (show b = e ∨ b = it by simpa using hb) with z | z
        · rw [z]; exact el
        · rw [z]; exact il
      rw [upd_ne (Nat.ne_of_lt hb')]
      exact (hf b hb).1
  done := by
    intro X hP hw hK hc i pins s σ H E I hf st hg
    subst hP hw hK
    obtain ⟨⟨old, he⟩, hit, hne, hai, hea⟩ := st
    obtain ⟨xs, hq, hx⟩ := hg
    obtain ⟨its, rv, p, hz⟩ := I.tuple hq
    obtain ⟨f0, f1, f2, f3, f4, f5⟩ := hf it (by simp)
    have no : its.toArray[i]? = none := by
      have := rv.length
      simp; omega
    exact wpAny_pyNext_enum_endD (drawn_out (A := X.A.in1) (show X.A.in1.handled = none from I.ok.hd hc) no) he ⟨rfl, hit, p⟩ fun h' eb => ⟨rfl, I.turned (t' := s.toks) (fun b o hb q => eb b o hb q) f0 f1 f3 f4 f5⟩
  self := fun A i s Q E st h => let ⟨⟨_, he⟩, _⟩ := st; wpAny_pyIter_enum he h
end Bv
set_option Elab.async false
set_option linter.all false
set_option maxRecDepth 100000
set_option maxHeartbeats 4000000
/-! By value: enumerate, made and walked. -/
namespace PySem
open Sem (wp)
open AutoSeq1 (wpAny_loadPart')
theorem enumT_new (t : Addr) (items : Array Value) (n : Nat) (dct : Option Addr) (sl : Array (Option Value)) :
    Meets (Builtin.«enumerate.__new__» ⟨[.type "enumerate", .ref t], []⟩) (fun _ R s => s.heap.get? t = some { cls := .type "tuple", dict := dct, data := .seq items n, slots := sl } ∧
      R (.ok (.ret (.ref (s.heap.push { cls := .type "tuple_iterator", data := .fields #[.ref t, .int 0 0] }).objs.size))) { s with heap := (s.heap.push { cls := .type "tuple_iterator", data := .fields #[.ref t, .int 0 0] }).push { cls := .type "enumerate", data := .fields #[.none, .bool false, .ref s.heap.objs.size, rawInt 0, .none, .none] } }) :=
  .of_wp fun prog w A R s q => by
    obtain ⟨hp, g, d, tk, os⟩ := s
    obtain ⟨ht, fin⟩ := q
    have below := sub_enumerate
    have isT : Heap.IsTuple (Shared.heap ⟨hp, g, d, tk, os⟩) t items := ⟨_, ht, rfl, n, rfl⟩
    wp_walk using wpAny_loadPart' ht
    refine (wpAny_stack_any fun st => wpAny_pure ?_)
    split
    · rename_i c _ _ _ _ _
      cases (c == Value.type "enumerate") <;> (wp_walk using wpAny_loadPart' ht, wpAny_pyIter_tuple isT; exact ⟨_, rfl, fin⟩)
    · wp_walk using wpAny_loadPart' ht, wpAny_pyIter_tuple isT
      exact ⟨_, rfl, fin⟩
theorem call_enumT {prog : Program} {w : World} {A : Around} {E : Value → Shared → Prop} {s : Shared} {t : Addr} {items : Array Value} {Q : Value → Shared → Prop} (hT : s.heap.IsTuple t items)
    (fin : ∀ h', IsEnum h' (s.heap.objs.size + 1) s.heap.objs.size 0 .none → h'.IsTupleIter s.heap.objs.size t 0 → h'.objs.size = s.heap.objs.size + 2 → (∀ b o, s.heap.get? b = some o → h'.get? b = some o) → Q (.ref (s.heap.objs.size + 1)) { s with heap := h' }) :
    wpAny (model prog w) A (call (.type "enumerate") [.ref t]) Q E s := by
  obtain ⟨⟨c, dct, dt, sl⟩, ht, hc, n, hd⟩ := hT
  obtain rfl : c = .type "tuple" := hc
  obtain rfl : dt = .seq items n := hd
  refine callType_new F.called_enumerate (by decide) (F.typeCall_enumerate_1 _) (F.newCall_enumerate_1 _) (fun obj => F.args_object_init_2 obj _) F.entry_enumerate_new (enumT_new t items n dct sl) ⟨ht, ?_⟩
  have z : (s.heap.push { cls := .type "tuple_iterator", data := .fields #[.ref t, .int 0 0] }).objs.size = s.heap.objs.size + 1 := Heap.size_push ..
  show _ ∧ _
  rw [z]
  have en : IsEnum ((s.heap.push { cls := .type "tuple_iterator", data := .fields #[.ref t, .int 0 0] }).push { cls := .type "enumerate", data := .fields #[.none, .bool false, .ref s.heap.objs.size, rawInt 0, .none, .none] }) (s.heap.objs.size + 1) s.heap.objs.size 0 .none := by
    have y := Heap.get?_push_size (s.heap.push { cls := .type "tuple_iterator", data := .fields #[.ref t, .int 0 0] }) (o := { cls := .type "enumerate", data := .fields #[.none, .bool false, .ref s.heap.objs.size, rawInt 0, .none, .none] }) rfl
    rw [z] at y
    exact y
  exact ⟨⟨_, en, rfl⟩, fin _ en ⟨_, Heap.get?_push_of_some _ (Heap.get?_push_size _ rfl), rfl, rfl⟩ (by rw [Heap.size_push, z]) fun b o x => Heap.get?_push_of_some _ (Heap.get?_push_of_some _ x)⟩
end PySem
set_option Elab.async false
set_option linter.all false
set_option maxRecDepth 100000
set_option maxHeartbeats 4000000
/-! By value: enumerate. -/
namespace Bv
open PySem PySem.Spec L2
open PyProof.Rows hiding St
variable [HasW]
def iEnumA (K : PySem.W.Frag) (ta : TA) : TI := fun σ H R => ta σ H fun vs H1 => ∃ a xs, vs = [.ref a] ∧ ((SqL K H1 a xs ∧ R (Ite K a) H1) ∨ (SqT K H1 a xs ∧ R (ItE K a) H1))
theorem pi_enumA {X : Cx} {e : Expr} {ta : TA} {p pos tpos : Pos} {elts : List Expr} {kk : Nat} (hg : Gl X "enumerate") (hm : X.mg "enumerate" = none) (ha : PA X [e] ta) (hs : starEach [e] X.env = [(false, eval e X.env)] := by rfl) :
    PI X (.Tuple elts kk tpos) (.Call (.Name "enumerate" p) [e] [] pos) (iEnumA X.K ta) := ⟨fun pins s σ H R I h => by
  refine Call_ (ld_blt I hg hm boot_enumerate (callWith_type1 (thn (ha.run pos pins s σ H _ I h) fun us s1 ⟨vs, H1, I1, r1, a, xs, ex, q1⟩ => ?_) hs rfl))
  subst ex
  cases r1 with
  | cons r rr =>
    cases rr
    cases r
    have two : ∀ b ∈ [s1.heap.objs.size + 1, s1.heap.objs.size], FpOk X pins H1 b := fun b hb => by
      have le : s1.heap.objs.size ≤ b := by
        rcases (show b = s1.heap.objs.size + 1 ∨ b = s1.heap.objs.size by simpa using hb) with z | z
        · rw [z]; exact Nat.le_add_right _ _
        · rw [z]; exact Nat.le_refl _
      exact I1.fpOk le (I1.hok.fresh le)
    rcases q1 with ⟨hq, q⟩ | ⟨hq, q⟩
    · obtain ⟨its, rv, pl, _⟩ := I1.list hq
      exact call_enumerate_list pl.isList fun h' he hit hsz hk => wpAny_pyIter_enum he ⟨s1.heap.objs.size + 1, [s1.heap.objs.size + 1, s1.heap.objs.size], _, _, H1, rfl, I1.kept (t' := s1.toks) hk, turn_enum a (s1.heap.objs.size + 1) s1.heap.objs.size, ⟨⟨.none, he⟩, hit, Nat.succ_ne_self _⟩, two, q⟩
    · obtain ⟨its, rv, pl, _⟩ := I1.tuple hq
      have lt : a < s1.heap.objs.size := by obtain ⟨o, ho, _⟩ := id pl; exact Heap.lt_size ho
      exact call_enumT (show s1.heap.IsTuple a its.toArray from pl) fun h' he hit hsz hk => wpAny_pyIter_enum he ⟨s1.heap.objs.size + 1, [s1.heap.objs.size + 1, s1.heap.objs.size], _, _, H1, rfl, I1.kept (t' := s1.toks) hk, turn_enumT a (s1.heap.objs.size + 1) s1.heap.objs.size, ⟨⟨.none, he⟩, hit, Nat.succ_ne_self _, Nat.ne_of_lt lt, Nat.ne_of_gt (Nat.lt_succ_of_lt lt)⟩, two, q⟩⟩
theorem walk_enumT {K : PySem.W.Frag} {a : Addr} {xs : List V} : Walk (ItE K a) xs.length (fun H => SqT K H a xs) (YPair (fun i => some (.int (i : Nat))) (fun i => xs[i]?)) :=
  ⟨fun i _ hi q => ⟨xs, xs[i], q, by simp [hi]⟩, fun _ q => ⟨xs, q, Nat.le_refl _⟩, fun i H v H' _ q ⟨T, x, h1, h2, h3, h4⟩ => ⟨T, .int (i : Nat), x, h1, h2, h3, rfl, h4 xs q⟩⟩
def numbered (ds : List D) : List Bv.X := (List.range ds.length).zipWith (fun (i : Nat) d => Bv.X.d (.tup [.int (i : Nat), d])) ds
def enumX : List Bv.X → Option (List Bv.X × Lk)
  | [.d (.lst ds)] => some (numbered ds, .free)
  | [.d (.tup ds)] => some (numbered ds, .free)
  | _ => none
def enumXS (S : Sto) : List Bv.X → Option (List Bv.X × Lk)
  | [.r n] => (match S[n]? with
    | some (.lst xs) => (match ds? xs with
      | some ds => some (numbered ds, .lst n xs)
      | none => none)
    | _ => none)
  | xs => enumX xs
def i_enum (ms : MG (List Bv.X)) : MIt := fun e S => (ms e S).bind fun xs S1 => optR (enumXS S1 xs) S1
theorem numbered_at {ds : List D} {i : Nat} {d : D} (h : ds[i]? = some d) : (numbered ds)[i]? = some (.d (.tup [.int (i : Nat), d])) := by
  have lt := (List.getElem?_eq_some_iff.mp h).1
  unfold numbered
  rw [List.getElem?_zipWith, h]
  simp [lt]
theorem numbered_len (ds : List D) : (numbered ds).length = ds.length := by simp [numbered]
theorem srv_pairs {K : PySem.W.Frag} {W : Wd} {ρ : List Addr} {H : Hp} {J : It} {G : Hp → Prop} {xs : List V} {ds : List D} (hs : AVs K W H ds xs) (w : Walk J xs.length G (YPair (fun i => some (.int (i : Nat))) (fun i => xs[i]?)))
    (hg : ∀ (Z2 : Wd) (ρ2 : List Addr) (H2 : Hp), Mv W H (Wn Z2 ρ2) H2 → G H2) : Srv K W ρ H (numbered ds, .free) J :=
  ⟨G, _, by rw [show (numbered ds, Lk.free).1.length = xs.length by rw [show (numbered ds, Lk.free).1 = numbered ds from rfl, numbered_len, hs.length]]; exact w, fun Z2 ρ2 S2 H2 st m p fz k => ⟨hg Z2 ρ2 H2 m, fun i x H3 y => by
    obtain ⟨T, u, v, rfl, hT, rfl, h1, h2⟩ := y
    cases h1
    obtain ⟨d, h3, h4⟩ := (hs.mv m).at_ h2
    have kp := upd_keep (o := HO.tup [.int (i : Nat), v]) hT
    exact ⟨kp, _, numbered_at h3, .d (.tup (.inl ⟨st.fresh hT, upd_same⟩) (.cons (.int _) (.cons (h4.mv (same_mv kp)) .nil)))⟩⟩⟩
theorem walk_enumN {K : PySem.W.Frag} {a : Addr} (n : Nat) : Walk (Ite K a) n (fun H => ∃ xs, xs.length = n ∧ SqL K H a xs) (fun i H v H' => ∃ T x, v = .ref T ∧ H T = none ∧ H' = upd H T (.tup [.int (i : Nat), x]) ∧ ∀ xs, SqL K H a xs → xs[i]? = some x) :=
  ⟨fun i _ hi ⟨xs, e, q⟩ => ⟨xs, xs[i]'(by omega), q, by simp [show i < xs.length by omega]⟩, fun _ ⟨xs, e, q⟩ => ⟨xs, q, by omega⟩, fun _ _ _ _ _ _ y => y⟩
theorem srv_pairsN {K : PySem.W.Frag} {W : Wd} {ρ : List Addr} {H : Hp} {a : Addr} {n : Nat} {ds : List D} (h : ρ[n]? = some a) : Srv K W ρ H (numbered ds, .lst n (ds.map Bv.X.d)) (Ite K a) :=
  ⟨_, _, by rw [show (numbered ds, Lk.lst n (ds.map Bv.X.d)).1.length = ds.length from numbered_len ds]; exact walk_enumN ds.length, fun Z2 ρ2 S2 H2 st m p fz k => by
    have k : (match S2[n]? with
      | some (.lst zs) => decide (zs = ds.map Bv.X.d)
      | _ => false) = true := k
    cases q2 : S2[n]? with
    | none => rw [q2] at k; cases k
    | some o2 =>
      rw [q2] at k
      cases o2 with
      | lst zs =>
        have k : zs = ds.map Bv.X.d := of_decide_eq_true k
        subst k
        have h' : ρ2[n]? = some a := by
          obtain ⟨t, rfl⟩ := p
          rw [List.getElem?_append_left (List.getElem?_eq_some_iff.mp h).1]; exact h
        obtain ⟨us, h3, h4⟩ := st.ob n _ _ q2 h'
        have hl : us.length = ds.length := by
          have := Paired.length h4
          rw [List.length_map] at this
          exact this.symm
        refine ⟨⟨us, hl, .inl (.inl h3)⟩, fun i x H3 y => ?_⟩
        obtain ⟨T, u, rfl, hT, rfl, y⟩ := y
        obtain ⟨b, h5, h6⟩ := pair_at h4 (y us (.inl (.inl h3)))
        rw [List.getElem?_map] at h5
        cases hd : ds[i]? with
        | none => rw [hd] at h5; cases h5
        | some d =>
          rw [hd] at h5
          cases h5
          cases h6 with
          | d h6 =>
            have kp := upd_keep (o := HO.tup [.int (i : Nat), u]) hT
            exact ⟨kp, _, numbered_at hd, .d (.tup (.inl ⟨st.fresh hT, upd_same⟩) (.cons (.int _) (.cons (h6.mv (same_mv kp)) .nil)))⟩
      | _ => cases k⟩
theorem ds_of {xs : List Bv.X} : ∀ {ds : List D}, ds? xs = some ds → xs = ds.map Bv.X.d := by
  induction xs with
  | nil => intro ds h; cases h; rfl
  | cons x r ih =>
    intro ds h
    cases x with
    | r n => cases h
    | d v =>
      have h : (match Bv.X.d v, ds? r with
        | .d v, some l => some (v :: l)
        | _, _ => none) = some ds := h
      cases q : ds? r with
      | none => rw [q] at h; cases h
      | some l => rw [q] at h; cases h; rw [ih q]; rfl
theorem mi_enum {X : Cx} {Wx : WX} {e : Expr} {ms : MG (List Bv.X)} {p pos tpos : Pos} {elts : List Expr} {kk : Nat} (hg : Gl X "enumerate") (hm : X.mg "enumerate" = none) (ha : MA X Wx [e] ms) (hs : starEach [e] X.env = [(false, eval e X.env)] := by rfl) :
    MI X Wx (.Tuple elts kk tpos) (.Call (.Name "enumerate" p) [e] [] pos) (i_enum ms) := PI.of (pi_enumA hg hm ha hs) fun σ H R ⟨Z, ρ, e, S, st, ev, p⟩ => tt_bind st ev p fun ρ1 H1 v xs S1 st1 g1 ev1 a1 p1 => by
  obtain ⟨w, hw, p2⟩ := p1.opt
  unfold enumXS at hw
  split at hw
  · rename_i n
    cases a1 with
    | cons ha t =>
      cases t
      cases ha with
      | r h =>
        rename_i a
        cases q : S1[n]? with
        | none => rw [q] at hw; cases hw
        | some o =>
          rw [q] at hw
          cases o with
          | lst xs =>
            have hw : (match ds? xs with
              | some ds => some (numbered ds, Lk.lst n xs)
              | none => none) = some w := hw
            cases q3 : ds? xs with
            | none => rw [q3] at hw; cases hw
            | some ds =>
              rw [q3] at hw
              cases hw
              have exs := ds_of q3
              subst exs
              obtain ⟨vs, h1, h2⟩ := st1.ob n _ _ q h
              exact ⟨_, _, rfl, .inl ⟨.inl (.inl h1), PostG.ret0 p2 st1 (srv_pairsN h)⟩⟩
          | _ => cases hw
  · unfold enumX at hw
    split at hw
    · cases hw
      obtain ⟨v, rfl, a⟩ := one_d a1
      cases a with
      | lst w r hs => exact ⟨_, _, rfl, .inl ⟨.inl (.inl r), PostG.ret0 p2 st1 (srv_pairs hs walk_enum fun Z2 ρ2 H2 m => .inl (.inl (m _ _ w r).2))⟩⟩
    · cases hw
      obtain ⟨v, rfl, a⟩ := one_d a1
      cases a with
      | tup t hs => exact ⟨_, _, rfl, .inr ⟨t.sq, PostG.ret0 p2 st1 (srv_pairs hs walk_enumT fun Z2 ρ2 H2 m => (m.tp t).sq)⟩⟩
    · cases hw
end Bv
set_option Elab.async false
set_option linter.all false
set_option maxRecDepth 100000
set_option maxHeartbeats 4000000
/-! By value: zip of a tuple and a list. -/
namespace Bv
open PySem PySem.Spec L2
open PyProof.Rows hiding St
variable [HasW]
def ItM (K : PySem.W.Frag) (a b : Addr) : It :=
  ⟨fun i H => ∃ (xs ys : List V) (x y : V), SqT K H a xs ∧ SqL K H b ys ∧ xs[i]? = some x ∧ ys[i]? = some y,
    fun i H v H' => ∃ T x y, v = .ref T ∧ H T = none ∧ H' = upd H T (.tup [x, y]) ∧ (∀ xs, SqT K H a xs → xs[i]? = some x) ∧ ∀ ys, SqL K H b ys → ys[i]? = some y,
    fun i H => ∃ xs ys : List V, SqT K H a xs ∧ SqL K H b ys ∧ ((i ≤ xs.length ∧ i ≤ ys.length) ∧ (i = xs.length ∨ i = ys.length))⟩
theorem zsep {z TI TO i1 i2 a b : Addr} (D : ZipApart z TI TO i1 i2 a b) : ZipSep2 z TI TO i1 i2 [i1, a] [i2, b] where
  TIz := D.TIz
  TOz := D.TOz
  TITO := D.TITO
  TIi1 := D.TIi1
  mem1 := by simp
  zf1 := by simp; exact ⟨Ne.symm D.i1z, Ne.symm D.l1z⟩
  Tf1 := by simp; exact ⟨D.TOi1, Ne.symm D.l1TO⟩
  TIi2 := D.TIi2
  mem2 := by simp
  zf2 := by simp; exact ⟨Ne.symm D.i2z, Ne.symm D.l2z⟩
  Tf2 := by simp; exact ⟨D.TOi2, Ne.symm D.l2TO⟩
  sep1_2 := by simp; exact ⟨D.i12, Ne.symm D.l2i1⟩
  sep2_1 := by simp; exact ⟨Ne.symm D.i12, Ne.symm D.l1i2⟩
theorem turn_zipM {P : Program} {w : World} {K : PySem.W.Frag} {elts : List Expr} {kk : Nat} {tpos : Pos} {a b z TI TO i1 i2 : Addr} (D : ZipApart z TI TO i1 i2 a b) :
    Turn P w K (.Tuple elts kk tpos) (ItM K a b) [z, TI, TO, i1, i2] z (fun i h => IsZip h z TI TO .none ∧ IsTupOf2 h TI (.ref i1) (.ref i2) ∧ (∃ x y, IsTupOf2 h TO x y) ∧ h.IsTupleIter i1 a i ∧ h.IsListIter i2 b i) where
  mem := by simp
  obj := fun i h st c hc => by
    obtain ⟨hz, hTI, ⟨x, y, hTO⟩, ⟨o1, e1, _, d1⟩, ⟨o2, e2, _, d2⟩⟩ := st
    rcases (show c = z ∨ c = TI ∨ c = TO ∨ c = i1 ∨ c = i2 by simpa using hc) with q | q | q | q | q <;> rw [q]
    · exact ⟨_, hz, fun v q => nomatch q⟩
    · exact ⟨_, hTI, fun v q => nomatch q⟩
    · exact ⟨_, hTO, fun v q => nomatch q⟩
    · exact ⟨o1, e1, fun v q => by rw [d1] at q; cases q⟩
    · exact ⟨o2, e2, fun v q => by rw [d2] at q; cases q⟩
  keep := fun i h h' st k => by
    obtain ⟨hz, hTI, ⟨x, y, hTO⟩, h1, h2⟩ := st
    exact ⟨k z (by simp) _ hz, k TI (by simp) _ hTI, ⟨x, y, k TO (by simp) _ hTO⟩, h1.at fun o q => k i1 (by simp) o q, h2.at fun o q => k i2 (by simp) o q⟩
  item := by
    intro X hP hw hK hc i pins s σ H E I hf st hg
    subst hP hw hK
    obtain ⟨hz, hTI, ⟨x0, y0, hTO⟩, h1, h2⟩ := st
    obtain ⟨xs, ys, x, y, hqx, hqy, hx, hy⟩ := hg
    obtain ⟨its, rv, p, _⟩ := I.tuple hqx
    obtain ⟨its2, rv2, p2, _⟩ := I.list hqy
    obtain ⟨u, hu, ru⟩ := rv.get hx
    obtain ⟨u2, hu2, ru2⟩ := rv2.get hy
    have zl : z < s.heap.objs.size := Heap.lt_size hz
    have hh : X.A.in1.handled = none := I.ok.hd hc
    refine wpAny_pyNext_zipD2_item (zsep D) (Draws.tuple hh i1 a D.l1i1 its.toArray) (Draws.list hh i2 b D.l2i2 its2.toArray) hz hTI hTO ⟨h1, p⟩ ⟨h2, p2.isList⟩ (by have := (List.getElem?_eq_some_iff.mp hu).1; simpa using this) (by have := (List.getElem?_eq_some_iff.mp hu2).1; simpa using this)
      fun y1 y2 h' tk e1 e2 z' TO' s1 s2 hT hsz hk => ?_
    obtain rfl : y1 = u := by
      have e1 : its.toArray[i]? = some y1 := e1
      rw [List.getElem?_toArray, hu] at e1; exact (Option.some.inj e1).symm
    obtain rfl : y2 = u2 := by
      have e2 : its2.toArray[i]? = some y2 := e2
      rw [List.getElem?_toArray, hu2] at e2; exact (Option.some.inj e2).symm
    refine ⟨_, rfl, wpAny_letOwnedTupleGo_zip (s := { s with heap := h', toks := tk }) z' fun h'' z'' sb => ?_⟩
    have hT2 : h''.get? s.heap.objs.size = some { cls := .type "tuple", data := .seq #[y1, y2] } := (sb.2 _ (Nat.ne_of_gt zl)).trans hT
    have new : ObjOk X.prog X.w (upd H s.heap.objs.size (.tup [x, y])) h'' s.heap.objs.size (.tup [x, y]) := ⟨(by decide : 2 ≤ sizeLine), [y1, y2], .cons ru (.cons ru2 .nil), ⟨_, hT2, rfl, _, rfl⟩⟩
    have I1 : Inv X pins σ (upd H s.heap.objs.size (.tup [x, y])) { s with heap := h'', toks := tk } :=
      I.turnedNew (ch := [z, TI, TO, i1, i2]) (fun c o hb q => (sb.2 c (fun q' => hb (by simp [q']))).trans (hk c o (fun q' => hb (by simp [q'])) (fun q' => hb (by simp [q'])) (fun q' => hb (by simp [q'])) (fun q' => hb (by simp [q'])) q)) hf (Nat.le_refl _) new
    refine ⟨.ref s.heap.objs.size, _, I1, rfl, ⟨_, x, y, rfl, I.hok.fresh (Nat.le_refl _), rfl, fun l hl => by rw [I.tuple_inj hl hqx]; exact hx, fun l hl => by rw [I.list_inj hl hqy]; exact hy⟩, ⟨z'', (sb.2 _ D.TIz).trans (hk _ _ D.TIz D.TITO D.TIi1 D.TIi2 hTI), ⟨y1, y2, (sb.2 _ D.TOz).trans TO'⟩, s1.1.at fun o q => (sb.2 _ D.i1z).trans q, s2.1.at fun o q => (sb.2 _ D.i2z).trans q⟩, fun c hcm => ?_⟩
    have lt : c < s.heap.objs.size := by
      rcases (show c = z ∨ c = TI ∨ c = TO ∨ c = i1 ∨ c = i2 by simpa using hcm) with q | q | q | q | q <;> rw [q]
      · exact zl
      · exact Heap.lt_size hTI
      · exact Heap.lt_size hTO
      · obtain ⟨_, e1, _⟩ := h1; exact Heap.lt_size e1
      · obtain ⟨_, e2, _⟩ := h2; exact Heap.lt_size e2
    rw [upd_ne (Nat.ne_of_lt lt)]
    exact (hf c hcm).1
  done := by
    intro X hP hw hK hc i pins s σ H E I hf st hg
    subst hP hw hK
    obtain ⟨hz, hTI, ⟨x0, y0, hTO⟩, h1, h2⟩ := st
    obtain ⟨xs, ys, hqx, hqy, ⟨le1, le2⟩, hend⟩ := hg
    obtain ⟨its, rv, p, _⟩ := I.tuple hqx
    obtain ⟨its2, rv2, p2, _⟩ := I.list hqy
    have l1 := rv.length
    have l2 := rv2.length
    have hh : X.A.in1.handled = none := I.ok.hd hc
    exact wpAny_pyNext_zipD2_end (zsep D) (Draws.tuple hh i1 a D.l1i1 its.toArray) (Draws.list hh i2 b D.l2i2 its2.toArray) hz hTI hTO ⟨h1, p⟩ ⟨h2, p2.isList⟩ (by simp; omega) (by simp; omega) (by simp; omega)
      fun h' tk hk => ⟨rfl, I.turnedL (t' := tk) (ch := [z, TI, TO, i1, i2]) (fun c o hb q => hk c o (fun q' => hb (by simp [q'])) (fun q' => hb (by simp [q'])) (fun q' => hb (by simp [q'])) (fun q' => hb (by simp [q'])) q) hf⟩
  self := fun A i s Q E st h => wpAny_pyIter_zip st.1 h
end Bv
set_option Elab.async false
set_option linter.all false
set_option maxRecDepth 100000
set_option maxHeartbeats 4000000
/-! By value: zip of a tuple and a list, the rule. -/
namespace Bv
open PySem PySem.Spec L2
open PyProof.Rows hiding St
variable [HasW]
def iZipM (K : PySem.W.Frag) (ta : TA) : TI := fun σ H R => ta σ H fun vs H1 => ∃ a b xs ys, vs = [.ref a, .ref b] ∧ SqT K H1 a xs ∧ SqL K H1 b ys ∧ R (ItM K a b) H1
theorem pi_zipM {X : Cx} {e e2 : Expr} {ta : TA} {p pos tpos : Pos} {elts : List Expr} {kk : Nat} (hg : Gl X "zip") (hm : X.mg "zip" = none) (ha : PA X [e, e2] ta) (hs : starEach [e, e2] X.env = (false, eval e X.env) :: starEach [e2] X.env := by rfl) (hpl : (backTo pos (starEach [e2] X.env)).any (·.1) = false := by rfl) :
    PI X (.Tuple elts kk tpos) (.Call (.Name "zip" p) [e, e2] [] pos) (iZipM X.K ta) := ⟨fun pins s σ H R I h => by
  refine Call_ (ld_blt I hg hm boot_zip (callWith_type1 (thn (ha.run pos pins s σ H _ I h) fun us s1 ⟨vs, H1, I1, r1, a, b, xs, ys, ex, hqx, hqy, q⟩ => ?_) hs hpl))
  subst ex
  cases r1 with
  | cons r rr =>
    cases rr with
    | cons r' rr =>
      cases rr
      cases r
      cases r'
      obtain ⟨its, rv, p1, _⟩ := I1.tuple hqx
      obtain ⟨its2, rv2, p2, _⟩ := I1.list hqy
      have lt1 : a < s1.heap.objs.size := by obtain ⟨o, ho, _⟩ := id p1; exact Heap.lt_size ho
      have five : ∀ c ∈ [s1.heap.objs.size + 4, s1.heap.objs.size + 2, s1.heap.objs.size + 3, s1.heap.objs.size, s1.heap.objs.size + 1], FpOk X pins H1 c := fun c hc => by
        have le : s1.heap.objs.size ≤ c := by
          simp only [List.mem_cons, List.not_mem_nil, or_false] at hc
          rcases hc with z | z | z | z | z <;> rw [z] <;> first | exact Nat.le_refl _ | exact Nat.le_add_right _ _
        exact I1.fpOk le (I1.hok.fresh le)
      exact zip_begins2 (begins_tuple a its.toArray) (begins_list b its2.toArray) (show s1.heap.IsTuple a its.toArray from p1) p2.isList fun h' hz hTI hTO g1 g2 hsz hk => wpAny_pyIter_zip hz
        ⟨s1.heap.objs.size + 4, [s1.heap.objs.size + 4, s1.heap.objs.size + 2, s1.heap.objs.size + 3, s1.heap.objs.size, s1.heap.objs.size + 1], _, _, H1, rfl, I1.kept (t' := s1.toks) hk, turn_zipM (PySem.W.ktu_apart s1.heap.objs.size a b lt1 p2.lt), ⟨hz, hTI, ⟨_, _, hTO⟩, ⟨_, g1, rfl, rfl⟩, ⟨_, g2, rfl, rfl⟩⟩, five, q⟩⟩
theorem walk_zipM {K : PySem.W.Frag} {a b : Addr} {xs ys : List V} : Walk (ItM K a b) (min xs.length ys.length) (fun H => SqT K H a xs ∧ SqL K H b ys) (YPair (fun i => xs[i]?) (fun i => ys[i]?)) :=
  ⟨fun i _ hi q => ⟨xs, ys, xs[i]'(by omega), ys[i]'(by omega), q.1, q.2, by simp [show i < xs.length by omega], by simp [show i < ys.length by omega]⟩, fun _ q => ⟨xs, ys, q.1, q.2, by omega⟩,
    fun i H v H' _ q ⟨T, x, y, h1, h2, h3, h4, h5⟩ => ⟨T, x, y, h1, h2, h3, h4 xs q.1, h5 ys q.2⟩⟩
def zipped (ds es : List D) : List Bv.X := List.zipWith (fun d e => Bv.X.d (.tup [d, e])) ds es
def zipX : List Bv.X → Option (List Bv.X × Lk)
  | [.d (.tup ds), .d (.lst es)] => some (zipped ds es, .free)
  | _ => none
def i_zip (ms : MG (List Bv.X)) : MIt := fun e S => (ms e S).bind fun xs S1 => optR (zipX xs) S1
theorem mi_zip {X : Cx} {Wx : WX} {e e2 : Expr} {ms : MG (List Bv.X)} {p pos tpos : Pos} {elts : List Expr} {kk : Nat} (hg : Gl X "zip") (hm : X.mg "zip" = none) (ha : MA X Wx [e, e2] ms) (hs : starEach [e, e2] X.env = (false, eval e X.env) :: starEach [e2] X.env := by rfl) (hpl : (backTo pos (starEach [e2] X.env)).any (·.1) = false := by rfl) :
    MI X Wx (.Tuple elts kk tpos) (.Call (.Name "zip" p) [e, e2] [] pos) (i_zip ms) := PI.of (pi_zipM hg hm ha hs hpl) fun σ H R ⟨Z, ρ, e, S, st, ev, p⟩ => tt_bind st ev p fun ρ1 H1 v xs S1 st1 g1 ev1 a1 p1 => by
  obtain ⟨w, hw, p2⟩ := p1.opt
  unfold zipX at hw
  split at hw
  · rename_i ds es
    cases hw
    cases a1 with
    | cons h1 t =>
      cases t with
      | cons h2 t =>
        cases t
        cases h1 with
        | d h1 =>
          cases h2 with
          | d h2 =>
            cases h1 with
            | tup t1 hs1 =>
              cases h2 with
              | lst w2 r2 hs2 =>
                rename_i a us b ws
                refine ⟨a, b, us, ws, rfl, t1.sq, .inl (.inl r2), PostG.ret0 p2 st1 ⟨fun H => SqT X.K H a us ∧ SqL X.K H b ws, YPair (fun i => us[i]?) (fun i => ws[i]?), ?_, fun Z2 ρ2 S2 H2 st m p fz k => ⟨⟨(m.tp t1).sq, .inl (.inl (m _ _ w2 r2).2)⟩, fun i x H3 y => ?_⟩⟩⟩
                · rw [show (zipped ds es, Lk.free).1.length = min us.length ws.length by simp [zipped, hs1.length, hs2.length]]; exact walk_zipM
                · obtain ⟨T, u, v, rfl, hT, rfl, q1, q2⟩ := y
                  obtain ⟨d1, q3, q4⟩ := (hs1.mv m).at_ q1
                  obtain ⟨d2, q5, q6⟩ := (hs2.mv m).at_ q2
                  have kp := upd_keep (o := HO.tup [u, v]) hT
                  exact ⟨kp, .d (.tup [d1, d2]), by simp [zipped, List.getElem?_zipWith, q3, q5], .d (.tup (.inl ⟨st.fresh hT, upd_same⟩) (.cons (q4.mv (same_mv kp)) (.cons (q6.mv (same_mv kp)) .nil)))⟩
  · cases hw
end Bv
set_option Elab.async false
set_option linter.all false
set_option maxRecDepth 100000
set_option maxHeartbeats 4000000
/-! By value: in a tuple, where an item's == is answered by the right side's own __eq__. -/
namespace PySem
open Sem (wp)
open AutoSeq1 (wpAny_loadPart')
open MeetsSeq MeetsSeq2 MeetsSeq3 SeqRoads2
namespace BvIn
theorem str_declines_ins (b : Str) (u : Tok) (l C dx : Addr) :
    Meets (Builtin.«str.__eq__» ⟨[.str b u, .ref l], []⟩) (fun _ R s => s.heap.get? l = some (W.instObj C dx) ∧ R (.ok (.ret .notImplemented)) s) :=
  .of_wp fun prog w A R s h => by
    obtain ⟨hp, g, d, tk, os⟩ := s
    obtain ⟨hl, h⟩ := h
    wp_walk using wpAny_load hl
    exact ⟨_, rfl, h⟩
theorem tuple_declines_ins (l b C dx : Addr) (items : Array Value) (n : Nat) (dd : Option Addr) (sl : Array (Option Value)) :
    Meets (Builtin.«tuple.__eq__» ⟨[.ref l, .ref b], []⟩) (fun _ R s => s.heap.get? l = some { cls := .type "tuple", dict := dd, data := .seq items n, slots := sl } ∧ s.heap.get? b = some (W.instObj C dx) ∧ (∀ M : Model, W.Looks M s.heap (isSubtype (.ref C) (.type "tuple")) false) ∧ R (.ok (.ret .notImplemented)) s) :=
  .of_wp fun prog w A R s h => by
    obtain ⟨hp, g, d, tk, os⟩ := s
    obtain ⟨hl, hb, hi, h⟩ := h
    wp_walk using wpAny_loadPart' hl, wpAny_loadPart' hb, (hi _).here
    exact ⟨_, rfl, h⟩
section
variable {prog : Program} {w : World} {A : Around} {E : Value → Shared → Prop} {s : Shared}
/-- x in (..): each item's == may do what it likes within J -/
theorem tuple_hasG (l : Addr) (items : Array Value) (n : Nat) (dd : Option Addr) (sl : Array (Option Value)) (x : Value) (J : Shared → Prop) (e : Value → Bool) :
    MeetsIn prog w (Builtin.«tuple.__contains__» ⟨[.ref l, x], []⟩) (fun A R s => s.heap.get? l = some { cls := .type "tuple", dict := dd, data := .seq items n, slots := sl } ∧ J s ∧
      (∀ y, y ∈ items → ∀ (s' : Shared) (Q : Bool → Shared → Prop), J s' → (∀ s'', J s'' → Q (e y) s'') → wpAny (model prog w) A.in1 (eqBool y x) Q (fun e s' => R (.error e) s') s') ∧ ∀ s', J s' → R (.ok (.ret (.bool (items.any e)))) s') :=
  .of_wp fun A R s h => by
    obtain ⟨hp, g, d, tk, os⟩ := s
    obtain ⟨hl, hJ, he, h⟩ := h
    wp_walk using wpAny_loadPart' hl, wpAny_forIn_array _ (fun rest b s' => b.1 = none ∧ J s' ∧ (∀ y, y ∈ rest → y ∈ items) ∧ (fun l : List Value => ∀ s'', J s'' → R (.ok (.ret (.bool (l.any e)))) s'') rest) _
    case turn =>
      rintro y rest b s' ⟨hb, hj, hmem, hR⟩
      refine wpAny_bind (he y (hmem y (List.mem_cons_self ..)) s' _ hj fun s'' hj' => ?_)
      rw [List.any_cons] at hR
      cases hy : e y with
      | true =>
        rw [hy] at hR
        wp_walk
        exact ⟨_, rfl, by simpa using hR s'' hj'⟩
      | false =>
        rw [hy] at hR
        wp_walk
        exact ⟨rfl, hj', fun z hz => hmem z (List.mem_cons_of_mem _ hz), by simpa using hR⟩
    case fin =>
      rintro ⟨b1, b2⟩ s' ⟨hb, hj, -, hR⟩
      simp only at hb
      subst hb
      wp_walk
      exact ⟨_, rfl, by simpa using hR s' hj⟩
    case h =>
      exact ⟨rfl, hJ, fun y hy => by simpa using hy, by simpa using h⟩
/-- == where the left side declines and the right side's own __eq__ answers -/
theorem rc_own {K : W.Frag} {y : Value} {T id : String} {a C f : Addr} {ox : Obj} {od : Option Obj} {Q : Value → Shared → Prop} (hu : A.units < cLine) (hT : s.TypeIs y T) (slot : Slot T "__eq__" id) (X : K.In s.heap) (J : W.InstAt s.heap a ox C od) (hsub : W.subIn K (.ref C) (.type T) = some false)
    (hs : W.findIn K (.ref C) "__eq__" = some (some (.ref f))) (hf : W.isFn K (.ref f) = true) (hd : wpAny (model prog w) A (call (.builtin id) [y, .ref a]) (fun v s' => v = .notImplemented ∧ s' = s) E s)
    (h : wpAny (model prog w) A (call (.ref f) [.ref a, y]) (fun v s' => ∃ r : Bool, v = .bool r ∧ Q (.bool r) s') E s) : wpAny (model prog w) A (richCompare .Eq y (.ref a)) Q E s := by
  have one : wpAny (model prog w) A (tryCompare (.ref a) "__eq__" y) (fun r s' => ∃ v, r = some v ∧ Q v s') E s := by
    unfold tryCompare
    refine wpAny_bind (W.ifBound_K X J hs hf (wpAny_mono h (fun v s' hv => ?_) fun _ _ e => e))
    obtain ⟨r, rfl, q⟩ := hv
    exact wpAny_pure ⟨_, rfl, q⟩
  unfold richCompare
  simp only [hT.oneThing_none]
  refine wpAny_holding (wpAny_bind (wpAny_cRoomFor hu ?_))
  refine wpAny_bind (wpAny_typeOf hT (wpAny_bind (J.type.here ?_)))
  rw [if_pos (by simp)]
  refine wpAny_bind ((W.looks_subIn X hsub).here ?_)
  simp only [Bool.false_eq_true, if_false, Bool.not_false, if_true]
  refine wpAny_bind (wpAny_tryCompare_declines hT slot (wpAny_mono hd (fun v s1 z => ⟨z.1, ?_⟩) fun _ _ z => z))
  obtain ⟨_, rfl⟩ := z
  refine wpAny_bind (wpAny_mono one (fun r s' z => ?_) fun _ _ e => e)
  obtain ⟨v, rfl, hq⟩ := z
  exact wpAny_pure hq
/-- y == a, y is no object that is a -/
theorem eqBool_own {y : Value} {a : Addr} {Q : Bool → Shared → Prop} (hne : (y == .ref a) = false) (h : wpAny (model prog w) A (richCompare .Eq y (.ref a)) (fun v s' => ∃ r : Bool, v = .bool r ∧ Q r s') E s) : wpAny (model prog w) A (eqBool y (.ref a)) Q E s := by
  unfold eqBool
  refine wpAny_holding ?_
  rw [if_neg (by rw [hne]; exact Bool.false_ne_true)]
  have fin : wpAny (model prog w) A (richCompare .Eq y (.ref a) >>= truthOfDropped) Q E s := by
    refine wpAny_bind (wpAny_mono h (fun v s' hv => ?_) fun _ _ x => x)
    obtain ⟨r, rfl, q⟩ := hv
    exact wpAny_truthy_bool q
  cases y <;> exact fin
end
end BvIn
end PySem
set_option Elab.async false
set_option linter.all false
set_option maxRecDepth 100000
set_option maxHeartbeats 4000000
/-! By value: in a tuple of other things, by an own __eq__. -/
namespace Bv
open PySem PySem.Spec L2
open PyProof.Rows hiding St
/-- no built-in type is above the class -/
structure OwnSub (K : PySem.W.Frag) (C : Str) : Prop where
  st : PySem.W.subIn K (.ref (He.ga K C)) (.type "str") = some false
  no : PySem.W.subIn K (.ref (He.ga K C)) (.type "NoneType") = some false
  tu : PySem.W.subIn K (.ref (He.ga K C)) (.type "tuple") = some false
def t_sub (C : Str) (K : PySem.W.Frag) : Bool := decide (PySem.W.subIn K (.ref (He.ga K C)) (.type "str") = some false) && (decide (PySem.W.subIn K (.ref (He.ga K C)) (.type "NoneType") = some false) && decide (PySem.W.subIn K (.ref (He.ga K C)) (.type "tuple") = some false))
theorem sub_ok {C : Str} {K : PySem.W.Frag} (h : t_sub C K = true) : OwnSub K C := by
  obtain ⟨c1, h⟩ := He.ba h
  obtain ⟨c2, c3⟩ := He.ba h
  exact ⟨of_decide_eq_true c1, of_decide_eq_true c2, of_decide_eq_true c3⟩
variable [HasW]
def declB : D → Bool
  | .str _ | .non | .tup _ => true
  | _ => false
/-- o is none of ds, by its own == -/
def noneOf (g : List D → PR) (o : D) (ds : List D) : Bool := ds.all fun d => declB d && (match g [o, d] with
  | .ok (.bl false) => true
  | _ => false)
theorem noneOf_mem {g : List D → PR} {o d : D} {ds : List D} (h : noneOf g o ds = true) (m : d ∈ ds) : declB d = true ∧ g [o, d] = .ok (.bl false) := by
  have h := List.all_eq_true.mp h d m
  obtain ⟨h1, h2⟩ := Bool.and_eq_true_iff.mp h
  refine ⟨h1, ?_⟩
  split at h2
  · assumption
  · cases h2
abbrev rInO (K : PySem.W.Frag) (C : Str) (g : List D → PR) (neg : Bool) : R2 := fun x y H Q => ∃ (W : Wd) (o : D) (ds : List D) (a dx l : Addr) (fs : List (Str × V)) (ys : List V), x = .ref a ∧ y = .ref l ∧ H a = some (.ins (He.ga K C) dx fs) ∧ SqT K H l ys ∧
  (∀ a, W a → ∃ o, H a = some o) ∧ AV K W H o (.ref a) ∧ AVs K W H ds ys ∧ noneOf g o ds = true ∧ ∀ H', Same H H' → Q (.bl neg) H'
section
variable {X : Cx} {k : Nat} {f : Addr} {fd : FuncData} {ps : List Str} {g : List D → PR} {C : Str}
theorem vals_at : ∀ {vs : List V} {us : List Value} {u : Value}, Vals vs us → u ∈ us → ∃ (i : Nat) (v : V), vs[i]? = some v ∧ RelV v u
  | _, _, _, .nil, m => by cases m
  | _, _, u, .cons h t, m => by
    rcases List.mem_cons.mp m with e | m
    · subst e; exact ⟨0, _, rfl, h⟩
    · obtain ⟨i, v, h1, h2⟩ := vals_at t m
      exact ⟨i + 1, v, by simpa using h1, h2⟩
theorem ins_obj {pins : List (Addr × Obj)} {σ : St} {H : Hp} {s : Shared} {a Ca dx : Addr} {fs : List (Str × V)} (I : Inv X pins σ H s) (h : H a = some (.ins Ca dx fs)) : s.heap.get? a = some (PySem.W.instObj Ca dx) := by
  have x := I.hok a _ h
  obtain ⟨_, _, _, e, _⟩ := x
  exact e
theorem in_core (gu : X.A.guards = some []) (F : FnG X.prog X.w X.K X.mg X.base k f fd ps (spP X.K 2 g)) (O : OwnEq X.K C f) (N : OwnSub X.K C) (room : Room (k + 2) X.A) (hb : Binds X.K fd ps []) {pins : List (Addr × Obj)} {σ : St} {H : Hp} {s : Shared} {E : Value → Shared → Prop} {Q : Value → Shared → Prop}
    {W : Wd} {o : D} {ds : List D} {a dx l : Addr} {fs : List (Str × V)} {ys : List V} (I : Inv X pins σ H s) (ha : H a = some (.ins (He.ga X.K C) dx fs)) (hq : SqT X.K H l ys) (hw : ∀ a, W a → ∃ o, H a = some o) (a0 : AV X.K W H o (.ref a)) (as : AVs X.K W H ds ys) (hn : noneOf g o ds = true)
    (fin : ∀ H' s', Same H H' → Inv X pins σ H' s' → Q (.bool false) s') : wpAny (model X.prog X.w) X.A (call (.builtin "tuple.__contains__") [.ref l, .ref a]) Q E s := by
  obtain ⟨its, rv, p, hz⟩ := I.tuple hq
  obtain ⟨⟨cls, dd, data, sl⟩, ho, hc, n, hd⟩ := id p
  simp only at hc hd
  subst hc hd
  refine call_meetsIn PySem.F.slot_tuple_contains ⟨_, ho, rfl⟩ PySem.F.entry_tuple_contains (PySem.F.args_tuple_contains_2 _ _) (BvIn.tuple_hasG l its.toArray n dd sl (.ref a) (fun s' => ∃ H', Inv X pins σ H' s' ∧ Same H H') fun _ => false) ⟨ho, ⟨H, I, Same.refl H⟩, fun y hy s' Q' ⟨H', I', k'⟩ fin' => ?_, fun s' ⟨H', I', k'⟩ => ?_⟩
  · obtain ⟨i, v, h1, r⟩ := vals_at rv (by simpa using hy)
    obtain ⟨d, h2, av⟩ := as.at_ h1
    obtain ⟨hdc, hg⟩ := noneOf_mem hn (List.mem_of_getElem? h2)
    have ha' : H' a = some (.ins (He.ga X.K C) dx fs) := k' _ _ ha
    obtain ⟨ox, od, J⟩ := ins_at I' ha'
    have hob := ins_obj I' ha'
    have hu : X.A.in1.units < cLine := by have := room.in1.un; omega
    -- the own ==
    have own : wpAny (model X.prog X.w) X.A.in1 (call (.ref f) [.ref a, y]) (fun v s' => ∃ r : Bool, v = .bool r ∧ ∃ r', Value.bool r = .bool r' ∧ Q' r' s') (fun e s' => wants Q E (.error e) s') s' := by
      refine wpAny_mono (run_in (Q := fun v H'' => v = .bl false ∧ Same H' H'') F (by exact gu) (room.in1.mono (Nat.le_succ k)) hb I' I'.env0.in1 (.cons (show RelV (V.ref a) (Value.ref a) from rfl) (.cons r .nil)) ⟨rfl, W, [o, d], fun a h => let ⟨o, q⟩ := hw a h; ⟨o, k' _ _ q⟩, .cons (a0.mv (same_mv k')) (.cons (av.mv (same_mv k')) .nil), ?_⟩) (fun w s'' z => ?_) fun _ _ z => z
      · rw [hg]
        intro H'' v ex a1
        cases a1
        exact ⟨rfl, ex⟩
      · obtain ⟨v, H'', I'', rv', rfl, k''⟩ := z
        cases rv'
        exact ⟨false, rfl, false, rfl, fin' s'' ⟨H'', I'', fun b o q => k'' b o (k' b o q)⟩⟩
    cases d with
    | str z =>
      cases av
      obtain ⟨t, rfl⟩ := r
      exact BvIn.eqBool_own rfl (BvIn.rc_own hu (typeIs_str _ _ _) PySem.F.slot_str_eq I'.kIn J N.st O.at_ O.fn (call_meets PySem.F.slot_str_eq (typeIs_str _ _ _) PySem.F.entry_str_eq (PySem.F.args_str_eq_2 _ _) (BvIn.str_declines_ins z t a _ dx) ⟨hob, rfl, rfl⟩) own)
    | non =>
      cases av
      obtain rfl : y = Value.none := r
      exact BvIn.eqBool_own rfl (BvIn.rc_own (T := "NoneType") hu (show s'.TypeIs .none "NoneType" from rfl) PySem.F.slot_NoneType_eq I'.kIn J N.no O.at_ O.fn (call_gives PySem.F.slot_NoneType_eq (show s'.TypeIs .none "NoneType" from rfl) PySem.F.entry_NoneType_eq (PySem.F.args_NoneType_eq_2 _ _) (PySem.SeqAt.NoneType___eq___none_ref_0 a) ⟨rfl, rfl⟩) own)
    | tup es =>
      cases av with
      | @tup b us _ t _ =>
        obtain rfl : y = Value.ref b := r
        have t' := (same_mv (W := W) k').tp t
        obtain ⟨its2, _, p2, _⟩ := I'.tuple t'.sq
        obtain ⟨⟨cls2, dd2, data2, sl2⟩, ho2, hc2, n2, hd2⟩ := id p2
        simp only at hc2 hd2
        subst hc2 hd2
        have hne : (Value.ref b == Value.ref a) = false := by
          refine beq_eq_false_iff_ne.mpr fun z => ?_
          cases z
          rw [ho2] at hob
          cases hob
        exact BvIn.eqBool_own hne (BvIn.rc_own hu ⟨_, ho2, rfl⟩ PySem.F.slot_tuple_eq I'.kIn J N.tu O.at_ O.fn (call_meets PySem.F.slot_tuple_eq ⟨_, ho2, rfl⟩ PySem.F.entry_tuple_eq (PySem.F.args_tuple_eq_2 _ _) (BvIn.tuple_declines_ins b a _ dx its2.toArray n2 dd2 sl2) ⟨ho2, hob, fun M => PySem.W.looks_subIn I'.kIn N.tu, rfl, rfl⟩) own)
    | _ => cases hdc
  · have e : (its.toArray.any fun _ => false) = false := by simp
    rw [e]
    exact fin H' s' k' I'
theorem op_inO (gu : X.A.guards = some []) (F : FnG X.prog X.w X.K X.mg X.base k f fd ps (spP X.K 2 g)) (O : OwnEq X.K C f) (N : OwnSub X.K C) (room : Room (k + 2) X.A) (hb : Binds X.K fd ps []) : OpR X (compareOp .In) (rInO X.K C g false) := fun pins s σ H x y v u Q I rx ry h => by
  obtain ⟨W, o, ds, a, dx, l, fs, ys, rfl, rfl, ha, hq, hw, a0, as, hn, q⟩ := h
  cases rx
  cases ry
  obtain ⟨its, rv, p, hz⟩ := I.tuple hq
  have hT : s.TypeIs (.ref l) "tuple" := let ⟨o, h1, h2, _⟩ := p; ⟨o, h1, h2⟩
  show wpAny _ X.A (do return .bool (← contains (.ref l) (.ref a))) (EP X pins σ Q) X.xe s
  refine wpAny_bind (wpAny_contains_slot hT PySem.F.slot_tuple_contains (in_core gu F O N room hb I ha hq hw a0 as hn fun H' s' k' I' => ?_))
  exact wpAny_truthy_bool (wpAny_pure ⟨.bl false, H', I', rfl, q H' k'⟩)
theorem op_ninO (gu : X.A.guards = some []) (F : FnG X.prog X.w X.K X.mg X.base k f fd ps (spP X.K 2 g)) (O : OwnEq X.K C f) (N : OwnSub X.K C) (room : Room (k + 2) X.A) (hb : Binds X.K fd ps []) : OpR X (compareOp .NotIn) (rInO X.K C g true) := fun pins s σ H x y v u Q I rx ry h => by
  obtain ⟨W, o, ds, a, dx, l, fs, ys, rfl, rfl, ha, hq, hw, a0, as, hn, q⟩ := h
  cases rx
  cases ry
  obtain ⟨its, rv, p, hz⟩ := I.tuple hq
  have hT : s.TypeIs (.ref l) "tuple" := let ⟨o, h1, h2, _⟩ := p; ⟨o, h1, h2⟩
  show wpAny _ X.A (do return .bool (!(← contains (.ref l) (.ref a)))) (EP X pins σ Q) X.xe s
  refine wpAny_bind (wpAny_contains_slot hT PySem.F.slot_tuple_contains (in_core gu F O N room hb I ha hq hw a0 as hn fun H' s' k' I' => ?_))
  exact wpAny_truthy_bool (wpAny_pure ⟨.bl true, H', I', rfl, q H' k'⟩)
end
def inOwn (C : Str) (g : List D → PR) (neg : Bool) (a b : D) : Option D := match a, b with
  | .obj C1 f1, .tup ds => if decide (C1 = C) && noneOf g (.obj C1 f1) ds then some (.bl neg) else none
  | _, _ => none
theorem o_inO {K : PySem.W.Frag} {C : Str} {g : List D → PR} {neg : Bool} : Op2 K (rInO K C g neg) (inOwn C g neg) := fun W H d1 d2 v1 v2 d Q hw a1 a2 e k => by
  unfold inOwn at e
  split at e
  · rename_i C1 f1 ds
    obtain ⟨h1, h2⟩ := ite_some e
    obtain ⟨h3, h4⟩ := Bool.and_eq_true_iff.mp h1
    obtain rfl := of_decide_eq_true h3
    cases h2
    obtain ⟨a, dx, vs, rfl, w, r, hs⟩ := a1.ob
    obtain ⟨l, ys, rfl, t, as⟩ := a2.tq
    exact ⟨W, _, ds, a, dx, l, vs, ys, rfl, rfl, r, t.sq, hw, .obj w r hs, as, h4, fun H' s => k H' _ s (.bl _)⟩
  · cases e
section
variable {X : Cx} {Wx : WX} {k j : Nat} {C : Str} {g : List D → PR}
theorem Here.inO (h : Here X Wx k) (c : Kept X.prog X.w X.K X.mg X.base j (He.ma X.K (He.ga X.K C) "__eq__") (spP X.K 2 g)) (O : OwnEq X.K C (He.ma X.K (He.ga X.K C) "__eq__")) (N : OwnSub X.K C) (hj : j + 2 ≤ k := by decide) : Opr X (compareOp .In) (Bv.inOwn C g false) := by
  obtain ⟨fd, ps, F, b⟩ := c.ex
  exact ⟨_, op_inO h.gu F O N (h.room.mono hj) b, o_inO⟩
theorem Here.ninO (h : Here X Wx k) (c : Kept X.prog X.w X.K X.mg X.base j (He.ma X.K (He.ga X.K C) "__eq__") (spP X.K 2 g)) (O : OwnEq X.K C (He.ma X.K (He.ga X.K C) "__eq__")) (N : OwnSub X.K C) (hj : j + 2 ≤ k := by decide) : Opr X (compareOp .NotIn) (Bv.inOwn C g true) := by
  obtain ⟨fd, ps, F, b⟩ := c.ex
  exact ⟨_, op_ninO h.gu F O N (h.room.mono hj) b, o_inO⟩
end
end Bv
set_option Elab.async false
set_option linter.all false
set_option maxRecDepth 100000
set_option maxHeartbeats 4000000
/-! By value: tuples of own things that are equal, one by one; - of an int. -/
namespace PySem
open Sem (wp)
open AutoSeq1 (wpAny_loadPart')
open MeetsSeq MeetsSeq2 MeetsSeq3 SeqRoads2
namespace BvTu
section
variable {prog : Program} {w : World} {A : Around} {R : Result → Shared → Prop}
/-- != of tuples whose items are equal, one by one -/
theorem ne_all (p q : Addr) (us vs : Array Value) (n m : Nat) (dp dq : Option Addr) (sp sq : Array (Option Value)) (many : us.size = vs.size) (J : Nat → Shared → Prop)
    (one : ∀ i (h1 : i < us.size) (h2 : i < vs.size) s, J i s → wpAny (model prog w) A.in1 (eqBool us[i] vs[i]) (fun r s' => r = true ∧ J (i + 1) s') (fun e s' => R (.error e) s') s)
    (last : ∀ s, J us.size s → R (.ok (.ret (.bool false))) s) {s : Shared} (gp : s.heap.get? p = some { cls := .type "tuple", dict := dp, data := .seq us n, slots := sp }) (gq : s.heap.get? q = some { cls := .type "tuple", dict := dq, data := .seq vs m, slots := sq }) (start : J 0 s) :
    wpAny (model prog w) A.in1 (Builtin.«tuple.__ne__» ⟨[.ref p, .ref q], []⟩) (GQ.FinOf prog w A R) (fun e s' => R (.error e) s') s := by
  have below := AutoSeq1.sub_tuple_tuple
  have zl : (us.toList.zip vs.toList).length = us.size := by simp [many]
  have st := start
  obtain ⟨hp, g, d, tk, os⟩ := s
  wp_walk using wpAny_loadPart' gp, wpAny_loadPart' gq, wpAny_forIn_list _ (fun rest b s' => b.1 = none ∧ ∃ i, rest = (us.toList.zip vs.toList).drop i ∧ i ≤ us.size ∧ J i s') _
  case turn =>
    rintro ⟨y, x⟩ rest b s' ⟨eb, i, ez, le, ji⟩
    have lt : i < (us.toList.zip vs.toList).length := by
      rcases Nat.lt_or_ge i (us.toList.zip vs.toList).length with z | z
      · exact z
      · rw [List.drop_of_length_le z] at ez; cases ez
    have l1 : i < us.size := zl ▸ lt
    have l2 : i < vs.size := many ▸ l1
    rw [List.drop_eq_getElem_cons lt] at ez
    injection ez with e1 e2
    obtain rfl : y = us[i] := by have := congrArg Prod.fst e1; simpa using this
    obtain rfl : x = vs[i] := by have := congrArg Prod.snd e1; simpa using this
    refine wpAny_bind (wpAny_mono (one i l1 l2 s' ji) (fun r s2 ⟨hr, j2⟩ => ?_) fun _ _ x => x)
    subst hr
    wp_walk
    exact ⟨rfl, i + 1, e2, l1, j2⟩
  case fin =>
    rintro ⟨b1, b2⟩ s' ⟨eb, i, ez, le, ji⟩
    simp only at eb
    subst eb
    have ge : us.size ≤ i := by
      rcases Nat.lt_or_ge i (us.toList.zip vs.toList).length with z | z
      · rw [List.drop_eq_getElem_cons z] at ez; cases ez
      · exact zl ▸ z
    have e3 : i = us.size := by omega
    have fine : R (.ok (.ret (.bool false))) s' := last s' (e3 ▸ ji)
    wp_walk
    simpa [Builtin.Tuple.tupleCompareSizes, many] using fine
  case h => exact ⟨rfl, 0, rfl, Nat.zero_le _, st⟩
variable {E : Value → Shared → Prop} {s : Shared}
theorem rc_ne {p q : Addr} {us vs : Array Value} {Q : Value → Shared → Prop} (many : us.size = vs.size) (room : A.units < cLine) (J : Nat → Shared → Prop) (tp : s.heap.IsTuple p us) (tq : s.heap.IsTuple q vs)
    (one : ∀ i (h1 : i < us.size) (h2 : i < vs.size) s, J i s → wpAny (model prog w) A.in1 (eqBool us[i] vs[i]) (fun r s' => r = true ∧ J (i + 1) s') E s) (last : ∀ s, J us.size s → Q (.bool false) s) (start : J 0 s) : wpAny (model prog w) A (richCompare .NotEq (.ref p) (.ref q)) Q E s := by
  obtain ⟨⟨c1, d1, t1, l1⟩, o1, k1, n1, e1⟩ := id tp
  obtain ⟨⟨c2, d2, t2, l2⟩, o2, k2, n2, e2⟩ := id tq
  simp only at k1 e1 k2 e2
  subst k1 e1 k2 e2
  refine wpAny_richCompare_same_room (op := .NotEq) ⟨_, o1, rfl⟩ ⟨_, o2, rfl⟩ F.slot_tuple_ne (GQ.call_here F.slot_tuple_ne ⟨_, o1, rfl⟩ F.entry_tuple_ne (F.args_tuple_ne_2 _ _) ?_) room
  exact ne_all (R := wants (fun v s' => v ≠ .notImplemented ∧ Q v s') E) p q us vs n1 n2 d1 d2 l1 l2 many J one (fun s' z => ⟨(fun x => nomatch x), last s' z⟩) o1 o2 start
end
end BvTu
end PySem
namespace Bv
open PySem PySem.Spec L2
open PyProof.Rows hiding St
variable [HasW]
/-- own things, equal one by one -/
def pairsEq (C : Str) (g : List D → PR) : List D → List D → Bool
  | [], [] => true
  | .obj C1 f1 :: ds, .obj C2 f2 :: es => decide (C1 = C) && decide (C2 = C) && (match g [.obj C1 f1, .obj C2 f2] with
    | .ok (.bl true) => true
    | _ => false) && pairsEq C g ds es
  | _, _ => false
theorem pairsEq_at {C : Str} {g : List D → PR} : ∀ {ds es : List D}, pairsEq C g ds es = true → ds.length = es.length ∧ ∀ (i : Nat) d e, ds[i]? = some d → es[i]? = some e → ∃ f1 f2, d = .obj C f1 ∧ e = .obj C f2 ∧ g [d, e] = .ok (.bl true)
  | [], [], _ => ⟨rfl, fun i d e h _ => by simp at h⟩
  | d :: ds, e :: es, h => by
    cases d with
    | obj C1 f1 =>
      cases e with
      | obj C2 f2 =>
        have h : (decide (C1 = C) && decide (C2 = C) && (match g [.obj C1 f1, .obj C2 f2] with
          | .ok (.bl true) => true
          | _ => false) && pairsEq C g ds es) = true := h
        simp only [Bool.and_eq_true, decide_eq_true_eq] at h
        obtain ⟨⟨⟨rfl, rfl⟩, hg⟩, hr⟩ := h
        obtain ⟨hl, hi⟩ := pairsEq_at hr
        have hg : g [.obj C2 f1, .obj C2 f2] = .ok (.bl true) := by
          split at hg
          · assumption
          · cases hg
        refine ⟨by simp [hl], fun i a b h1 h2 => ?_⟩
        cases i with
        | zero =>
          simp at h1 h2
          subst h1 h2
          exact ⟨f1, f2, rfl, rfl, hg⟩
        | succ i => exact hi i a b (by simpa using h1) (by simpa using h2)
      | _ => cases h
    | _ => cases h
  | [], _ :: _, h => by cases h
  | d :: _, [], h => by cases d <;> cases h
abbrev rTuO (K : PySem.W.Frag) (C : Str) (g : List D → PR) (neg : Bool) : R2 := fun x y H Q => ∃ (W : Wd) (ds es : List D) (a b : Addr) (xs ys : List V), x = .ref a ∧ y = .ref b ∧ SqT K H a xs ∧ SqT K H b ys ∧ (∀ a, W a → ∃ o, H a = some o) ∧ AVs K W H ds xs ∧ AVs K W H es ys ∧ pairsEq C g ds es = true ∧ ∀ H', Same H H' → Q (.bl (!neg)) H'
section
variable {X : Cx} {k : Nat} {f : Addr} {fd : FuncData} {ps : List Str} {g : List D → PR} {C : Str}
theorem tu_turn (gu : X.A.guards = some []) (F : FnG X.prog X.w X.K X.mg X.base k f fd ps (spP X.K 2 g)) (O : OwnEq X.K C f) (room : Room (k + 2) X.A) (hb : Binds X.K fd ps []) {pins : List (Addr × Obj)} {σ : St} {H : Hp} {E : Value → Shared → Prop}
    {W : Wd} {ds es : List D} {xs ys : List V} {us vs : List Value} (hw : ∀ a, W a → ∃ o, H a = some o) (as : AVs X.K W H ds xs) (bs : AVs X.K W H es ys) (hp : pairsEq C g ds es = true) (r1 : Vals xs us) (r2 : Vals ys vs)
    (i : Nat) (h1 : i < us.toArray.size) (h2 : i < vs.toArray.size) (s : Shared) (J : ∃ H', Inv X pins σ H' s ∧ Same H H') : wpAny (model X.prog X.w) X.A.in1 (eqBool us.toArray[i] vs.toArray[i]) (fun r s' => r = true ∧ ∃ H', Inv X pins σ H' s' ∧ Same H H') E s := by
  obtain ⟨H', I', k'⟩ := J
  obtain ⟨hl, hi⟩ := pairsEq_at hp
  have u1 : us[i]? = some us.toArray[i] := by simp
  have u2 : vs[i]? = some vs.toArray[i] := by simp
  have z1 : i < xs.length := by rw [r1.length]; simpa using h1
  have z2 : i < ys.length := by rw [r2.length]; simpa using h2
  obtain ⟨a, ha, ra⟩ := r1.get (List.getElem?_eq_getElem z1)
  obtain ⟨b, hb2, rb⟩ := r2.get (List.getElem?_eq_getElem z2)
  rw [u1] at ha
  rw [u2] at hb2
  cases ha
  cases hb2
  obtain ⟨d, hd, ad⟩ := as.at_ (List.getElem?_eq_getElem z1)
  obtain ⟨e, he, ae⟩ := bs.at_ (List.getElem?_eq_getElem z2)
  obtain ⟨f1, f2, rfl, rfl, hg⟩ := hi i _ _ hd he
  generalize us.toArray[i] = ua at *
  generalize vs.toArray[i] = ub at *
  generalize xs[i] = xa at *
  generalize ys[i] = xb at *
  cases ad with
  | obj w0 q0 q1 =>
    cases ae with
    | obj w2 q2 q3 =>
      rename_i p0 dx0 vs0 p1 dx1 vs1
      obtain rfl : ua = Value.ref p0 := ra
      obtain rfl : ub = Value.ref p1 := rb
      have ha' := k' _ _ q0
      have hb' := k' _ _ q2
      by_cases hab : p0 = p1
      · subst hab
        unfold eqBool
        refine wpAny_holding ?_
        rw [if_pos (by simp)]
        exact wpAny_bind (wpAny_rule (wpAny_pure ⟨rfl, H', I', k'⟩))
      · obtain ⟨ox, od, J1⟩ := ins_at I' ha'
        obtain ⟨oy, oe, J2⟩ := ins_at I' hb'
        obtain ⟨m, hF⟩ := I'.fr
        refine GQ.eqBool_refG hab (PySem.W.cmp_K (op := .Eq) (tb := .ref (He.ga X.K C)) (by have := room.in1.un; omega) hF I'.ok.mod.kin J1 J2.type (by simp [PySem.W.notFirst]) O.at_ O.fn ?_)
        refine wpAny_mono (run_in (Q := fun v H'' => v = .bl true ∧ Same H' H'') F (by exact gu) (room.in1.mono (Nat.le_succ k)) hb I' I'.env0.in1 (.cons (show RelV (V.ref p0) (Value.ref p0) from rfl) (.cons (show RelV (V.ref p1) (Value.ref p1) from rfl) .nil)) ⟨rfl, W, [.obj C f1, .obj C f2], fun a h => let ⟨o, q⟩ := hw a h; ⟨o, k' _ _ q⟩, .cons ((AV.obj w0 q0 q1).mv (same_mv k')) (.cons ((AV.obj w2 q2 q3).mv (same_mv k')) .nil), ?_⟩) (fun w s'' z => ?_) fun _ _ z => z
        · rw [hg]
          intro H'' v ex a1
          cases a1
          exact ⟨rfl, ex⟩
        · obtain ⟨v, H'', I'', rv', rfl, k''⟩ := z
          cases rv'
          exact ⟨true, rfl, rfl, H'', I'', fun b o q => k'' b o (k' b o q)⟩
theorem op_tuO (gu : X.A.guards = some []) (F : FnG X.prog X.w X.K X.mg X.base k f fd ps (spP X.K 2 g)) (O : OwnEq X.K C f) (room : Room (k + 2) X.A) (hb : Binds X.K fd ps []) : OpR X (compareOp .Eq) (rTuO X.K C g false) := fun pins s σ H x y v u Q I rx ry h => by
  obtain ⟨W, ds, es, a, b, xs, ys, rfl, rfl, t1, t2, hw, as, bs, hp, q⟩ := h
  cases rx
  cases ry
  obtain ⟨us, r1, p1, _⟩ := I.tuple t1
  obtain ⟨vs, r2, p2, _⟩ := I.tuple t2
  have many : us.toArray.size = vs.toArray.size := by rw [List.size_toArray, List.size_toArray, ← r1.length, ← r2.length, ← as.length, ← bs.length]; exact (pairsEq_at hp).1
  show wpAny (model X.prog X.w) X.A (richCompare .Eq (.ref a) (.ref b)) (EP X pins σ Q) X.xe s
  exact GQ.rc_tupG many room.units0 (fun _ s' => ∃ H', Inv X pins σ H' s' ∧ Same H H') p1 p2 (fun i h1 h2 s' j => tu_turn gu F O room hb hw as bs hp r1 r2 i h1 h2 s' j) (fun s' ⟨H', I', k'⟩ => ⟨.bl true, H', I', rfl, q H' k'⟩) ⟨H, I, Same.refl H⟩
theorem op_tunO (gu : X.A.guards = some []) (F : FnG X.prog X.w X.K X.mg X.base k f fd ps (spP X.K 2 g)) (O : OwnEq X.K C f) (room : Room (k + 2) X.A) (hb : Binds X.K fd ps []) : OpR X (compareOp .NotEq) (rTuO X.K C g true) := fun pins s σ H x y v u Q I rx ry h => by
  obtain ⟨W, ds, es, a, b, xs, ys, rfl, rfl, t1, t2, hw, as, bs, hp, q⟩ := h
  cases rx
  cases ry
  obtain ⟨us, r1, p1, _⟩ := I.tuple t1
  obtain ⟨vs, r2, p2, _⟩ := I.tuple t2
  have many : us.toArray.size = vs.toArray.size := by rw [List.size_toArray, List.size_toArray, ← r1.length, ← r2.length, ← as.length, ← bs.length]; exact (pairsEq_at hp).1
  show wpAny (model X.prog X.w) X.A (richCompare .NotEq (.ref a) (.ref b)) (EP X pins σ Q) X.xe s
  exact BvTu.rc_ne many room.units0 (fun _ s' => ∃ H', Inv X pins σ H' s' ∧ Same H H') p1 p2 (fun i h1 h2 s' j => tu_turn gu F O room hb hw as bs hp r1 r2 i h1 h2 s' j) (fun s' ⟨H', I', k'⟩ => ⟨.bl false, H', I', rfl, q H' k'⟩) ⟨H, I, Same.refl H⟩
end
def tuO (C : Str) (g : List D → PR) (neg : Bool) (a b : D) : Option D := match a, b with
  | .tup ds, .tup es => if pairsEq C g ds es then some (.bl (!neg)) else none
  | _, _ => none
theorem o_tuO {K : PySem.W.Frag} {C : Str} {g : List D → PR} {neg : Bool} : Op2 K (rTuO K C g neg) (tuO C g neg) := fun W H d1 d2 v1 v2 d Q hw a1 a2 e k => by
  unfold tuO at e
  split at e
  · rename_i ds es
    obtain ⟨h1, h2⟩ := ite_some e
    cases h2
    obtain ⟨a, xs, rfl, t1, as⟩ := a1.tq
    obtain ⟨b, ys, rfl, t2, bs⟩ := a2.tq
    exact ⟨W, ds, es, a, b, xs, ys, rfl, rfl, t1.sq, t2.sq, hw, as, bs, h1, fun H' s => k H' _ s (.bl _)⟩
  · cases e
def m_neg (m : M) : M := fun e S => (m e S).bind fun x S1 => optR ((intX x).map fun i => .d (.int (-i))) S1
section
variable {X : Cx} {Wx : WX} {k j : Nat} {C : Str} {g : List D → PR} {pos : Pos} {a : Expr} {m : M}
theorem Here.tuO (h : Here X Wx k) (c : Kept X.prog X.w X.K X.mg X.base j (He.ma X.K (He.ga X.K C) "__eq__") (spP X.K 2 g)) (O : OwnEq X.K C (He.ma X.K (He.ga X.K C) "__eq__")) (hj : j + 2 ≤ k := by decide) : Opr X (compareOp .Eq) (Bv.tuO C g false) := by
  obtain ⟨fd, ps, F, b⟩ := c.ex
  exact ⟨_, op_tuO h.gu F O (h.room.mono hj) b, o_tuO⟩
theorem Here.tunO (h : Here X Wx k) (c : Kept X.prog X.w X.K X.mg X.base j (He.ma X.K (He.ga X.K C) "__eq__") (spP X.K 2 g)) (O : OwnEq X.K C (He.ma X.K (He.ga X.K C) "__eq__")) (hj : j + 2 ≤ k := by decide) : Opr X (compareOp .NotEq) (Bv.tuO C g true) := by
  obtain ⟨fd, ps, F, b⟩ := c.ex
  exact ⟨_, op_tunO h.gu F O (h.room.mono hj) b, o_tuO⟩
theorem me_neg (h : ME X Wx a m) : ME X Wx (.UnaryOp .USub a pos) (m_neg m) := PE.of (pe_un un_neg h) fun σ H Q ⟨Z, ρ, e, S, st, ev, p⟩ => tt_bind st ev p fun ρ1 H1 v x S1 s1 g1 ev1 a1 p1 => by
  obtain ⟨w, hw, p2⟩ := p1.opt
  obtain ⟨i, h1, h2⟩ := Option.map_eq_some_iff.mp hw
  subst h2
  exact ⟨i, a1.int h1, PostG.ret0 p2 s1 (.d (.int _))⟩
end
end Bv
set_option Elab.async false
set_option linter.all false
set_option maxRecDepth 100000
set_option maxHeartbeats 4000000
/-! By value: split into a list that will be changed. -/
namespace Bv
open PySem PySem.Spec L2
open PyProof.Rows hiding St
variable [HasW]
def g_splitN (a : Str) (y : Bv.X) (S : Sto) : R Bv.X := match y with
  | .d (.str b) => if !(b.length == 0) && decide (a.length + 2 ≤ sizeLine) && okStrs (Txt.split a b) then .ok (.r S.length) (S ++ [.lst ((Txt.split a b).map fun z => .d (.str z))]) else .bad
  | _ => .bad
theorem axs_strOk {K : PySem.W.Frag} {W : Wd} {ρ : List Addr} {H : Hp} : ∀ {l : List Str}, okStrs l = true → AXs K W ρ H (l.map fun z => .d (.str z)) (l.map V.str)
  | [], _ => .nil
  | z :: r, h => by
    have h2 : (PyData.strOk z && okStrs r) = true := h
    rw [Bool.and_eq_true] at h2
    exact .cons (.d (.str h2.1)) (axs_strOk h2.2)
section
variable {X : Cx} {Wx : WX} {pos apos : Pos} {o e : Expr} {mo m : M}
theorem me_splitN (ho : ME X Wx o mo) (he : ME X Wx e m) (hs : starEach [e] X.env = [(false, eval e X.env)] := by rfl) (hbase : attributeBase o "split" X.env (eval o X.env) = eval o X.env := by rfl) (hline : (apos.endLine == pos.line) = true := by rfl) :
    ME X Wx (.Call (.Attribute o "split" apos) [e] [] pos) (m_sm1 g_splitN mo m) := PE.of (pe_split ho he hs hbase hline) fun σ H Q ⟨Z, ρ, e, S, st, ev, p⟩ => tt_bind st ev p fun ρ1 H1 v x S1 s1 g1 ev1 a1 p1 => by
  cases a1 with
  | r _ => exact p1.elim
  | d a =>
    cases a with
    | str hz =>
      rename_i z
      refine ⟨⟨z, rfl⟩, tt_bind s1 ev1 (show PostG (AX X.K) X.K Z ρ1 H1 Wx σ Q ((m e S1).bind fun y S2 => g_splitN z y S2) from p1) fun ρ2 H2 u y S2 s2 g2 ev2 a2 p2 => ?_⟩
      unfold g_splitN at p2
      split at p2
      · rename_i b
        split at p2
        · rename_i hc
          rw [Bool.and_eq_true, Bool.and_eq_true] at hc
          obtain ⟨⟨c1, c2⟩, c3⟩ := hc
          cases a2 with
          | d a2 =>
            cases a2 with
            | str hb =>
              refine ⟨z, b, rfl, rfl, by simpa using c1, of_decide_eq_true c2, fun q hq => ?_⟩
              obtain ⟨h1, h2⟩ := s2.pushL hq (axs_strOk (K := X.K) (W := Wn Z ρ2) (ρ := ρ2) (H := H2) c3)
              exact p2 _ _ _ h1 h2 (.r (by rw [s2.len]; simp))
        · exact p2.elim
      · exact p2.elim
    | _ => exact p1.elim
end
end Bv
set_option Elab.async false
set_option linter.all false
set_option maxRecDepth 100000
set_option maxHeartbeats 4000000
/-! By value: xs.extend(ys). -/
namespace Bv
open PySem PySem.Spec L2
open PyProof.Rows hiding St
variable [HasW]
def lstX (S : Sto) : X → Option (List X)
  | .d (.lst ds) => some (ds.map .d)
  | .d _ => none
  | .r n => match S[n]? with
    | some (.lst xs) => some xs
    | _ => none
theorem lstX_inv {K : PySem.W.Frag} {Z : Wd} {ρ : List Addr} {S : Sto} {H : Hp} {x : Bv.X} {v : V} {xs : List Bv.X} (st : Sta K Z ρ S H) (a : AX K (Wn Z ρ) ρ H x v) (h : lstX S x = some xs) : ∃ q vs, v = .ref q ∧ H q = some (.lst vs) ∧ AXs K (Wn Z ρ) ρ H xs vs := by
  cases x with
  | d d =>
    cases a with
    | d a =>
      cases a with
      | lst h1 h2 h3 =>
        cases h
        exact ⟨_, _, rfl, h2, h3.axs⟩
      | _ => cases h
  | r n =>
    have h2 : lstOf S (.r n) = some (n, xs) := by
      unfold lstX at h
      unfold lstOf
      cases z : S[n]? with
      | none => simp only [z] at h; cases h
      | some o =>
        cases o with
        | lst ys =>
          simp only [z] at h ⊢
          cases h
          rfl
        | _ => simp only [z] at h; cases h
    obtain ⟨q, vs, e, _, h3, h4⟩ := lstOf_inv st a h2
    exact ⟨q, vs, e, h3, h4⟩
def g_extend : Bv.X → List Bv.X → Sto → R Bv.X := fun x ys S => match lstOf S x, ys with
  | some (n, xs), [y] => (match lstX S y with
    | some zs => if decide (xs.length + zs.length ≤ sizeLine) then .ok (.d .non) (S.set n (.lst (xs ++ zs))) else .bad
    | none => .bad)
  | _, _ => .bad
theorem b_extend {K : PySem.W.Frag} : MtX K rExtend g_extend := fun Z ρ S H Wx σ x v ys ws Q st a as p => by
  unfold g_extend at p
  split at p
  · rename_i n xs y hl
    cases as with
    | cons h t =>
      cases t
      split at p
      · rename_i zs hy
        split at p
        · rename_i hz
          obtain ⟨q, vs, rfl, e, h3, h4⟩ := lstOf_inv st a hl
          obtain ⟨b, us, rfl, h5, h6⟩ := lstX_inv st h hy
          have hz := of_decide_eq_true hz
          obtain ⟨s5, g5⟩ := st.putL e h3 (Paired.append h4 h6)
          exact ⟨q, b, vs, us, rfl, rfl, h3, h5, by rw [← Paired.length h4, ← Paired.length h6]; exact hz, p ρ _ .non s5 g5 (.d .non)⟩
        · exact p.elim
      · exact p.elim
  · exact p.elim
end Bv
set_option Elab.async false
set_option linter.all false
set_option maxRecDepth 100000
set_option maxHeartbeats 4000000
/-! A class of exceptions over a built-in one whose __new__ is another's (KeyError: LookupError's). -/
namespace Xe
open PySem PySem.W PySem.Calls PyProof.Rows PySem.HandSPX
/-- what is asked of the class's own tail: who makes it, and what it is not -/
structure TailF (newId : String) (bm : List Value) : Prop where
  new : ∃ (Bn inN : String) (bmN : List Value), ExcBaseFacts Bn newId inN bmN ∧ bm.contains (.type Bn) = true
  noA : bm.contains (.type "AttributeError") = false
  noN : bm.contains (.type "NameError") = false
/-- the built-in __init__ -/
structure InitF (B initId : String) : Prop where
  init : Slot B "__init__" initId
  entry : entryFor table initId = some Builtin.«BaseException.__init__»
  kind : builtinKind initId = some .slot
  row : Manifest.signature? initId = some ⟨.positional, "*", B, .self, [⟨"args", .varPos, false⟩]⟩
  star : (B != "*") = true
theorem TailF.of {B newId initId : String} {bm : List Value} (F : ExcBaseFacts B newId initId bm) : TailF newId bm := ⟨⟨B, initId, bm, F, F.hasB⟩, F.noAttr, F.noName⟩
theorem InitF.of {B newId initId : String} {bm : List Value} (F : ExcBaseFacts B newId initId bm) : InitF B initId := ⟨F.init, F.initEntry, F.initKind, F.initRow, F.noStar⟩
theorem TailF.same {newId : String} {bm bmB : List Value} (T : TailF newId bmB) (h : ∀ X : String, bm.contains (.type X) = bmB.contains (.type X)) : TailF newId bm := by
  obtain ⟨⟨Bn, inN, bmN, F, hb⟩, a, n⟩ := T
  exact ⟨⟨Bn, inN, bmN, F, (h _).trans hb⟩, (h _).trans a, (h _).trans n⟩
section
variable {prog : Program} {w : World} {M : Model} {A : Around} {E : Value → Shared → Prop} {R : Result → Shared → Prop} {h : Heap} {g : Array GenState} {d : Drawn} {t : Nat} {os : OsState}
variable {nm q : Str} {C N : Addr} {bs bm : List Value} {hdct : Bool} {sn : List Str} {sub : List Value} {ab : Bool} {col : Option Bool} {dd : Option Addr} {k0 k1 k2 k3 k5 : Option Value} {B newId initId : String}
theorem new_check {Bn inN : String} {bmN : List Value} (F : ExcBaseFacts Bn newId inN bmN) (hB : bm.contains (.type Bn) = true) {rest : List Value} {Q : Unit → Shared → Prop}
    (hC : h.get? C = some (excClassObj nm q C N bs bm hdct sn sub ab col dd k0 k1 k2 k3 k5 newId)) (hq : Q () ⟨h, g, d, t, os⟩) : wpAny M A (checkBuiltinCall newId ⟨.ref C :: rest, []⟩) Q E ⟨h, g, d, t, os⟩ := by
  have within : (Value.ref C :: bm).contains (.type Bn) = true := by rw [List.contains_cons, hB, Bool.or_true]
  have star := F.noStar
  simp only [checkBuiltinCall, F.newKind, F.newSplit, F.newRow]
  repeat (first | refine wpAny_loadPart_at hC ?_ | (refine wpAny_isSubtype_exc hC ?_; rw [within]) | refine wpAny_staticBase_exc hC ?_ | refine wpAny_madeBy_exc hC ?_ | simp only [bne_self_eq_false, Bool.false_eq_true, if_false] | wp_step)
  exact hq
theorem new_made {Bn inN : String} {bmN : List Value} (F : ExcBaseFacts Bn newId inN bmN) (hB : bm.contains (.type Bn) = true) (hA : bm.contains (.type "AttributeError") = false) (hN : bm.contains (.type "NameError") = false) {rest : List Value}
    (hC : h.get? C = some (excClassObj nm q C N bs bm hdct sn sub ab col dd k0 k1 k2 k3 k5 newId))
    (hq : R (.ok (.ret (.ref (h.objs.size + 1)))) ⟨(h.push (kdv_tup rest)).push (excO C h.objs.size), g, d, t, os⟩) (hrest : rest.length ≤ sizeLine) :
    codeAny (model prog w) A (.builtin newId ⟨.ref C :: rest, []⟩) R ⟨h, g, d, t, os⟩ := by
  have ends := F.ends
  have c1 : (Value.ref C :: bm).contains (.type Bn) = true := by rw [List.contains_cons, hB, Bool.or_true]
  have c2 : (Value.ref C :: bm).contains (.type "AttributeError") = false := by rw [List.contains_cons, hA]; rfl
  have c3 : (Value.ref C :: bm).contains (.type "NameError") = false := by rw [List.contains_cons, hN]; rfl
  refine codeAny_builtinAt F.entry ?_
  unfold Builtin.«BaseException.__new__»
  refine PySem.wpAt_bind ?_
  show PySem.wpAt _ _ _ (stack >>= _) _ _ _
  refine PySem.wpAt_bind (PySem.wpAt_stack fun p below => PySem.wpAt_of_wpAny ?_)
  wp_walk
  refine PySem.wpAt_of_wpAny ?_
  rw [F.owner]
  repeat (first | with_reducible refine wpAny_madeHere_exc F.canon hC ?_ | with_reducible refine wpAny_loadPart_at hC ?_ | (with_reducible refine wpAny_isSubtype_exc hC ?_; first | rw [c1] | rw [c2] | rw [c3]) | wp_step)
  show R _ _
  rw [Heap.size_push]
  exact hq
theorem class_call (T : TailF newId bm) {rest : List Value} {fI : Addr} {Q : Fin → Shared → Prop}
    (hC : h.get? C = some (excClassObj nm q C N bs bm hdct sn sub ab col dd k0 k1 k2 k3 k5 newId))
    (hi : W.Looks (model prog w) h (typeLookup (.ref C) "__init__") (some (.ref fI))) (hb : ∀ self, W.Looks (model prog w) h (bindSpecial (.ref fI) self) (.ref fI, [self])) (hrest : rest.length ≤ sizeLine)
    (hq : codeAny (model prog w) A (.call (.ref fI) ⟨.ref (h.objs.size + 1) :: rest, []⟩)
      (fun r s' => match r with | .ok (.ret v) => v = .none ∧ Q (.done (.ret (.ref (h.objs.size + 1)))) s' | .ok _ => False | .error e => E e s')
      ⟨(h.push (W.kdv_tup rest)).push (excO C h.objs.size), g, d, t, os⟩) :
    wpAny (model prog w) A (Builtin.«type.__call__» ⟨.ref C :: rest, []⟩) Q E ⟨h, g, d, t, os⟩ := by
  obtain ⟨⟨Bn, inN, bmN, F, hB⟩, hA, hN⟩ := T
  repeat (first | with_reducible refine wpAny_loadPart_at hC ?_ | with_reducible refine wpAny_madeBy_exc hC ?_ | wp_step)
  refine codeAny_call_builtin_code (Code.quiet_builtin _ F.quiet) (new_check F hB hC ?_)
  refine new_made F hB hA hN hC ?_ hrest
  show wpAny _ _ _ _ _ _
  have k : ∀ b o, h.get? b = some o → ((h.push (W.kdv_tup rest)).push (excO C h.objs.size)).get? b = some o := fun b o e => Heap.get?_push_of_some _ (Heap.get?_push_of_some _ e)
  have cls1 := k _ _ hC
  have obj1 : ((h.push (W.kdv_tup rest)).push (excO C h.objs.size)).get? (h.objs.size + 1) = some (excO C h.objs.size) := by heap_get
  have self1 : (Value.ref C :: bm).contains (.ref C) = true := by simp
  have i1 := hi.keeps k
  have b1 := (hb (.ref (h.objs.size + 1))).keeps k
  unfold isInstance
  repeat (first | with_reducible refine wpAny_loadPart_at obj1 ?_ | (with_reducible refine wpAny_isSubtype_exc cls1 ?_; rw [self1]) | wp_step)
  show wpAny _ _ (typeLookup (.ref C) _) _ _ _
  refine i1.at ?_
  refine wpAny_holding (wpAny_bind (b1.at ?_))
  refine wpAny_bind (wpAny_call (codeAny_mono hq fun r s' z => ?_))
  rcases r with e | (v | _ | _ | _) <;> first | exact z | exact z.elim | skip
  obtain ⟨rfl, z⟩ := z
  first
    | exact wpAny_pure (wpAny_pure z)
    | (wp_walk; exact z)
theorem call_class (T : TailF newId bm) {rest : List Value} {fI : Addr}
    (hC : h.get? C = some (excClassObj nm q C N bs bm hdct sn sub ab col dd k0 k1 k2 k3 k5 newId))
    (hi : W.Looks (model prog w) h (typeLookup (.ref C) "__init__") (some (.ref fI))) (hb : ∀ self, W.Looks (model prog w) h (bindSpecial (.ref fI) self) (.ref fI, [self])) (hrest : rest.length ≤ sizeLine)
    (hq : codeAny (model prog w) (A.under (.builtin "type.__call__" ⟨.ref C :: rest, []⟩)) (.call (.ref fI) ⟨.ref (h.objs.size + 1) :: rest, []⟩) (W.InitBack (h.objs.size + 1) R)
      ⟨(h.push (W.kdv_tup rest)).push (excO C h.objs.size), g, d, t, os⟩) :
    codeAny (model prog w) A (.call (.ref C) ⟨rest, []⟩) R ⟨h, g, d, t, os⟩ := by
  have f1 := tc_lookup
  have f2 := tc_bind (.ref C)
  have ty : (⟨h, g, d, t, os⟩ : Shared).TypeIs (.ref C) "type" := ⟨_, hC, rfl⟩
  refine codeAny_of_tree ?_
  show wpAny _ _ (callAny (.ref C) _) _ _ _
  repeat (any_goals (first | assumption | with_reducible refine wpAny_loadPart_at hC ?_ | wp_step))
  refine ⟨rfl, ?_⟩
  refine codeAny_call_builtin_at (Code.quiet_builtin _ (by decide +kernel)) entry_typeCall (wpAny_check_type_call_sub hC (class_call T hC hi hb hrest ?_))
  refine codeAny_mono hq fun r s' z => ?_
  rcases r with e | (v | _ | _ | _) <;> exact z
theorem bound_check (F : InitF B initId) {e : Addr} {oe : Obj} {rest : List Value} {Q : Unit → Shared → Prop}
    (hC : h.get? C = some (excClassObj nm q C N bs bm hdct sn sub ab col dd k0 k1 k2 k3 k5 newId)) (he : h.get? e = some oe) (hcls : oe.cls = .ref C) (hq : Q () ⟨h, g, d, t, os⟩) : wpAny M A (checkBoundCall initId ⟨.ref e :: rest, []⟩) Q E ⟨h, g, d, t, os⟩ := by
  have star := F.star
  simp only [checkBoundCall, F.kind, F.row]
  repeat (first | (with_reducible refine wpAny_loadPart_at he ?_; rw [hcls]) | with_reducible refine wpAny_loadPart_at hC ?_ | wp_step)
  refine wpAny_onRaise ?_
  rw [show ∀ (a b : String) (n : Nat), Bind.check ⟨.positional, "*", B, .self, [⟨"args", .varPos, false⟩]⟩ a b n (List.map (fun x => x.fst) ({ pos := Value.ref e :: rest } : Args).kw) = pure () from
    fun a b n => check_star_args _ _ _ _ _ _]
  exact wpAny_pure hq
end
/-! KeyError -/
theorem store_KE : StoreFacts "KeyError" [.type "KeyError", .type "LookupError", .type "Exception", .type "BaseException", .type "object"] "object.__setattr__" "object" where
  mro := by kernel_rfl
  slot := .of (owner := "object") (n := "__setattr__") (by rw [typeLookup_type, builtinLookup_eq_fast]; kernel_rfl) (by decide +kernel) (by decide +kernel) (by decide +kernel)
    (by first | exact .inl (by decide +kernel) | exact .inr (by decide +kernel)) (by rw [isSubtype_type]; kernel_rfl)
  entry := F.entry_object_sa
  kind := by decide +kernel
  split := by decide +kernel
  hasOwner := by decide +kernel
  args := fun a b c => by unfold argsOk; kernel_rfl
  passes := fun self => by kernel_rfl
theorem init_KE : InitF "KeyError" "KeyError.__init__" where
  init := .of (owner := "KeyError") (n := "__init__") (by rw [typeLookup_type, builtinLookup_eq_fast]; kernel_rfl) (by decide +kernel) (by decide +kernel) (by decide +kernel)
    (by first | exact .inl (by decide +kernel) | exact .inr (by decide +kernel)) (by rw [isSubtype_type]; kernel_rfl)
  entry := entryFor_alias (id' := "BaseException.__init__") (by rw [fastTable_eq_tree]; kernel_rfl) (by first | rfl | decide +kernel) (by decide +kernel) (by rw [fastTable_eq_tree]; kernel_rfl)
  kind := by kernel_rfl
  row := by kernel_rfl
  star := by decide +kernel
theorem tail_KE : TailF "LookupError.__new__" [.type "KeyError", .type "LookupError", .type "Exception", .type "BaseException", .type "object"] := ⟨⟨_, _, _, F.excBase_LookupError, by decide +kernel⟩, by decide +kernel, by decide +kernel⟩
theorem kxs_KE : KxsFacts "KeyError" "KeyError.__init__" := ⟨by show builtinType _ = _; rw [builtinType_eq_fast]; kernel_rfl, by first | kernel_rfl | rfl⟩
end Xe
set_option Elab.async false
set_option linter.all false
set_option maxRecDepth 100000
set_option maxHeartbeats 4000000
/-! An own exception C(v), over any built-in base, whose __init__ says super().__init__(p) and self.p = p. -/
namespace Xe
open PySem PySem.W PySem.Calls PyProof.Rows PySem.HandSPX
def eArgs (p : Str) (a1 a2 : Pos) : Arguments := { posonlyargs := [], args := [{ arg := "self", annotation := none, pos := a1 }, { arg := p, annotation := none, pos := a2 }], vararg := none, kwonlyargs := [], kw_defaults := [], kwarg := none, defaults := [] }
def eBody (p : Str) (p0 p1 p2 p3 p4 p5 q1 q2 q3 q4 : Pos) : List Stmt :=
  [.Expr (.Call (.Attribute (.Call (.Name "super" p0) [] [] p1) "__init__" p2) [.Name p p3] [] p4) p5, .Assign [.Attribute (.Name "self" q1) p q2] (.Name p q3) q4]
def eSc (p : Str) : Scope := { kind := .function, names := [("self", .local), (p, .local), ("__class__", .free), ("super", .globalImplicit)], isGenerator := false, isCoroutine := false, more := [] }
theorem eSc_cells {p : Str} : ∀ x ∈ (eSc p).names, x.2 ≠ .cell := fun x hx => by
  simp only [eSc, List.mem_cons, List.not_mem_nil, or_false] at hx
  rcases hx with rfl | rfl | rfl | rfl <;> simp
/-- the call's tree (it hangs on where it stands) -/
def EHe (p : Str) (p0 p1 p2 p3 p4 : Pos) : Prop := ∀ env : Env, ∃ pl : Sem Bool, eval (.Call (.Attribute (.Call (.Name "super" p0) [] [] p1) "__init__" p2) [.Name p p3] [] p4) env = (do
  let ov ← attributeBase (.Call (.Name "super" p0) [] [] p1) "__init__" env (eval (.Call (.Name "super" p0) [] [] p1) env)
  standAt p2.atName
  let (f, first) ← holding [ov] (getMethod ov "__init__" pl)
  callWith p4 f first (backTo p4 (starEach [.Name p p3] env)) [])
def ParN (p : Str) : Prop := p = "word" ∨ p = "at" ∨ p = "name"
/-- what the base is -/
structure EBase (B newId initId : String) (bmB : List Value) : Prop where
  T : TailF newId bmB
  I : InitF B initId
  K : KxsFacts B initId
  S : StoreFacts B bmB "object.__setattr__" "object"
theorem base_VE : EBase "ValueError" "ValueError.__new__" "ValueError.__init__" [.type "ValueError", .type "Exception", .type "BaseException", .type "object"] := ⟨.of F.excBase_ValueError, .of F.excBase_ValueError, kxs_ValueError, F.store_ValueError⟩
theorem base_IE : EBase "IndexError" "IndexError.__new__" "IndexError.__init__" [.type "IndexError", .type "LookupError", .type "Exception", .type "BaseException", .type "object"] := ⟨.of F.excBase_IndexError, .of F.excBase_IndexError, kxs_IndexError, F.store_IndexError⟩
theorem base_KE : EBase "KeyError" "LookupError.__new__" "KeyError.__init__" [.type "KeyError", .type "LookupError", .type "Exception", .type "BaseException", .type "object"] := ⟨tail_KE, init_KE, kxs_KE, store_KE⟩
/-- what the written part says of the class at C, of its __init__ at fI -/
structure ErrT (prog : Program) (K : Frag) (C fI : Addr) (p : Str) (B newId initId : String) (bmB : List Value) : Prop where
  ini : excInitIn K C bmB newId = true
  over : excOver K C bmB = true
  hdC : hasDictIn K C = true
  sa : findIn K (.ref C) "__setattr__" = some (some (.builtin "object.__setattr__"))
  noP : findIn K (.ref C) p = some none
  iC : findIn K (.ref C) "__init__" = some (some (.ref fI))
  tC : typeIn K (.ref fI) = some (.type "function")
  kC : keepIn K (.ref C) = true
  exC : subIn K (.ref C) (.type "BaseException") = some true
  exB : subIn K (.ref C) (.type B) = some true
  tyC : typeIn K (.ref C) = some (.type "type")
  opq : nsIn K cStatics "thirdparty.any" = some none
  sup : ks_superIn K C C "__init__" = some (some (.builtin initId))
  mro : mroIn K C (.ref C) = some true
  sg : nsIn K mainGlobals "super" = some none
  fn : ∃ (oc : Value) (od : Option Addr) (doc pm : Value) (an : Option Addr) (cda cc : Addr) (ct : Value) (osl : Array (Option Value)) (qual : Str) (a1 a2 p0 p1 p2 p3 p4 p5 q1 q2 q3 q4 : Pos),
    K.lookup fI = some ⟨oc, od, .func (ksFn "__init__" qual (eArgs p a1 a2) (eBody p p0 p1 p2 p3 p4 p5 q1 q2 q3 q4) (eSc p) .none .none doc pm an (.ref cda) ct cc), osl⟩ ∧ codeIn K (.ref cda) qual = true ∧ EHe p p0 p1 p2 p3 p4 ∧
    (∃ ccl cdd vs ccs file tf, K.lookup cda = some ⟨ccl, cdd, .fields vs, ccs⟩ ∧ vs[2]? = some (.str file tf) ∧ ((prog.main.file : Str) == file) = true) ∧
    (∃ cl cld csl, K.lookup cc = some ⟨cl, cld, .cell (some (.ref C)), csl⟩)
/-- names of the caller's module -/
structure EMod (K : Frag) (base : Heap) (prog : Program) : Prop where
  kin : K.In base
  ns : ∃ mg, base.Ns mainGlobals mg
  blt : ∃ mb, base.Ns builtinsNs mb ∧ ∀ x : Str, x ≠ "__name__" → mb x = bootBuiltins x
  top : (prog.main.scope.names.lookup ("super" : Str)).isSome = false
theorem one_size' (v : Value) : [v].length ≤ sizeLine := by
  rw [sizeLine_eq]
  exact (by decide : 1 ≤ 16777216)
/-- what __init__ leaves of a fresh exception at x -/
structure EEnd (h h' : Heap) (x C dx t1 : Addr) (p : Str) (v : Value) : Prop where
  keep : ∀ b o, b ≠ x → h.get? b = some o → h'.get? b = some o
  obj : h'.get? x = some { cls := .ref C, dict := some dx, data := .fields #[.ref t1, .none, .none, .none, .bool false, .none] }
  dbig : h.objs.size ≤ dx
  dne : dx ≠ x
  ns : h'.Ns1 dx (fun y => if y = p then some v else none)
/-- C(v) made -/
structure EMade (h h' : Heap) (e C d : Addr) (p : Str) (v : Value) : Prop where
  keep : ∀ b o, h.get? b = some o → h'.get? b = some o
  new : h.objs.size ≤ e
  obj : ∃ t1 : Addr, h'.get? e = some ({ cls := .ref C, dict := some d, data := .fields #[.ref t1, .none, .none, .none, .bool false, .none] } : Obj)
  dbig : h.objs.size ≤ d
  dne : d ≠ e
  ns : h'.Ns1 d (fun y => if y = p then some v else none)
section
variable {prog : Program} {w : World} {A : Around} {E : Value → Shared → Prop} {R : Result → Shared → Prop} {K : Frag} {C fI : Addr} {p : Str} {B newId initId : String} {bmB : List Value} {base : Heap}
/-- the walk of a store at a fresh exception's own dict -/
theorem store_new {x : Addr} {fv : Array Value} {v : Value} {tk : Tok} {h : Heap} {g : Array GenState} {d : Drawn} {t : Nat} {os : OsState} (SF : StoreFacts B bmB "object.__setattr__" "object") (X : K.In h) (hx : h.get? x = some { cls := .ref C, data := .fields fv }) (ov : excOver K C bmB = true) (hdc : hasDictIn K C = true) (np : findIn K (.ref C) p = some none)
    (hq : ∀ h' tk' dx, (∀ b o, b ≠ x → h.get? b = some o → h'.get? b = some o) → h.objs.size ≤ dx → dx ≠ x → h'.get? x = some { cls := .ref C, dict := some dx, data := .fields fv } → h'.Ns1 dx (fun y => if y = p then some v else none) → R (.ok (.ret .none)) ⟨h', g, d, tk', os⟩) :
    codeAny (model prog w) A (.call (.builtin "object.__setattr__") ⟨[.ref x, .str p tk, v], []⟩) R ⟨h, g, d, t, os⟩ := by
  have I : InstAt h x { cls := .ref C, data := .fields fv } C none := ⟨hx, rfl, rfl, trivial⟩
  have nx : x ≠ h.objs.size := Nat.ne_of_lt (Heap.lt_size hx)
  obtain ⟨cd, hcd, hdt⟩ : ∃ cd, clsIn K C = some cd ∧ cd.hasDict = true := by
    unfold hasDictIn at hdc
    cases z : clsIn K C with
    | none => rw [z] at hdc; cases hdc
    | some cd => rw [z] at hdc; exact ⟨cd, rfl, hdc⟩
  have LC : Looks (model prog w) h (classData C) cd := looks_clsIn X hcd
  refine osa_openX SF (s := ⟨h, g, d, t, os⟩) X I ov (show takerIn K C p = some none by unfold takerIn; rw [np]; rfl) fun bb => ?_
  show wpAny _ _ (Builtin.ObjectAttr.storeInOwnDict (.ref x) (.ref C) (.str p tk) p v bb) _ _ _
  obtain ⟨c1, c2, c3, c4, c5, c6, c7, c8, c9, c10, c11⟩ := cd
  dsimp only at hdt
  subst hdt
  unfold Builtin.ObjectAttr.storeInOwnDict Builtin.ObjectAttr.ownDictForStores
  repeat (first
    | with_reducible refine HandSPX.store_in_new ?_ ?_
    | with_reducible refine wpAny_loadPart_at hx ?_
    | with_reducible refine LC.at ?_
    | wp_step)
  · have at_ := (Heap.get?_update_ne (h.push { cls := .type "dict", data := .dict #[] }) h.objs.size x (fun o => { o with dict := some h.objs.size }) nx.symm).trans (Heap.get?_push_at rfl rfl)
    exact ⟨_, #[], _, at_, rfl, fun e he => absurd he (by simp), fun _ => rfl⟩
  · intro h1 tk1 N1 S1
    have hx1 := Heap.get?_push_of_some { cls := Value.type "dict", data := Data.dict #[] } hx
    refine hq h1 tk1 h.objs.size (fun b o hb ho => ?_) (Nat.le_refl _) nx.symm ?_ N1
    · have up := (Heap.get?_update_ne _ _ _ (fun o : Obj => { o with dict := some h.objs.size }) hb).trans (Heap.get?_push_of_some { cls := Value.type "dict", data := Data.dict #[] } ho)
      exact (S1.2 b (Nat.ne_of_lt (Heap.lt_size ho))).trans up
    · exact (S1.2 x nx).trans (Heap.get?_update_self _ hx1 rfl)
theorem ne_key {K : Frag} {h : Heap} (X : K.In h) {a : Addr} (ha : h.objs.size ≤ a) : K.lookup a = none := by
  cases e : K.lookup a with
  | none => rfl
  | some o => exact absurd (Heap.lt_size (X _ _ e)) (Nat.not_lt.mpr ha)
theorem callWith_one {M : Model} {pos : Pos} {i : String} {x u : Addr} {env : Env} {e : PySem.Expr} {s : Shared} {Q : Value → Shared → Prop} (h : wpAny M A (eval e env) (fun v s1 => KxsAt i u x s1.heap ∧ wpAny M A (call (.ref u) [v]) Q E s1) E s)
    (he : starEach [e] env = [(false, eval e env)]) : wpAny M A (callWith pos (.ref u) [] (backTo pos (starEach [e] env)) []) Q E s := by
  have key : wpAny M A (spliced (backTo pos (starEach [e] env))) (fun vs s1 => KxsAt i u x s1.heap ∧ wpAny M A (call (.ref u) vs) Q E s1) E s :=
    PyProof.Rows.spliced_more (wpAny_mono h (fun v s1 h1 => PyProof.Rows.spliced_none h1) fun _ _ z => z) he
  rw [he] at key ⊢
  exact kxs_callWith (i := i) (x := x) rfl (evalArgs_plain key)
/-- the bound __init__ of the base, called -/
theorem call_mw (Bs : EBase B newId initId bmB) {nm qn : Str} {N : Addr} {bs bm : List Value} {hdct : Bool} {sn : List Str} {sub : List Value} {ab : Bool} {col : Option Bool} {dd : Option Addr} {j0 j1 j2 j3 j5 : Option Value} {h : Heap} {g : Array GenState} {d : Drawn} {t : Nat} {os : OsState} {u x t0 : Addr} {v : Value} {Q : Value → Shared → Prop}
    (hC : h.get? C = some (excClassObj nm qn C N bs bm hdct sn sub ab col dd j0 j1 j2 j3 j5 newId)) (hx : h.get? x = some (excO C t0)) (hu : h.get? u = some (kxs_mw initId x))
    (hq : ∀ h', (∀ b o, b ≠ x → h.get? b = some o → h'.get? b = some o) → h'.get? x = some (excO C h.objs.size) → Q .none ⟨h', g, d, t, os⟩) : wpAny (model prog w) A (call (.ref u) [v]) Q E ⟨h, g, d, t, os⟩ := by
  refine wpAny_call (codeAny_of_tree ?_)
  show wpAny _ A.in1 (callAny (.ref u) ⟨[v], []⟩) _ _ _
  simp only [callAny]
  refine wpAny_bind (wpAny_load hu ?_)
  have mw : (Value.type "method-wrapper" == Value.type "method" || Value.type "method-wrapper" == Value.type "builtin_function_or_method" || Value.type "method-wrapper" == Value.type "method-wrapper") = true := by decide
  simp only [kxs_mw, mw, if_true]
  refine KFB.if_so (by decide) (wpAny_bind (bound_check Bs.I hC hx rfl (wpAny_bind (wpAny_pure (wpAny_pure ?_)))))
  refine ⟨plainId_quiet Bs.I.init.plain _, codeAny_builtin Bs.I.entry ?_⟩
  rw [Around.under_plainId Bs.I.init.plain _]
  exact exc_init_tree (cls := .ref C) (t0 := t0) (dv := none) (c2 := .none) (c3 := .none) (b4 := .bool false) hx (one_size' v) fun h' k e _ => hq h' k e
/-- super().__init__(p); self.p = p -/
theorem sup_init (hp : ParN p) (T : ErrT prog K C fI p B newId initId bmB) (Bs : EBase B newId initId bmB) (G : EMod K base prog) {s : Shared} (kb : ∀ b o, base.get? b = some o → s.heap.get? b = some o) {x t0 : Addr} {v : Value} (lim : s.heap.NoLimit) (hx : s.heap.get? x = some (excO C t0)) (hnx : K.lookup x = none) (room : A.depth < recursionLimit)
    (hq : ∀ h' tk dx t1, EEnd s.heap h' x C dx t1 p v → R (.ok (.ret .none)) { s with heap := h', toks := tk }) : codeAny (model prog w) A (.call (.ref fI) ⟨[.ref x, v], []⟩) R s := by
  obtain ⟨oc, od, doc, pm, an, cda, cc, ct, osl, qual, a1, a2, p0, p1, p2, p3, p4, p5, q1, q2, q3, q4, ho, hcode, hHe, ⟨ccl, cdd, vs, ccs, file, tf, hcda, hv2, hfile⟩, ⟨cl, cld, csl, hcc⟩⟩ := T.fn
  have X : K.In s.heap := G.kin.keeps kb
  rcases hp with e | e | e <;> subst e
  all_goals
    refine ks_codeAny_call_defAt (fd := ksFn "__init__" qual (eArgs _ a1 a2) (eBody _ p0 p1 p2 p3 p4 p5 q1 q2 q3 q4) (eSc _) .none .none doc pm an (.ref cda) ct cc) (body := eBody _ p0 p1 p2 p3 p4 p5 q1 q2 q3 q4) (binds := [("self", .ref x), (_, v)])
      room (X _ _ ho) rfl lim (codeRec_of X hcode) rfl (BindsTo.of_eq (by first | rfl | with_unfolding_all rfl)) eSc_cells (by simp only [List.mem_cons, List.not_mem_nil, or_false, forall_eq_or_imp, forall_eq]; exact ⟨by decide +kernel, by decide +kernel⟩) (fun h1 ns1 k1 => ?_) rfl rfl rfl
    have X1 : K.In h1 := X.keeps k1
    have hx1 := k1 _ _ hx
    have kb1 : ∀ b o, base.get? b = some o → h1.get? b = some o := fun b o e => k1 b o (kb b o e)
    obtain ⟨mg, hmg⟩ := G.ns
    have mgs : mg "super" = none := mg_none_of G.kin hmg T.sg
    obtain ⟨mb, hmb, hbb⟩ := G.blt
    obtain ⟨nm, N, qn, bs, bm, hdct, sn, sub, ab, col, dd, j0, j1, j2, j3, j5, hC, hT⟩ := excInit_of X1 T.ini
    have nxC : x ≠ C := fun z => by
      have : K.lookup C = none := z ▸ hnx
      have c := T.ini
      unfold excInitIn at c
      rw [this] at c
      cases c
    obtain ⟨pl, he⟩ := hHe (callEnv (ksFn "__init__" qual (eArgs _ a1 a2) (eBody _ p0 p1 p2 p3 p4 p5 q1 q2 q3 q4) (eSc _) .none .none doc pm an (.ref cda) ct cc) s.heap.objs.size fI)
    refine ks_wpAt_execs_cons (ks_wpAt_Expr_any (ks_wpAt_MethodCall (pl := pl) (he := he) (ks_wpAt_super_base (ar := { arg := "self", annotation := none, pos := a1 }) rfl rfl (by decide +kernel) rfl (X1 _ _ ho) rfl rfl rfl (X1 _ _ hcda) rfl hv2 hfile G.top ?_)))
    refine ks_loadName_global rfl rfl (loadGlobal_builtin (hmg.keeps kb1) mgs (hmb.keeps kb1) ((hbb "super" (by decide)).trans (by decide +kernel)) ⟨rfl, ?_⟩)
    refine wpAny_loadName_free rfl rfl rfl ⟨_, X1 _ _ hcc, rfl⟩ ?_
    refine wpAny_loadName_local (v := .ref x) rfl rfl ns1 (by first | rfl | with_unfolding_all rfl | kernel_rfl) ?_
    refine ks_wpAny_isType_cls hC rfl ⟨rfl, ?_⟩
    refine ks_wpAny_call_super hC rfl hx1 rfl (fun c e => by cases e) (looks_mroIn X1 T.mro) (fun h2 e2 k2 => ?_)
    have X2 : K.In h2 := X1.keeps k2
    have hx2 := k2 _ _ hx1
    have hC2 := k2 _ _ hC
    have I2 : InstAt h2 x (excO C t0) C none := ⟨hx2, rfl, rfl, trivial⟩
    have hI : Looks (model prog w) h2 (isInstance (.ref x) (.type B)) true := I2.type.andThen (looks_subIn X2 T.exB)
    obtain ⟨cd, hcd⟩ : ∃ cd, clsIn K C = some cd := by
      have c := T.sup
      unfold ks_superIn at c
      cases z : clsIn K C with
      | none => rw [z] at c; cases c
      | some cd => exact ⟨cd, rfl⟩
    have hm : alongIn K "__init__" ((cd.mro.dropWhile (· != .ref C)).drop 1) = some (some (.builtin initId)) := by
      have c := T.sup
      unfold ks_superIn at c
      rw [hcd] at c
      exact c
    refine kxs_getMethod Bs.K e2 (looks_opaque X2 T.opq) (l₀ := cd.mro) (fun A Q E s k q => wpAny_bind ((looks_clsIn X2 hcd) A _ E s k (wpAny_pure q))) rfl X2 hm hI nxC (by decide +kernel) ?_
    refine callWith_one (i := initId) (x := x) (wpAny_Name (wpAny_loadName_local (v := v) rfl rfl (ns1.at fun o e => Heap.get?_push_of_some _ (k2 _ _ e)) (by first | rfl | with_unfolding_all rfl | kernel_rfl) ?_)) (by rfl)
    have hu : (h2.push (kxs_mw initId x)).get? h2.objs.size = some (kxs_mw initId x) := Heap.get?_push_at rfl rfl
    refine ⟨hu, call_mw Bs (Heap.get?_push_of_some _ hC2) (Heap.get?_push_of_some _ hx2) hu fun h3 k3 hx3 => ?_⟩
    have nL : s.heap.objs.size ≠ x := Nat.ne_of_gt (Heap.lt_size hx)
    have k23 : ∀ b o, b ≠ x → h1.get? b = some o → h3.get? b = some o := fun b o hb e => k3 b o hb (Heap.get?_push_of_some _ (k2 _ _ e))
    have ns3 : h3.Ns s.heap.objs.size _ := ns1.at fun o e => k23 _ o nL e
    have X3 : K.In h3 := fun a o e => k23 a o (fun z => by rw [z, hnx] at e; cases e) (X1 a o e)
    refine wpAt_of_wpAny (wpAny_execs_cons (plainObj_wpAny_Assign_Attribute ?_))
    refine wpAny_Name (wpAny_loadName_local (v := v) rfl rfl ns3 (by first | rfl | with_unfolding_all rfl | kernel_rfl) ?_)
    refine wpAny_Name (wpAny_loadName_local (v := .ref x) rfl rfl ns3 (by first | rfl | with_unfolding_all rfl | kernel_rfl) ?_)
    refine set_plain X3 (ox := excO C _) (od := none) ⟨hx3, rfl, rfl, trivial⟩ T.sa ?_
    refine store_new Bs.S X3 hx3 T.over T.hdC T.noP fun h4 tk4 dx k4 dn dne hx4 hn4 => ?_
    have bg : s.heap.objs.size < h3.objs.size := ns3.lt
    exact wpAny_execs_nil (hq h4 _ dx _ ⟨fun b o hb e => k4 b o hb (k23 b o hb (k1 b o e)), hx4, Nat.le_trans (Nat.le_of_lt bg) dn, dne, hn4⟩)
/-- C(v) -/
theorem made_ok (hp : ParN p) (T : ErrT prog K C fI p B newId initId bmB) (Bs : EBase B newId initId bmB) (G : EMod K base prog) {h : Heap} {g : Array GenState} {d : Drawn} {t : Nat} {os : OsState} (kb : ∀ b o, base.get? b = some o → h.get? b = some o) {v : Value} (lim : h.NoLimit) (room : A.depth + 1 < recursionLimit)
    (hq : ∀ h' tk e d', EMade h h' e C d' p v → R (.ok (.ret (.ref e))) ⟨h', g, d, tk, os⟩) : codeAny (model prog w) A (.call (.ref C) ⟨[v], []⟩) R ⟨h, g, d, t, os⟩ := by
  have X : K.In h := G.kin.keeps kb
  obtain ⟨nm, N, qn, bs, bm, hdct, sn, sub, ab, col, dd, j0, j1, j2, j3, j5, hC, hT⟩ := excInit_of X T.ini
  have k : ∀ b o, h.get? b = some o → ((h.push (kdv_tup [v])).push (excO C h.objs.size)).get? b = some o := fun b o e => Heap.get?_push_of_some _ (Heap.get?_push_of_some _ e)
  have at_ : ((h.push (kdv_tup [v])).push (excO C h.objs.size)).get? (h.objs.size + 1) = some (excO C h.objs.size) := by heap_get
  refine call_class (Bs.T.same hT) hC (looks_findIn X T.iC) (fun self => bind_fn X self T.tC) (one_size' v) ?_
  refine sup_init (s := ⟨(h.push (kdv_tup [v])).push (excO C h.objs.size), g, d, t, os⟩) hp T Bs G (fun b o e => k b o (kb b o e)) (lim.keeps k) at_ (ne_key X (Nat.le_succ _)) room fun h' tk' dx t1 ⟨k', hx, dn, dne, hns⟩ => ?_
  have old : ∀ b o, h.get? b = some o → h'.get? b = some o := fun b o e => k' b o (Nat.ne_of_lt (Nat.lt_succ_of_lt (Heap.lt_size e))) (k b o e)
  have z : h.objs.size ≤ dx := by
    have q : ((h.push (kdv_tup [v])).push (excO C h.objs.size)).objs.size ≤ dx := dn
    rw [Heap.size_push, Heap.size_push] at q
    omega
  exact ⟨rfl, hq h' tk' (h.objs.size + 1) dx ⟨old, Nat.le_succ _, ⟨_, hx⟩, z, dne, hns⟩⟩
end
end Xe
set_option Elab.async false
set_option linter.all false
set_option maxRecDepth 100000
set_option maxHeartbeats 4000000
/-! .. as an expression that makes an exception. -/
namespace Xe
open PySem PySem.Spec PyProof.Rows L2
/-- what is asked of the program and of the written part, for C(v) -/
structure ErrOk (P : Program) (K : PySem.W.Frag) (C fI : Addr) (p : Str) : Prop where
  ex : ∃ B newId initId bmB, ErrT P K C fI p B newId initId bmB ∧ EBase B newId initId bmB
  par : ParN p
  top : (P.main.scope.names.lookup ("super" : Str)).isSome = false
def tMkS (C : Addr) (p : Str) (ta : TA) : L2.St → Hp → XK → Prop := fun σ H Q => ta σ H fun vs H1 => ∃ v, vs = [v] ∧ ∀ d, H1 d = none → Q (.ref C) (some d) (upd H1 d (.xd [(p, v)]))
section
variable {X : Cx} {C fI : Addr} {p : Str}
/-- C(e): an exception, its record all told -/
theorem pmk_sup {x : Str} {a : Expr} {ta : TA} {np pos : Pos} (T : ErrOk X.prog X.K C fI p) (gC : X.mg x = some (.ref C)) (hr : X.A.depth + 1 < recursionLimit) (ha : PA X [a] ta) (hg : Gl X x) (hdb : (x == ("__debug__" : Str)) = false := by decide)
    (he : starEach (a :: []) X.env = (false, eval a X.env) :: starEach [] X.env := by rfl) (hpl : (backTo pos (starEach [] X.env)).any (·.1) = false := by rfl) :
    L2H.PMk5 X (.Call (.Name x np) [a] [] pos) (tMkS C p ta) := by
  intro pins s σ H Q I h
  obtain ⟨⟨B, newId, initId, bmB, T0, Bs⟩, par, top⟩ := T
  refine wpAny_Call_Name_kw (ld_glob I hg gC ?_ hdb)
  refine PySem.W.callWith_K (h₀ := X.base) I.ok.mod.kin T0.kC (thn (ha.run pos pins s σ H _ I h) fun us s1 ⟨vs, H1, I1, r1, v, ev, q1⟩ => ⟨I1.kIn, ?_⟩) he hpl
  subst ev
  cases r1 with
  | @cons _ v' _ us' rv rn =>
    cases rn
    show wpAny _ _ (call (.ref C) [v']) _ _ _
    have lim := I1.nolimit
    have bk := I1.bk
    have md := I1.ok.mod
    obtain ⟨hp, g, dr, tk, os⟩ := s1
    refine wpAny_call (made_ok par T0 Bs ⟨md.kin, ⟨_, md.glob⟩, md.blt, top⟩ bk lim (hr) fun h' tk' e d M => ?_)
    obtain ⟨t1, hoe⟩ := M.obj
    have hns := M.ns
    obtain ⟨G, g1, g2⟩ := restrict h' fun b => decide (b ≠ e)
    have gk : ∀ b, b ≠ e → G.get? b = h'.get? b := fun b hb => g1 b (decide_eq_true hb)
    have ge : G.get? e = none := g2 e (by simp)
    have old : ∀ b o, hp.get? b = some o → G.get? b = some o := fun b o q => (gk b (Nat.ne_of_lt (Nat.lt_of_lt_of_le (Heap.lt_size q) M.new))).trans (M.keep b o q)
    have rel : ∀ f, RelO (List.lookup f [(p, v)]) (if f = p then some v' else none) := relO_put (fs := []) rv fun _ => True.intro
    have ob : ObjOk X.prog X.w (upd H1 d (.xd [(p, v)])) G d (.xd [(p, v)]) := ⟨_, hns.at (fun o q => (gk d M.dne).trans q), rel⟩
    have J : Inv X pins σ (upd H1 d (.xd [(p, v)])) ⟨G, g, dr, tk', os⟩ := I1.laid (t' := tk') old M.dbig ob
    have ctx : L2N.Zn (.ref C) (some d) ({ cls := .ref C, dict := some d, data := .fields #[.ref t1, .none, .none, .none, .bool false, .none] } : Obj) := ⟨rfl, rfl, fun vs e => by cases e; rfl⟩
    refine ⟨⟨e, _, _, ⟨G, g, dr, tk', os⟩, _, .ref C, some d, rfl, J, fun b o q => ?_, ge, hoe, ctx, rfl, rfl, ?_, rfl, I1.bare, raises_own T0.exC T0.tyC, q1 d (I1.hok.fresh M.dbig)⟩, fun a oe ws ea hg hd => ?_⟩
    · by_cases hb : b = e
      · have q' : G.get? b = some o := q
        rw [hb, ge] at q'; cases q'
      · exact (gk b hb).symm.trans q
    · rw [upd_ne (Ne.symm M.dne)]
      exact I1.hok.fresh M.new
    · cases ea
      have hg' : h'.get? e = some oe := hg
      rw [hoe] at hg'
      cases hg'
      cases hd
      simp
/-- forgetting that its context is None -/
theorem pmk_zc {e : Expr} {t : L2.St → Hp → XK → Prop} (h : L2H.PMk5 X e t) : L2.PMk X e t := fun pins s σ H Q I q => thn (h pins s σ H Q I q) fun u s' ⟨⟨a, oe, vs, sI, H', cls, d, e1, J, k, hne, ha, hz, hd, h1, na, os, ag, r, w⟩, _⟩ =>
  ⟨a, oe, vs, sI, H', cls, d, e1, J, k, hne, ha, hz.zc, hd, h1, na, os, ag, r, w⟩
end
end Xe
set_option Elab.async false
set_option linter.all false
set_option maxRecDepth 100000
set_option maxHeartbeats 4000000
/-! isinstance of a caught exception of an own class, with a dict of its own or none. -/
namespace Xe
open PySem PySem.Spec PyProof.Rows L2
/-- the own dict of the exception that the suite holds -/
def DictAt (H : Hp) (d : Option Addr) : Prop := d = none ∨ ∃ (dd : Addr) (vs : List (Str × V)), d = some dd ∧ H dd = some (.xd vs)
/-- isinstance(e, c) -/
def rIsX (K : PySem.W.Frag) (D a : Addr) (d : Option Addr) : List V → Hp → VK → Prop := fun xs H Q => ∃ (c : V) (cv : Value) (b : Bool), xs = [.ref a, c] ∧ (∀ u, RelV c u → u = cv) ∧ DictAt H d ∧ PySem.W.kitOne K (.ref D) cv = some b ∧ Q (.bl b) H
theorem inst_of {P : Program} {w : World} {H : Hp} {h : Heap} {a D : Addr} {oe : Obj} {d : Option Addr} (at_ : h.get? a = some oe) (hz : Zc (.ref D) d oe) (hf : ∃ vs, oe.data = .fields vs) (ok : HOk P w H h) (hd : DictAt H d) : ∃ od, PySem.W.InstAt h a oe D od := by
  obtain ⟨vs, hv⟩ := hf
  have nc : PySem.W.notCls oe = true := by unfold PySem.W.notCls; rw [hv]
  rcases hd with rfl | ⟨dd, ws, rfl, e⟩
  · exact ⟨none, at_, hz.1, nc, by rw [hz.2]; trivial⟩
  · have ob : ObjOk P w H h dd (.xd ws) := ok dd _ e
    obtain ⟨mA, hns, hr⟩ := ob
    obtain ⟨od, ho, hl⟩ := lookIn_ns hns
    exact ⟨some od, at_, hz.1, nc, by rw [hz.2]; exact ho⟩
theorem call_isX {X : Cx} {a D : Addr} {oe : Obj} {d : Option Addr} {pn : List (Addr × Obj)} (C : ExcC X.K D) (hz : Zc (.ref D) d oe) (hf : ∃ vs, oe.data = .fields vs) : CallR (X.suite a ((a, oe) :: pn)) (.builtin "isinstance") (rIsX X.K D a d) := by
  intro pins s σ H xs us Q I r ⟨c, cv, b, ex, hcv, hd, e, q⟩
  subst ex
  cases r with
  | cons rx rr =>
    cases rr with
    | cons rt rr =>
      cases rr
      cases rx
      have ec := hcv _ rt
      subst ec
      obtain ⟨at_, _⟩ := I.pin (a, oe) (List.mem_append.mpr (.inl List.mem_cons_self))
      obtain ⟨od, J⟩ := inst_of at_ hz hf I.hok hd
      have hcl : (PySem.W.clsIn X.K D).isSome = true := by
        have c := C.hd
        unfold PySem.W.hasDictIn at c
        cases z : PySem.W.clsIn X.K D with
        | none => rw [z] at c; cases c
        | some _ => rfl
      have kx := PySem.W.kitx_exc (x := a) (ox := oe) (od := od) hcl C.hg C.hk C.hs C.ha C.hn C.ht C.hm
      exact PySem.W.kia_one kx I.kIn J e (fun z => nomatch z) fun tk => ⟨.bl b, H, I.kept (t' := tk) fun _ _ z => z, rfl, q⟩
end Xe
set_option Elab.async false
set_option linter.all false
set_option maxRecDepth 100000
set_option maxHeartbeats 4000000
/-! By value: raise C(e), raise C(). -/
namespace Bv
open PySem PySem.Spec L2
open PyProof.Rows hiding St
variable [HasW]
/-- raise C(e), which keeps it as its field p -/
def s_raise (C p : Str) (ms : MG (List Bv.X)) : MS := fun e S => (ms e S).so e fun xs S1 => match xs with
  | [.d v] => .err C [(p, v)] e S1
  | _ => .bad
def s_raise0 (C : Str) : MS := fun e S => .err C [] e S
section
variable {X : Cx} {Wx : WX} {k : Nat} {pos pos2 np : Pos} {a : Expr} {ms : MG (List Bv.X)} {C p x : Str} {fI : Addr}
theorem mp_raise (hc : X.calm = true) (h : Here X Wx k) (T : Xe.ErrOk X.prog X.K (He.ga X.K C) fI p) (gC : X.mg x = some (.ref (He.ga X.K C))) (hg : Gl X x) (ha : MA X Wx [a] ms) (hk : 1 ≤ k := by decide) (hdb : (x == ("__debug__" : Str)) = false := by decide)
    (he : starEach (a :: []) X.env = (false, eval a X.env) :: starEach [] X.env := by rfl) (hpl : (backTo pos (starEach [] X.env)).any (·.1) = false := by rfl) : MP X Wx (.Raise (some (.Call (.Name x np) [a] [] pos)) none pos2) (s_raise C p ms) :=
  PS.of (Xq.ps_raiseQ hc h.tk (Xe.pmk_sup T gC (by have := h.room.dp; omega) ha hg hdb he hpl).pmk) fun D σ H ⟨Z, ρ, e, S, st, ev, q⟩ =>
    so_bind (rel := AXs X.K) st ev q fun ρ1 H1 vs xs S1 s1 g1 ev1 a1 p1 => by
      match xs, vs, a1, p1 with
      | [.d v], [u], .cons (.d a) .nil, p1 =>
        refine ⟨u, rfl, fun d hd => ?_⟩
        have kp := upd_keep (o := .xd [(p, u)]) hd
        have mv := (Go.grow (ρ := ρ1) kp).mv s1
        exact p1 ρ1 _ σ (some d) (s1.grow kp) (Go.grow kp) (ev1.mv mv (List.prefix_refl _)) (.inr ⟨d, _, rfl, hd, s1.fresh hd, upd_same, .cons (a.mv mv) .nil⟩)
      | [], _, _, p1 => exact p1.elim
      | [.r _], _, _, p1 => exact p1.elim
      | .d _ :: _ :: _, _, _, p1 => exact p1.elim
      | .r _ :: _ :: _, _, _, p1 => exact p1.elim
/-- C(), an own class without an __init__ of its own -/
theorem pmk_own0 {C : Addr} {bmB : List Value} {B newId initId : String} (F : ExcBaseFacts B newId initId bmB) (q : PySem.W.excIn X.K C bmB newId = true) (gC : X.mg x = some (.ref C)) (kC : PySem.W.keepIn X.K (.ref C) = true) (r : Raises X (.ref C)) (hg : Gl X x)
    (hdb : (x == ("__debug__" : Str)) = false := by decide) : L2H.PMk5 X (.Call (.Name x np) [] [] pos) (fun _ H Q => Q (.ref C) none H) := by
  intro pins s σ H Q I h
  refine wpAny_Call_Name_kw (ld_glob I hg gC ?_ hdb)
  refine PySem.W.callWith_K0 I.kIn kC ?_
  obtain ⟨bm, N, nm, qn, bs, hdct, sn, sub, ab, col, dd, k0, k1, k2, k3, k5, mN, hC, hN, hni, T⟩ := exc_obj I.kIn q
  exact wpAny_call_exc_subT F T hC hN hni (fun h' e hm => L2H.mk_of5 I hm r h (I.hok.gone hm.new)) (Nat.zero_le _)
end
/-- an own class without an __init__ of its own: what is asked of the written part -/
structure Err0 (K : PySem.W.Frag) (C : Addr) : Prop where
  ini : PySem.W.excIn K C [.type "ValueError", .type "Exception", .type "BaseException", .type "object"] "ValueError.__new__" = true
  kC : PySem.W.keepIn K (.ref C) = true
  exC : PySem.W.subIn K (.ref C) (.type "BaseException") = some true
  tyC : PySem.W.typeIn K (.ref C) = some (.type "type")
section
variable {X : Cx} {Wx : WX} {k : Nat} {pos pos2 np : Pos} {C x : Str}
theorem mp_raise0 (hc : X.calm = true) (h : Here X Wx k) (T : Err0 X.K (He.ga X.K C)) (gC : X.mg x = some (.ref (He.ga X.K C))) (hg : Gl X x) (hdb : (x == ("__debug__" : Str)) = false := by decide) : MP X Wx (.Raise (some (.Call (.Name x np) [] [] pos)) none pos2) (s_raise0 C) :=
  PS.of (Xq.ps_raiseQ hc h.tk (L2H.PMk5.pmk <| pmk_own0 F.excBase_ValueError T.ini gC T.kC (raises_own T.exC T.tyC) hg hdb)) fun D σ H ⟨Z, ρ, e, S, st, ev, q⟩ => q ρ H σ none st (Go.refl _ _) ev (.inl ⟨rfl, rfl⟩)
end
end Bv
set_option Elab.async false
set_option linter.all false
set_option maxRecDepth 100000
set_option maxHeartbeats 4000000
/-! By value: what is told of a caught exception. -/
namespace Bv
open PySem PySem.Spec L2
open PyProof.Rows hiding St
variable [HasW]
theorem sm_tr {H H1 H2 : Hp} (a : Same H H1) (b : Same H1 H2) : Same H H2 := fun c o q => b c o (a c o q)
/-- what is told of an exception of the class C with the fields fs -/
abbrev SX := Str → List (Str × D) → Option D
abbrev SXs := Str → List (Str × D) → Option (List D)
abbrev SXb := Str → List (Str × D) → Option Bool
def ErrAt (K : PySem.W.Frag) (W : Wd) (H : Hp) (fs : List (Str × D)) (d : Option Addr) : Prop := (d = none ∧ fs = []) ∨ ∃ (dd : Addr) (vs : List (Str × V)), d = some dd ∧ H dd = some (.xd vs) ∧ AVf K W H fs vs
theorem ErrAt.same {K : PySem.W.Frag} {W : Wd} {H H' : Hp} {fs : List (Str × D)} {d : Option Addr} (h : ErrAt K W H fs d) (k : Same H H') : ErrAt K W H' fs d := by
  rcases h with h | ⟨dd, vs, h1, h2, h3⟩
  · exact .inl h
  · exact .inr ⟨dd, vs, h1, k _ _ h2, h3.mv (same_mv k)⟩
theorem ErrAt.dict {K : PySem.W.Frag} {W : Wd} {H : Hp} {fs : List (Str × D)} {d : Option Addr} (h : ErrAt K W H fs d) : Xe.DictAt H d := by
  rcases h with ⟨h, _⟩ | ⟨dd, vs, h1, h2, _⟩
  · exact .inl h
  · exact .inr ⟨dd, vs, h1, h2⟩
/-- the surround: slot i holds the exception at a -/
structure SAt (lv : Ev) (K : PySem.W.Frag) (W : Wd) (i : Nat) (a : Addr) (fs : List (Str × D)) (d : Option Addr) (σ : L2.St) (H : Hp) : Prop where
  there : ∀ b, W b → ∃ o, H b = some o
  slot : σ[i]? = some (some (.ref a))
  err : ErrAt K W H fs d
  loc : ∀ (j : Nat) (v : D), lv[j]? = some (some (.d v)) → ∃ u, σ[j]? = some (some u) ∧ AV K W H v u
theorem SAt.same {lv : Ev} {K : PySem.W.Frag} {W : Wd} {i : Nat} {a : Addr} {fs : List (Str × D)} {d : Option Addr} {σ : L2.St} {H H' : Hp} (h : SAt lv K W i a fs d σ H) (k : Same H H') : SAt lv K W i a fs d σ H' := ⟨fun b z => let ⟨o, e⟩ := h.there b z; ⟨o, k _ _ e⟩, h.slot, h.err.same k, fun j v e => let ⟨u, e1, av⟩ := h.loc j v e; ⟨u, e1, av.mv (same_mv k)⟩⟩
def tSE (lv : Ev) (K : PySem.W.Frag) (i : Nat) (a : Addr) (C : Str) (d : Option Addr) (m : SX) : TE := fun σ H Q => ∃ (W : Wd) (fs : List (Str × D)) (f : D), SAt lv K W i a fs d σ H ∧ m C fs = some f ∧ ∀ H' v, Same H H' → AV K W H' f v → Q v H'
def tSA (lv : Ev) (K : PySem.W.Frag) (i : Nat) (a : Addr) (C : Str) (d : Option Addr) (m : SXs) : TA := fun σ H Q => ∃ (W : Wd) (fs : List (Str × D)) (f : List D), SAt lv K W i a fs d σ H ∧ m C fs = some f ∧ ∀ H' v, Same H H' → AVs K W H' f v → Q v H'
def tST (lv : Ev) (K : PySem.W.Frag) (i : Nat) (a : Addr) (C : Str) (d : Option Addr) (m : SXb) : TT := fun σ H Q => ∃ (W : Wd) (fs : List (Str × D)) (f : Bool), SAt lv K W i a fs d σ H ∧ m C fs = some f ∧ ∀ H', Same H H' → Q f H'
abbrev InS (X : Cx) (C : Str) (oe : Obj) (d : Option Addr) : Prop := Zc (.ref (He.ga X.K C)) d oe ∧ ∃ vs, oe.data = .fields vs
def SE (lv : Ev) (X : Cx) (i : Nat) (e : Expr) (m : SX) : Prop := ∀ (a : Addr) (oe : Obj) (C : Str) (d : Option Addr) (pn : List (Addr × Obj)), InS X C oe d → PE (X.suite a ((a, oe) :: pn)) e (tSE lv X.K i a C d m)
def SA (lv : Ev) (X : Cx) (i : Nat) (e : List Expr) (m : SXs) : Prop := ∀ (a : Addr) (oe : Obj) (C : Str) (d : Option Addr) (pn : List (Addr × Obj)), InS X C oe d → PA (X.suite a ((a, oe) :: pn)) e (tSA lv X.K i a C d m)
def ST (lv : Ev) (X : Cx) (i : Nat) (e : Expr) (m : SXb) : Prop := ∀ (a : Addr) (oe : Obj) (C : Str) (d : Option Addr) (pn : List (Addr × Obj)), InS X C oe d → PT (X.suite a ((a, oe) :: pn)) e (tST lv X.K i a C d m)
def x_c (v : D) : SX := fun _ _ => some v
def x_fld (cs : List Str) (f : Str) : SX := fun C fs => if cs.contains C then fs.lookup f else none
def x_isi (tab : List (Str × Bool)) : SX := fun C _ => (tab.lookup C).map D.bl
def x_nil : SXs := fun _ _ => some []
def x_cons (m : SX) (ms : SXs) : SXs := fun C fs => match m C fs, ms C fs with
  | some d, some l => some (d :: l)
  | _, _ => none
def x_tup (ms : SXs) : SX := fun C fs => (ms C fs).bind fun l => if l.length ≤ sizeLine then some (.tup l) else none
def x_op (g : D → D → Option D) (m1 m2 : SX) : SX := fun C fs => match m1 C fs, m2 C fs with
  | some a, some b => g a b
  | _, _ => none
def x_str (m : SX) : SX := fun C fs => match m C fs with
  | some (.int i) => if decide (i.natAbs.log2 < 1920) && PyData.strOk (toString i : String) then some (.str (toString i : String)) else none
  | some (.str z) => some (.str z)
  | _ => none
def x_tb (m : SX) : SXb := fun C fs => match m C fs with
  | some (.bl b) => some b
  | _ => none
def x_notb (m : SXb) : SXb := fun C fs => (m C fs).map fun b => !b
def x_andb (m1 m2 : SXb) : SXb := fun C fs => match m1 C fs with
  | some true => m2 C fs
  | some false => some false
  | none => none
/-- as values: bools -/
def x_not (m : SX) : SX := fun C fs => match m C fs with
  | some (.bl b) => some (.bl (!b))
  | _ => none
def x_and (m1 m2 : SX) : SX := fun C fs => match m1 C fs with
  | some (.bl true) => m2 C fs
  | some (.bl false) => some (.bl false)
  | _ => none
def x_if (t : SXb) (m1 m2 : SX) : SX := fun C fs => match t C fs with
  | some true => m1 C fs
  | some false => m2 C fs
  | none => none
section
variable {lv : Ev} {X : Cx} {i : Nat} {n x : Str} {np p pos tpos : Pos} {e e1 e2 c t : Expr} {es rest : List Expr} {m m1 m2 : SX} {ms : SXs} {mb mc : SXb}
theorem PE.nev {X : Cx} {e : Expr} {t : TE} (h : ∀ σ H Q, ¬ t σ H Q) : PE X e t := ⟨fun _ _ σ H Q _ q => (h σ H Q q).elim⟩
theorem se_c {v : D} {u : V} (h : ∀ a oe pn, PE (X.suite a ((a, oe) :: pn)) e (tC u)) (av : ∀ W H, AV X.K W H v u) : SE lv X i e (x_c v) := fun a oe C d pn _ => PE.of (h a oe pn) fun σ H Q ⟨W, fs, f, at_, hm, q⟩ => by
  cases hm
  exact q H _ Same.rfl' (av _ _)
theorem se_str {z : Str} {j} (h : PyData.strOk z = true := by decide +kernel) : SE lv X i (.Constant (.str z) j pos) (x_c (.str z)) := se_c (fun _ _ _ => pe_str) fun _ _ => .str h
theorem se_int {z : Int} {j} : SE lv X i (.Constant (.int z) j pos) (x_c (.int z)) := se_c (fun _ _ _ => pe_int) fun _ _ => .int z
theorem se_bl {z : Bool} {j} : SE lv X i (.Constant (.bool z) j pos) (x_c (.bl z)) := se_c (fun _ _ _ => pe_bl) fun _ _ => .bl z
/-- e.f -/
theorem se_fld {cs : List Str} {f : Str} (T : ∀ C ∈ cs, XfC X.K (He.ga X.K C) ∧ PySem.W.findIn X.K (.ref (He.ga X.K C)) f = some none) (hN : X.N[i]? = some n := by rfl) (hv : Vis X.env.scope n := by first | exact Or.inl rfl | exact Or.inr (Or.inl rfl) | exact Or.inr (Or.inr rfl))
    (hd : (n == ("__debug__" : Str)) = false := by decide) (hcd : (n == ("__classdict__" : Str)) = false := by decide) (hb : attributeBase (.Name n np) f X.env (eval (.Name n np) X.env) = eval (.Name n np) X.env := by rfl) : SE lv X i (.Attribute (.Name n np) f pos) (x_fld cs f) := fun a oe C d pn hz => by
  by_cases hC : cs.contains C = true
  · obtain ⟨T1, T2⟩ := T C (by simpa using hC)
    refine PE.of (pe_xf T1 T2 hz.1 hz.2 (pe_var (X := X.suite a ((a, oe) :: pn)) hN hv hd hcd) hb) fun σ H Q ⟨W, fs, g, at_, hm, q⟩ => ?_
    unfold x_fld at hm
    rw [if_pos hC] at hm
    rcases at_.err with ⟨_, rfl⟩ | ⟨dd, vs, rfl, e, af⟩
    · cases hm
    · obtain ⟨v, l, av⟩ := af.look hm
      exact ⟨.ref a, at_.slot, rfl, rfl, dd, vs, v, rfl, e, l, q H v Same.rfl' av⟩
  · refine PE.nev fun σ H Q ⟨W, fs, g, at_, hm, q⟩ => ?_
    unfold x_fld at hm
    rw [if_neg hC] at hm
    cases hm
/-- isinstance(e, T) -/
theorem se_isi {tab : List (Str × Bool)} {v : V} {uv : Value} (hg : Gl X "isinstance") (hm : X.mg "isinstance" = none) (T : ∀ C b, tab.lookup C = some b → ExcC X.K (He.ga X.K C) ∧ PySem.W.kitOne X.K (.ref (He.ga X.K C)) uv = some b)
    (hT : ∀ a oe pn, PE (X.suite a ((a, oe) :: pn)) t (tC v)) (hv : ∀ u, RelV v u → u = uv) (hN : X.N[i]? = some n := by rfl) (hvs : Vis X.env.scope n := by first | exact Or.inl rfl | exact Or.inr (Or.inl rfl) | exact Or.inr (Or.inr rfl))
    (hd : (n == ("__debug__" : Str)) = false := by decide) (hcd : (n == ("__classdict__" : Str)) = false := by decide) (hs : starEach [.Name n np, t] X.env = (false, eval (.Name n np) X.env) :: starEach [t] X.env := by rfl) (hs2 : starEach [t] X.env = (false, eval t X.env) :: starEach [] X.env := by rfl)
    (hpl : (backTo pos (starEach [t] X.env)).any (·.1) = false := by rfl) : SE lv X i (.Call (.Name "isinstance" p) [.Name n np, t] [] pos) (x_isi tab) := fun a oe C d pn hz => by
  cases z : tab.lookup C with
  | none =>
    refine PE.nev fun σ H Q ⟨W, fs, g, at_, hm, q⟩ => ?_
    unfold x_isi at hm
    rw [z] at hm
    cases hm
  | some b =>
    obtain ⟨T1, T2⟩ := T C b z
    refine PE.of (pe_callB (X := X.suite a ((a, oe) :: pn)) (Xe.call_isX T1 hz.1 hz.2) hg hm (by rfl) (pa_cons (pe_var (X := X.suite a ((a, oe) :: pn)) hN hvs hd hcd) (pa_cons (hT a oe pn) pa_nil hs2) hs) (by decide) (by decide) hs hpl) fun σ H Q ⟨W, fs, g, at_, hm, q⟩ => ?_
    unfold x_isi at hm
    rw [z] at hm
    cases hm
    exact ⟨.ref a, at_.slot, v, uv, b, rfl, hv, at_.err.dict, T2, q H _ Same.rfl' (.bl b)⟩
theorem se_isiO {tab : List (Str × Bool)} {t : Str} {tp : Pos} (hg : Gl X "isinstance") (hm : X.mg "isinstance" = none) (T : ∀ C b, tab.lookup C = some b → ExcC X.K (He.ga X.K C) ∧ PySem.W.kitOne X.K (.ref (He.ga X.K C)) (.ref (He.ga X.K t)) = some b)
    (hgt : Gl X t) (hmt : X.mg t = some (.ref (He.ga X.K t))) (hN : X.N[i]? = some n := by rfl) (hvs : Vis X.env.scope n := by first | exact Or.inl rfl | exact Or.inr (Or.inl rfl) | exact Or.inr (Or.inr rfl))
    (hd : (n == ("__debug__" : Str)) = false := by decide) (hcd : (n == ("__classdict__" : Str)) = false := by decide) (hdt : (t == ("__debug__" : Str)) = false := by decide) (hs : starEach [.Name n np, .Name t tp] X.env = (false, eval (.Name n np) X.env) :: starEach [.Name t tp] X.env := by rfl) (hs2 : starEach [.Name t tp] X.env = (false, eval (.Name t tp) X.env) :: starEach [] X.env := by rfl)
    (hpl : (backTo pos (starEach [.Name t tp] X.env)).any (·.1) = false := by rfl) : SE lv X i (.Call (.Name "isinstance" p) [.Name n np, .Name t tp] [] pos) (x_isi tab) :=
  se_isi (v := .ref (He.ga X.K t)) hg hm T (fun a oe pn => p_own (X := X.suite a ((a, oe) :: pn)) hgt hmt hdt) (fun _ r => r) hN hvs hd hcd hs hs2 hpl
theorem se_isiT {tab : List (Str × Bool)} {t : Str} {ty : String} {tp : Pos} (hg : Gl X "isinstance") (hm : X.mg "isinstance" = none) (T : ∀ C b, tab.lookup C = some b → ExcC X.K (He.ga X.K C) ∧ PySem.W.kitOne X.K (.ref (He.ga X.K C)) (.type ty) = some b)
    (hgt : Gl X t) (hmt : X.mg t = none) (hbt : bootBuiltins t = some (.type ty) := by decide +kernel) (hnt : t ≠ "__name__" := by decide) (hN : X.N[i]? = some n := by rfl) (hvs : Vis X.env.scope n := by first | exact Or.inl rfl | exact Or.inr (Or.inl rfl) | exact Or.inr (Or.inr rfl))
    (hd : (n == ("__debug__" : Str)) = false := by decide) (hcd : (n == ("__classdict__" : Str)) = false := by decide) (hdt : (t == ("__debug__" : Str)) = false := by decide) (hs : starEach [.Name n np, .Name t tp] X.env = (false, eval (.Name n np) X.env) :: starEach [.Name t tp] X.env := by rfl) (hs2 : starEach [.Name t tp] X.env = (false, eval (.Name t tp) X.env) :: starEach [] X.env := by rfl)
    (hpl : (backTo pos (starEach [.Name t tp] X.env)).any (·.1) = false := by rfl) : SE lv X i (.Call (.Name "isinstance" p) [.Name n np, .Name t tp] [] pos) (x_isi tab) :=
  se_isi (v := .ty ty) hg hm T (fun a oe pn => p_ty (X := X.suite a ((a, oe) :: pn)) hgt hmt hbt hnt hdt) (fun _ r => r) hN hvs hd hcd hs hs2 hpl
theorem sa_nil : SA lv X i [] x_nil := fun a oe C d pn _ => ⟨fun pos pins s σ H Q I ⟨W, fs, f, at_, hm, q⟩ => pa_nil.run pos pins s σ H Q I (by
  cases hm
  exact q H [] Same.rfl' .nil)⟩
theorem sa_cons (h : SE lv X i e m) (h2 : SA lv X i es ms) (hs : starEach (e :: es) X.env = (false, eval e X.env) :: starEach es X.env := by rfl) : SA lv X i (e :: es) (x_cons m ms) := fun a oe C d pn hz => PA.of (pa_cons (h a oe C d pn hz) (h2 a oe C d pn hz) hs) fun σ H Q ⟨W, fs, f, at_, hm, q⟩ => by
  unfold x_cons at hm
  cases z1 : m C fs with
  | none => rw [z1] at hm; cases hm
  | some g =>
    cases z2 : ms C fs with
    | none => rw [z1, z2] at hm; cases hm
    | some l =>
      rw [z1, z2] at hm
      cases hm
      exact ⟨W, fs, g, at_, z1, fun H1 v k a1 => ⟨W, fs, l, at_.same k, z2, fun H2 vs k2 a2 => q H2 _ (sm_tr k k2) (.cons (a1.mv (same_mv k2)) a2)⟩⟩
theorem se_tup {x1} (h : SA lv X i es ms) : SE lv X i (.Tuple es x1 pos) (x_tup ms) := fun a oe C d pn hz => PE.of (pe_tup (h a oe C d pn hz)) fun σ H Q ⟨W, fs, f, at_, hm, q⟩ => by
  unfold x_tup at hm
  cases z : ms C fs with
  | none => rw [z] at hm; cases hm
  | some l =>
    rw [z] at hm
    have hm : (if l.length ≤ sizeLine then some (D.tup l) else none) = some f := hm
    by_cases hl : l.length ≤ sizeLine
    · rw [if_pos hl] at hm
      cases hm
      refine ⟨W, fs, l, at_, z, fun H1 vs k av => ⟨by rw [← av.length]; exact hl, fun r hr => ?_⟩⟩
      exact q _ _ (sm_tr k fun b o z => upd_keep hr b o z) (new_tup (fun b hb => (at_.same k).there b hb) hr av)
    · rw [if_neg hl] at hm; cases hm
theorem se_op {op : Operator} {r : R2} {g : D → D → Option D} (ho : ∀ a oe pn, OpR (X.suite a ((a, oe) :: pn)) (binaryOp op) r) (hf : Op2 X.K r g) (h1 : SE lv X i e1 m1) (h2 : SE lv X i e2 m2) : SE lv X i (.BinOp e1 op e2 pos) (x_op g m1 m2) := fun a oe C d pn hz =>
  PE.of (pe_op (ho a oe pn) (h1 a oe C d pn hz) (h2 a oe C d pn hz)) fun σ H Q ⟨W, fs, f, at_, hm, q⟩ => by
    unfold x_op at hm
    cases z1 : m1 C fs with
    | none => rw [z1] at hm; cases hm
    | some d1 =>
      cases z2 : m2 C fs with
      | none => rw [z1, z2] at hm; cases hm
      | some d2 =>
        rw [z1, z2] at hm
        have hm : g d1 d2 = some f := hm
        exact ⟨W, fs, d1, at_, z1, fun H1 v k a1 => ⟨W, fs, d2, at_.same k, z2, fun H2 u k2 a2 => hf W H2 d1 d2 v u f _ (fun b hb => (at_.same (sm_tr k k2)).there b hb) (.av (a1.mv (same_mv k2))) (.av a2) hm fun H3 y k3 a3 => q H3 y (sm_tr (sm_tr k k2) k3) a3⟩⟩
theorem se_stri (hg : Gl X "str") (hm : X.mg "str" = none) (h : SE lv X i e m) (hs : starEach [e] X.env = (false, eval e X.env) :: starEach [] X.env := by rfl) (hpl : (backTo pos (starEach [] X.env)).any (·.1) = false := by rfl) : SE lv X i (.Call (.Name "str" p) [e] [] pos) (x_str m) := fun a oe C d pn hz =>
  PE.of (pe_callTy (X := X.suite a ((a, oe) :: pn)) c_strI hg hm (by rfl) (pa_cons (h a oe C d pn hz) pa_nil hs) (by decide) (by decide) hs hpl) fun σ H Q ⟨W, fs, f, at_, hm, q⟩ => by
    unfold x_str at hm
    cases z : m C fs with
    | none => rw [z] at hm; cases hm
    | some g =>
      rw [z] at hm
      refine ⟨W, fs, g, at_, z, fun H1 v k av => ?_⟩
      cases g with
      | int j =>
        have hm : (if decide (j.natAbs.log2 < 1920) && PyData.strOk (toString j : String) then some (D.str (toString j : String)) else none) = some f := hm
        obtain ⟨c, hm⟩ := ite_some hm
        cases hm
        obtain ⟨c1, c2⟩ := Bool.and_eq_true_iff.mp c
        cases av
        exact .inl ⟨j, rfl, of_decide_eq_true c1, q H1 _ k (.str c2)⟩
      | str w =>
        cases hm
        cases av with
        | str hw => exact .inr ⟨w, rfl, q H1 _ k (.str hw)⟩
      | _ => cases hm
theorem st_tb (h : SE lv X i c m) (he : ∀ whole, isTrue c X.env whole = (do let v ← whole; standAt c.pos; holding [v] (truthy v)) := by intro _; rfl) : ST lv X i c (x_tb m) := fun a oe C d pn hz => by
  refine ⟨fun pins s σ H Q I hq => (pt_truth (h a oe C d pn hz) he).run pins s σ H Q I ?_⟩
  obtain ⟨W, fs, f, at_, hm, q⟩ := hq
  unfold x_tb at hm
  cases z : m C fs with
  | none => rw [z] at hm; cases hm
  | some g =>
    rw [z] at hm
    cases g with
    | bl b =>
      cases hm
      exact ⟨W, fs, _, at_, z, fun H1 v k av => ⟨f, by cases av; rfl, q H1 k⟩⟩
    | _ => cases hm
theorem st_not (h : ST lv X i c mb) : ST lv X i (.UnaryOp .Not c pos) (x_notb mb) := fun a oe C d pn hz => by
  refine ⟨fun pins s σ H Q I hq => (pt_not (h a oe C d pn hz)).run pins s σ H Q I ?_⟩
  obtain ⟨W, fs, f, at_, hm, q⟩ := hq
  unfold x_notb at hm
  cases z : mb C fs with
  | none => rw [z] at hm; cases hm
  | some b =>
    rw [z] at hm
    cases hm
    exact ⟨W, fs, b, at_, z, q⟩
def SW (lv : Ev) (X : Cx) (i : Nat) (e : Expr) (m : SXb) : Prop := ∀ (a : Addr) (oe : Obj) (C : Str) (d : Option Addr) (pn : List (Addr × Obj)), InS X C oe d → PW (X.suite a ((a, oe) :: pn)) e (tST lv X.K i a C d m)
theorem sw_one (h : ST lv X i c mb) : SW lv X i (.BoolOp .And [c] pos) mb := fun a oe C d pn hz => pw_and1 (h a oe C d pn hz)
theorem sw_and {b : Expr} (h : ST lv X i c mb) (h2 : SW lv X i (.BoolOp .And (b :: rest) pos) mc) : SW lv X i (.BoolOp .And (c :: b :: rest) pos) (x_andb mb mc) := fun a oe C d pn hz => by
  refine ⟨fun wh pins s σ H Q I hq => (pw_and (h a oe C d pn hz) (h2 a oe C d pn hz)).run wh pins s σ H Q I ?_⟩
  obtain ⟨W, fs, f, at_, hm, q⟩ := hq
  unfold x_andb at hm
  cases z : mb C fs with
  | none => rw [z] at hm; cases hm
  | some k =>
    rw [z] at hm
    refine ⟨W, fs, k, at_, z, fun H1 k1 => ?_⟩
    cases k with
    | true =>
      show tST lv X.K i a C d mc σ H1 Q
      exact ⟨W, fs, f, at_.same k1, hm, fun H2 k2 => q H2 (sm_tr k1 k2)⟩
    | false => cases hm; exact q H1 k1
theorem st_w (h : SW lv X i c mb) : ST lv X i c mb := fun a oe C d pn hz => (h a oe C d pn hz).pt
theorem se_if (h : ST lv X i c mb) (h1 : SE lv X i e1 m1) (h2 : SE lv X i e2 m2) : SE lv X i (.IfExp c e1 e2 pos) (x_if mb m1 m2) := fun a oe C d pn hz => PE.of (pe_ifExp (h a oe C d pn hz) (h1 a oe C d pn hz) (h2 a oe C d pn hz)) fun σ H Q ⟨W, fs, f, at_, hm, q⟩ => by
  unfold x_if at hm
  cases z : mb C fs with
  | none => rw [z] at hm; cases hm
  | some k =>
    rw [z] at hm
    refine ⟨W, fs, k, at_, z, fun H1 k1 => ?_⟩
    cases k with
    | true => exact ⟨W, fs, f, at_.same k1, hm, fun H2 v k2 => q H2 v (sm_tr k1 k2)⟩
    | false => exact ⟨W, fs, f, at_.same k1, hm, fun H2 v k2 => q H2 v (sm_tr k1 k2)⟩
theorem se_one {op} (h : SE lv X i e m) : SE lv X i (.BoolOp op [e] pos) m := fun a oe C d pn hz => pe_one (h a oe C d pn hz)
theorem se_not (h : SE lv X i e m) : SE lv X i (.UnaryOp .Not e pos) (x_not m) := fun a oe C d pn hz => PE.of (pe_not (h a oe C d pn hz)) fun σ H Q ⟨W, fs, f, at_, hm, q⟩ => by
  unfold x_not at hm
  cases z : m C fs with
  | none => rw [z] at hm; cases hm
  | some g =>
    rw [z] at hm
    cases g with
    | bl b =>
      cases hm
      exact ⟨W, fs, _, at_, z, fun H1 v k av => by cases av; exact ⟨b, rfl, q H1 _ k (.bl _)⟩⟩
    | _ => cases hm
theorem se_and {b : Expr} (h : SE lv X i e m1) (h2 : SE lv X i (.BoolOp .And (b :: rest) pos) m2) : SE lv X i (.BoolOp .And (e :: b :: rest) pos) (x_and m1 m2) := fun a oe C d pn hz => PE.of (pe_and (h a oe C d pn hz) (h2 a oe C d pn hz)) fun σ H Q ⟨W, fs, f, at_, hm, q⟩ => by
  unfold x_and at hm
  cases z : m1 C fs with
  | none => rw [z] at hm; cases hm
  | some g =>
    rw [z] at hm
    cases g with
    | bl b =>
      refine ⟨W, fs, _, at_, z, fun H1 v k av => ?_⟩
      cases av
      refine ⟨b, rfl, ?_⟩
      cases b with
      | true => exact ⟨W, fs, f, at_.same k, hm, fun H2 v k2 => q H2 v (sm_tr k k2)⟩
      | false => cases hm; exact q H1 _ k (.bl _)
    | _ => cases hm
end
end Bv
set_option Elab.async false
set_option linter.all false
set_option maxRecDepth 100000
set_option maxHeartbeats 4000000
/-! By value: try: body, except C as n: y = (what is told of it). -/
namespace Bv
open PySem PySem.Spec L2
open PyProof.Rows hiding St
variable [HasW]
/-- which classes are caught: tab; the slot of the exception: i; what is told of it goes to the slot j -/
def s_tryAs (tab : List (Str × Bool)) (mb : MS) (i j : Nat) (m : SX) : MS := fun e S => match mb e S with
  | .err C fs e1 S1 => (match tab.lookup C with
    | some true => (match m C fs with
      | some f => if i < e1.length then .go (.nx ((e1.set j (some (.d f))).set i none)) S1 else .bad
      | none => .bad)
    | some false => .err C fs e1 S1
    | none => .bad)
  | r => r
/-- except C: suite, the exception not named -/
def s_tryOn (tab : List (Str × Bool)) (mb ms : MS) : MS := fun e S => match mb e S with
  | .err C fs e1 S1 => (match tab.lookup C with
    | some true => (match ms e1 S1 with
      | .go o S2 => .go o S2
      | _ => .bad)
    | some false => .err C fs e1 S1
    | none => .bad)
  | r => r
theorem EvOk.unset {K : PySem.W.Frag} {W : Wd} {ρ : List Addr} {H : Hp} {e : Ev} {σ : L2.St} {i : Nat} (h : EvOk K W ρ H e σ) : EvOk K W ρ H (e.set i none) (σ.set i none) := by
  refine ⟨by rw [List.length_set, List.length_set]; exact h.len, fun j x q => ?_⟩
  by_cases hj : i = j
  · subst hj
    have hl : i < e.length := by
      have := (List.getElem?_eq_some_iff.mp q).1
      rwa [List.length_set] at this
    rw [List.getElem?_set_self hl] at q
    cases q
  · rw [List.getElem?_set_ne hj] at q
    obtain ⟨u, h1, h2⟩ := h.at_ j x q
    exact ⟨u, by rw [List.getElem?_set_ne hj]; exact h1, h2⟩
/-- a slot that is written in between and then unset -/
theorem EvOk.away {K : PySem.W.Frag} {W : Wd} {ρ : List Addr} {H : Hp} {e : Ev} {σ : L2.St} {i j : Nat} {v u : V} {x : X} (hij : i ≠ j) (h : EvOk K W ρ H e σ) (a : AX K W ρ H x v) : EvOk K W ρ H ((e.set j (some x)).set i none) (((σ.set i (some u)).set j (some v)).set i none) := by
  rw [List.set_comm _ _ hij, List.set_set]
  exact (h.set a).unset
/-- the classes of the except clause -/
def Catch (K : PySem.W.Frag) (c : Value) (tab : List (Str × Bool)) : Prop := ∀ C b, tab.lookup C = some b → PySem.W.exmOne K (.ref (He.ga K C)) c = some b
section
variable {X : Cx} {Wx : WX} {k i j : Nat} {n y x : Str} {c : Value} {body : List Stmt} {np yp apos pos pos' : Pos} {ex : Expr} {mb : MS} {m : SX} {tab : List (Str × Bool)}
theorem Here.tr (h : Here X Wx k) {W : WX} {pn : List (Addr × Obj)} {xe : Value → Shared → Prop} (tk : Xq.Tk (X.tr pn xe) W) : Here (X.tr pn xe) W k := ⟨tk, h.gu, h.room⟩
theorem mp_tryAs (h : Here X Wx k) (hs : X.stack = X.env :: X.outer) (hf : X.env.frame = some X.env.locals) (hN : X.N.Nodup) (hi : X.N[i]? = some n) (hln : X.env.kindOf n = some .local) (hj : X.N[j]? = some y) (hy : Loc X.env.scope y) (hij : i ≠ j) (hc : Names X x c) (ht : Catch X.K c tab) (hpa : ∀ hd : Option Value, PassesOwnAt (model X.prog X.w) (X.A.mark hd) X.A X.env X.xe)
    (hb : ∀ (W : WX) (pn : List (Addr × Obj)) (xe : Value → Shared → Prop), Here (X.tr pn xe) W k → MPs (X.tr pn xe) W body mb) (hse : SE [] X i ex m)
    (hsw : swapsWith ex (some (.Name y yp)) apos.line X.env = pure false := by rfl) (hfn : X.fn y = true ∨ X.env.scope.names.lookup y = some .local := by first | exact .inl rfl | exact .inr rfl) :
    MP X Wx (.Try body [.ExceptHandler (some (.Name x np)) (some n) [.Assign [.Name y yp] ex apos] pos'] [] [] pos) (s_tryAs tab mb i j m) := by
  let ts : Addr → Value → Option Addr → TS := fun a cls d D σ H => ∃ C : Str, cls = .ref (He.ga X.K C) ∧ tAsg (tSE [] X.K i a C d m) (gName j) D σ H
  have hsu : ∀ (a : Addr) (oe : Obj) (cls : Value) (d : Option Addr) (pn : List (Addr × Obj)), Zc cls d oe → (∃ vs, oe.data = .fields vs) → PSs (X.suite a ((a, oe) :: pn)) [.Assign [.Name y yp] ex apos] (ts a cls d) := fun a oe cls d pn hz hd =>
    ⟨fun pins s σ H D I ⟨C, ec, q⟩ => by
      subst ec
      exact (pss_one (ps_set (X := X.suite a ((a, oe) :: pn)) hN hj hy (hse a oe C d pn ⟨hz, hd⟩) hsw hfn)).run pins s σ H D I q⟩
  refine PS.of (Xq.ps_try_asQ (tb := fun W => RS X.K W mb) hs hf hN hi hln hc hpa h.tk (fun W pn xe tk po => hb W pn xe (h.tr tk)) fun a oe cls d pn xe hz hd _ _ => Xq.pss_suiteQ (hsu a oe cls d pn hz hd)) fun D σ H ⟨Z, ρ, e, S, st, ev, p⟩ => ?_
  refine ⟨Z, ρ, e, S, st, ev, ?_⟩
  unfold s_tryAs at p
  cases q : mb e S with
  | bad => rw [q] at p; exact p
  | go o S' => rw [q] at p; cases o <;> exact p
  | err C fs e1 S1 =>
    rw [q] at p
    intro ρ' H' σ' d s1 g1 ev1 er
    have p : PostS X.K Z ρ H Wx D (match tab.lookup C with
      | some true => (match m C fs with
        | some f => if i < e1.length then .go (.nx ((e1.set j (some (.d f))).set i none)) S1 else .bad
        | none => .bad)
      | some false => .err C fs e1 S1
      | none => .bad) := p
    cases z : tab.lookup C with
    | none => rw [z] at p; exact p.elim
    | some b =>
      rw [z] at p
      refine ⟨b, ht C b z, fun hb1 a na => ?_, fun hb1 => ?_⟩
      · subst hb1
        have p : PostS X.K Z ρ H Wx D (match m C fs with
          | some f => if i < e1.length then .go (.nx ((e1.set j (some (.d f))).set i none)) S1 else .bad
          | none => .bad) := p
        cases w : m C fs with
        | none => rw [w] at p; exact p.elim
        | some f =>
          rw [w] at p
          have p : PostS X.K Z ρ H Wx D (if i < e1.length then .go (.nx ((e1.set j (some (.d f))).set i none)) S1 else .bad) := p
          by_cases il0 : i < e1.length
          case neg => rw [if_neg il0] at p; exact p.elim
          rw [if_pos il0] at p
          have il : i < σ'.length := by rw [← ev1.len]; exact il0
          have er2 : ErrAt X.K (Wn Z ρ') H' fs d := by
            rcases er with er | ⟨dd, vs, h1, _, _, h4, h5⟩
            · exact .inl er
            · exact .inr ⟨dd, vs, h1, h4, h5⟩
          exact ⟨C, rfl, Wn Z ρ', fs, f, ⟨fun b hb => s1.thereW hb, by rw [List.getElem?_set_self il], er2, fun j v e => nomatch e⟩, w, fun H2 v k2 av =>
            p ρ' H2 _ (s1.grow k2) (g1.trans (Go.grow k2)) (EvOk.away hij (ev1.mv (same_mv k2) (List.prefix_refl _)) (.d av))⟩
      · subst hb1
        exact p ρ' H' σ' d s1 g1 ev1 er
end
end Bv
set_option Elab.async false
set_option linter.all false
set_option maxRecDepth 100000
set_option maxHeartbeats 4000000
/-! By value: what the head tells of own exceptions. -/
namespace Bv
open PySem PySem.Spec L2
open PyProof.Rows hiding St
/-- an own exception class with such an __init__: its name, its qualified name, the parameter, the def's syntax -/
structure ErrB where
  cls : Str
  qual : Str
  par : Str
  st : Stmt
abbrev inAd (C : Str) (K : PySem.W.Frag) : Addr := He.ma K (He.ga K C) "__init__"
def seenX (K : PySem.W.Frag) (d : ErrB) : He.FnW := match K.lookup (inAd d.cls K) with
  | some ⟨_, _, .func fd, _⟩ => some (fd.name, fd.qualname, fd.params, fd.body, fd.scope, fd.globals, [], fd.builtins)
  | _ => none
def ErrB.val (d : ErrB) : He.FnW := some ("__init__", d.qual, defArgs d.st, .stmts (defBody d.st), defScope d.st, mainGlobals, [], builtinsNs)
def obsX (ts : List (PySem.W.Frag → Bool)) (ds : List DefB) (xs : List ErrB) (K : PySem.W.Frag) : AlB := ((ts.all fun t => t K) && ds.all fun d => d.ok K, (ds.map fun d => seen K (d.ad K)) ++ xs.map (seenX K))
def valX (ds : List DefB) (xs : List ErrB) : AlB := (true, ds.map DefB.val ++ xs.map ErrB.val)
def SaysX (ts : List (PySem.W.Frag → Bool)) (ds : List DefB) (xs : List ErrB) (K : PySem.W.Frag) : Prop := obsX ts ds xs K = valX ds xs
def obsXG (n : Nat) (ts : List (PySem.W.Frag → Bool)) (ds : List DefB) (xs : List ErrB) (g : Addr → Option Obj) : AlB := obsX ts ds xs (He.frG g (He.asD g n ++ [cStatics]))
def hookX (n : Nat) (ts : List (PySem.W.Frag → Bool)) (ds : List DefB) (xs : List ErrB) : PySem.W.Hook where
  α := AlB
  obs := fun s => obsXG n ts ds xs s.heap.get?
  val := fun _ => valX ds xs
  says := fun _ h => ∃ K : PySem.W.Frag, K.In h ∧ SaysX ts ds xs K
  of := fun _ _ e => ⟨_, He.frG_in, e⟩
  keeps := fun _ _ _ ⟨K, i, c⟩ k => ⟨K, PySem.W.Frag.In.keeps i k, c⟩
theorem obsXG_eq {n : Nat} {ts : List (PySem.W.Frag → Bool)} {ds : List DefB} {xs : List ErrB} {g : Addr → Option Obj} {s : Shared} (h : ∀ a, g a = s.heap.get? a) : obsXG n ts ds xs g = (hookX n ts ds xs).obs s := by
  rw [show g = s.heap.get? from funext h]
  rfl
section
variable {ts : List (PySem.W.Frag → Bool)} {ds : List DefB} {xs : List ErrB} {K : PySem.W.Frag}
theorem SaysX.toB (c : SaysX ts ds xs K) : SaysB ts ds K := by
  have e1 := congrArg (fun z : AlB => z.1) c
  have e2 : (ds.map fun d => seen K (d.ad K)) ++ xs.map (seenX K) = ds.map DefB.val ++ xs.map ErrB.val := congrArg (fun z : AlB => z.2) c
  have e3 := (List.append_inj e2 (by rw [List.length_map, List.length_map])).1
  unfold SaysB obsB valB
  rw [e3]
  exact congrArg (fun b => (b, ds.map DefB.val)) (show ((ts.all fun t => t K) && ds.all fun d => d.ok K) = true from e1)
theorem SaysX.seen (c : SaysX ts ds xs K) (i : Nat) {d : ErrB} (h : xs[i]? = some d := by rfl) : seenX K d = d.val := by
  have e2 : (ds.map fun d => Bv.seen K (d.ad K)) ++ xs.map (seenX K) = ds.map DefB.val ++ xs.map ErrB.val := congrArg (fun z : AlB => z.2) c
  have e3 := (List.append_inj e2 (by rw [List.length_map, List.length_map])).2
  have e4 := congrArg (fun l => l[i]?) e3
  simp only [List.getElem?_map, h, Option.map_some, Option.some.injEq] at e4
  exact e4
end
/-- the syntax of such an __init__ -/
def ErrS (st : Stmt) (p : Str) : Prop := ∃ a1 a2 p0 p1 p2 p3 p4 p5 q1 q2 q3 q4 : Pos, defArgs st = Xe.eArgs p a1 a2 ∧ defBody st = Xe.eBody p p0 p1 p2 p3 p4 p5 q1 q2 q3 q4 ∧ defScope st = Xe.eSc p ∧ Xe.EHe p p0 p1 p2 p3 p4
/-- the bases -/
inductive EB where
  | ve | ie | ke
def baseTail : EB → List Value
  | .ve => [.type "ValueError", .type "Exception", .type "BaseException", .type "object"]
  | .ie => [.type "IndexError", .type "LookupError", .type "Exception", .type "BaseException", .type "object"]
  | .ke => [.type "KeyError", .type "LookupError", .type "Exception", .type "BaseException", .type "object"]
def baseOf : EB → String
  | .ve => "ValueError"
  | .ie => "IndexError"
  | .ke => "KeyError"
def newOf : EB → String
  | .ve => "ValueError.__new__"
  | .ie => "IndexError.__new__"
  | .ke => "LookupError.__new__"
def iniOf : EB → String
  | .ve => "ValueError.__init__"
  | .ie => "IndexError.__init__"
  | .ke => "KeyError.__init__"
theorem base_ok (b : EB) : Xe.EBase (baseOf b) (newOf b) (iniOf b) (baseTail b) := by
  cases b with
  | ve => exact Xe.base_VE
  | ie => exact Xe.base_IE
  | ke => exact Xe.base_KE
/-- what is asked of the written part: C over ValueError (b) or IndexError, its __init__ in the file f -/
def t_err1 (C p : Str) (b : EB) (K : PySem.W.Frag) : Bool :=
  PySem.W.excInitIn K (He.ga K C) (baseTail b) (newOf b) && (PySem.W.excOver K (He.ga K C) (baseTail b) && (PySem.W.hasDictIn K (He.ga K C) && (He.eqO (PySem.W.findIn K (.ref (He.ga K C)) "__setattr__") (some (some (.builtin "object.__setattr__"))) &&
  (He.eqO (PySem.W.findIn K (.ref (He.ga K C)) p) (some none) && (He.eqO (PySem.W.findIn K (.ref (He.ga K C)) "__init__") (some (some (.ref (inAd C K)))) && (decide (PySem.W.typeIn K (.ref (inAd C K)) = some (.type "function")) && PySem.W.keepIn K (.ref (He.ga K C))))))))
def t_err2 (C : Str) (b : EB) (K : PySem.W.Frag) : Bool :=
  decide (PySem.W.subIn K (.ref (He.ga K C)) (.type "BaseException") = some true) && (decide (PySem.W.subIn K (.ref (He.ga K C)) (.type (baseOf b)) = some true) && (decide (PySem.W.typeIn K (.ref (He.ga K C)) = some (.type "type")) &&
  (He.eqO (PySem.W.nsIn K cStatics "thirdparty.any") (some none) && (He.eqO (PySem.W.ks_superIn K (He.ga K C) (He.ga K C) "__init__") (some (some (.builtin (iniOf b)))) &&
  (decide (PySem.W.mroIn K (He.ga K C) (.ref (He.ga K C)) = some true) && He.eqO (PySem.W.nsIn K mainGlobals "super") (some none))))))
def t_err3 (C qual file : Str) (K : PySem.W.Frag) : Bool := match K.lookup (inAd C K) with
  | some ⟨_, _, .func fd, _⟩ => (match fd.closure, fd.code with
    | [(x, cc)], .ref cda => decide (x = "__class__") && (decide (fd.defaults = .none) && (decide (fd.kwdefaults = .none) && (PySem.W.codeIn K (.ref cda) qual && ((match K.lookup cda with
      | some ⟨_, _, .fields vs, _⟩ => (match vs.toList[2]? with
        | some (Value.str f _) => decide (file = f)
        | _ => false)
      | _ => false) && (match K.lookup cc with
      | some ⟨_, _, .cell (some (.ref D)), _⟩ => decide (D = He.ga K C)
      | _ => false)))))
    | _, _ => false)
  | _ => false
theorem err_ok {P : Program} {K : PySem.W.Frag} {d : ErrB} {b : EB} {file : Str} (S : ErrS d.st d.par) (hp : Xe.ParN d.par) (hs : seenX K d = d.val) (c1 : t_err1 d.cls d.par b K = true) (c2 : t_err2 d.cls b K = true) (c3 : t_err3 d.cls d.qual file K = true) (hf : P.main.file = file) (ht : (P.main.scope.names.lookup ("super" : Str)).isSome = false) :
    Xe.ErrOk P K (He.ga K d.cls) (inAd d.cls K) d.par := by
  obtain ⟨e1, h⟩ := He.ba c1
  obtain ⟨e2, h⟩ := He.ba h
  obtain ⟨e3, h⟩ := He.ba h
  obtain ⟨e4, h⟩ := He.ba h
  obtain ⟨e5, h⟩ := He.ba h
  obtain ⟨e6, h⟩ := He.ba h
  obtain ⟨e7, e8⟩ := He.ba h
  obtain ⟨f1, h⟩ := He.ba c2
  obtain ⟨f2, h⟩ := He.ba h
  obtain ⟨f3, h⟩ := He.ba h
  obtain ⟨f4, h⟩ := He.ba h
  obtain ⟨f5, h⟩ := He.ba h
  obtain ⟨f6, f7⟩ := He.ba h
  obtain ⟨a1, a2, p0, p1, p2, p3, p4, p5, q1, q2, q3, q4, s1, s2, s3, s4⟩ := S
  refine ⟨⟨_, _, _, _, ⟨e1, e2, e3, He.eqO_ok e4, He.eqO_ok e5, He.eqO_ok e6, of_decide_eq_true e7, e8, of_decide_eq_true f1, of_decide_eq_true f2, of_decide_eq_true f3, He.eqO_ok f4, He.eqO_ok f5, of_decide_eq_true f6, He.eqO_ok f7, ?_⟩, base_ok b⟩, hp, ht⟩
  unfold seenX ErrB.val at hs
  unfold t_err3 at c3
  cases q : K.lookup (inAd d.cls K) with
  | none => rw [q] at c3; cases c3
  | some o =>
    obtain ⟨oc, od, dt, osl⟩ := o
    rw [q] at c3 hs
    cases dt with
    | func fd =>
      obtain ⟨m1, m2, m3, m4, m5, m6, m7, m8, m9, m10, m11, m12, m13, m14, m15⟩ := fd
      have hs : (some (m1, m2, m3, m4, m5, m6, [], m15) : He.FnW) = some (("__init__" : Str), d.qual, defArgs d.st, FuncBody.stmts (defBody d.st), defScope d.st, mainGlobals, [], builtinsNs) := hs
      simp only [Option.some.injEq, Prod.mk.injEq] at hs
      obtain ⟨rfl, rfl, rfl, rfl, rfl, rfl, -, rfl⟩ := hs
      dsimp only at c3
      split at c3
      · rename_i x cc cda
        obtain ⟨g1, h⟩ := He.ba c3
        obtain ⟨g2, h⟩ := He.ba h
        obtain ⟨g3, h⟩ := He.ba h
        obtain ⟨g4, h⟩ := He.ba h
        obtain ⟨g5, g6⟩ := He.ba h
        obtain rfl := of_decide_eq_true g1
        have z2 := of_decide_eq_true g2
        have z3 := of_decide_eq_true g3
        subst z2 z3
        refine ⟨oc, od, m10, m11, m12, cda, cc, m14, osl, d.qual, a1, a2, p0, p1, p2, p3, p4, p5, q1, q2, q3, q4, ?_, g4, s4, ?_, ?_⟩
        · rw [s1, s2, s3]
        · cases w : K.lookup cda with
          | none => rw [w] at g5; cases g5
          | some o2 =>
            obtain ⟨c2, d2, t2, l2⟩ := o2
            rw [w] at g5
            cases t2 with
            | fields vs =>
              dsimp only at g5
              split at g5
              · rename_i f tf hv
                exact ⟨c2, d2, vs, l2, f, tf, rfl, by rw [← Array.getElem?_toList]; exact hv, by rw [hf, of_decide_eq_true g5]; exact beq_self_eq_true _⟩
              · cases g5
            | _ => cases g5
        · cases w : K.lookup cc with
          | none => rw [w] at g6; cases g6
          | some o2 =>
            obtain ⟨c2, d2, t2, l2⟩ := o2
            rw [w] at g6
            split at g6
            · rename_i e
              cases e
              rw [of_decide_eq_true g6]
              exact ⟨_, _, _, rfl⟩
            · cases g6
      · cases c3
    | _ => cases c3
/-! without an __init__ -/
def t_err0 (C : Str) (K : PySem.W.Frag) : Bool := PySem.W.excIn K (He.ga K C) (baseTail .ve) "ValueError.__new__" && (PySem.W.keepIn K (.ref (He.ga K C)) && (decide (PySem.W.subIn K (.ref (He.ga K C)) (.type "BaseException") = some true) && decide (PySem.W.typeIn K (.ref (He.ga K C)) = some (.type "type"))))
theorem err0_ok {C : Str} {K : PySem.W.Frag} (h : t_err0 C K = true) : Err0 K (He.ga K C) := by
  obtain ⟨c1, h⟩ := He.ba h
  obtain ⟨c2, h⟩ := He.ba h
  obtain ⟨c3, c4⟩ := He.ba h
  exact ⟨c1, c2, of_decide_eq_true c3, of_decide_eq_true c4⟩
/-! caught ones -/
def t_catch (C : Str) (tab : List (Str × Bool)) (K : PySem.W.Frag) : Bool := tab.all fun p => decide (PySem.W.exmOne K (.ref (He.ga K p.1)) (.ref (He.ga K C)) = some p.2)
theorem catch_ok {C : Str} {tab : List (Str × Bool)} {K : PySem.W.Frag} (h : t_catch C tab K = true) : Catch K (.ref (He.ga K C)) tab := fun D b q => of_decide_eq_true (List.all_eq_true.mp h (D, b) (PySem.mem_of_lookup q))
def t_xf (cs : List Str) (f : Str) (K : PySem.W.Frag) : Bool := cs.all fun C => xfB K (He.ga K C) && He.eqO (PySem.W.findIn K (.ref (He.ga K C)) f) (some none)
theorem xf_ok {cs : List Str} {f : Str} {K : PySem.W.Frag} (h : t_xf cs f K = true) : ∀ C ∈ cs, XfC K (He.ga K C) ∧ PySem.W.findIn K (.ref (He.ga K C)) f = some none := fun C m => by
  obtain ⟨c1, c2⟩ := He.ba (List.all_eq_true.mp h C m)
  exact ⟨xfB_ok c1, He.eqO_ok c2⟩
def t_excC (C : Str) (K : PySem.W.Frag) : Bool := He.eqO (PySem.W.findIn K (.ref (He.ga K C)) "__getattribute__") (some (some (.builtin "BaseException.__getattribute__"))) && (He.eqO (PySem.W.findIn K (.ref (He.ga K C)) "__getattr__") (some none) && (decide (PySem.W.subIn K (.ref (He.ga K C)) (.type "BaseException") = some true) &&
  (PySem.W.hasDictIn K (He.ga K C) && (He.eqO (PySem.W.findIn K (.ref (He.ga K C)) "__class__") (some (some (.builtin "object.__class__"))) && (He.eqO (PySem.W.specialIn K (.builtin "object.__class__") "__get__") (some (some (.builtin "getset_descriptor.__get__"))) &&
  (decide (PySem.W.takesIn K (.builtin "object.__class__") = some true) && decide (PySem.W.mroIn K (He.ga K C) (.type "object") = some true)))))))
theorem excC_ok {C : Str} {K : PySem.W.Frag} (h : t_excC C K = true) : ExcC K (He.ga K C) := by
  obtain ⟨c1, h⟩ := He.ba h
  obtain ⟨c2, h⟩ := He.ba h
  obtain ⟨c3, h⟩ := He.ba h
  obtain ⟨c4, h⟩ := He.ba h
  obtain ⟨c5, h⟩ := He.ba h
  obtain ⟨c6, h⟩ := He.ba h
  obtain ⟨c7, c8⟩ := He.ba h
  exact ⟨He.eqO_ok c1, He.eqO_ok c2, of_decide_eq_true c3, c4, He.eqO_ok c5, He.eqO_ok c6, of_decide_eq_true c7, of_decide_eq_true c8⟩
def t_isx (u : PySem.W.Frag → Value) (tab : List (Str × Bool)) (K : PySem.W.Frag) : Bool := tab.all fun p => t_excC p.1 K && decide (PySem.W.kitOne K (.ref (He.ga K p.1)) (u K) = some p.2)
theorem isx_ok {u : PySem.W.Frag → Value} {tab : List (Str × Bool)} {K : PySem.W.Frag} (h : t_isx u tab K = true) : ∀ C b, tab.lookup C = some b → ExcC K (He.ga K C) ∧ PySem.W.kitOne K (.ref (He.ga K C)) (u K) = some b := fun C b q => by
  obtain ⟨c1, c2⟩ := He.ba (List.all_eq_true.mp h (C, b) (PySem.mem_of_lookup q))
  exact ⟨excC_ok c1, of_decide_eq_true c2⟩
end Bv
set_option Elab.async false
set_option linter.all false
set_option maxRecDepth 100000
set_option maxHeartbeats 4000000
/-! By value: len(o), o[i] by own defs. -/
namespace Bv
open PySem PySem.Spec L2
open PyProof.Rows hiding St
/-- a special method of an own class -/
structure OwnSp (K : PySem.W.Frag) (C : Str) (m : Str) (f : Addr) : Prop where
  at_ : PySem.W.findIn K (.ref (He.ga K C)) m = some (some (.ref f))
  fn : PySem.W.isFn K (.ref f) = true
  fi : PySem.W.fnIn K f = true
def t_spec (C m : Str) (K : PySem.W.Frag) : Bool := He.eqO (PySem.W.findIn K (.ref (He.ga K C)) m) (some (some (.ref (He.ma K (He.ga K C) m)))) && (PySem.W.isFn K (.ref (He.ma K (He.ga K C) m)) && PySem.W.fnIn K (He.ma K (He.ga K C) m))
theorem spec_ok {C m : Str} {K : PySem.W.Frag} (h : t_spec C m K = true) : OwnSp K C m (He.ma K (He.ga K C) m) := by
  obtain ⟨c1, h⟩ := He.ba h
  obtain ⟨c2, c3⟩ := He.ba h
  exact ⟨He.eqO_ok c1, c2, c3⟩
variable [HasW]
section
variable {X : Cx} {Wx : WX} {pos p : Pos} {a b e : Expr} {es : List Expr} {ma mb : M} {ms : MG (List Bv.X)} {k j : Nat} {f : Addr} {fd : FuncData} {ps : List Str} {g : List D → PR} {C : Str}
abbrev rLenO (K : PySem.W.Frag) (C : Str) (g : List D → PR) : List V → Hp → VK → Prop := fun xs H Q => ∃ a dx fs, xs = [.ref a] ∧ H a = some (.ins (He.ga K C) dx fs) ∧ spP K 1 g [.ref a] H (fun v H' => ∃ n, v = .int n ∧ (0 ≤ n ∧ n < 2 ^ 63) ∧ Q (.int n) H') EN
theorem c_lenO (gu : X.A.guards = some []) (F : FnG X.prog X.w X.K X.mg X.base k f fd ps (spP X.K 1 g)) (O : OwnSp X.K C "__len__" f) (room : Room (k + 1) X.A) (hb : Binds X.K fd ps []) : CallR X (.builtin "len") (rLenO X.K C g) := fun pins s σ H xs us Q I r h => by
  obtain ⟨a, dx, fs, rfl, ha, q⟩ := h
  cases r with
  | cons r t =>
    cases t
    cases r
    obtain ⟨ox, od, J⟩ := ins_at I ha
    obtain ⟨m, hF⟩ := I.fr
    refine PySem.W.len_K hF I.ok.mod.kin J O.at_ O.fn (wpAny_mono (run_in F (by exact gu) room.in1 hb I I.env0.in1 (.cons (show RelV (V.ref a) (Value.ref a) from rfl) .nil) q) (fun u s' z => ?_) fun _ _ z => z)
    obtain ⟨v, H', I', rv, n, rfl, hn, q'⟩ := z
    obtain ⟨t, rfl⟩ := rv
    exact ⟨hn, .int n, H', I'.tok _, ⟨_, rfl⟩, q'⟩
def g_lenO (C : Str) (g : List D → PR) : List Bv.X → Sto → R Bv.X
  | [.d (.obj D fs)], S => if decide (D = C) then (match g [.obj D fs] with
    | .ok (.int n) => if decide (0 ≤ n ∧ n < 2 ^ 63) then .ok (.d (.int n)) S else .bad
    | _ => .bad) else .bad
  | _, _ => .bad
theorem b_lenO {K : PySem.W.Frag} : BinX K (rLenO K C g) (g_lenO C g) := fun Z ρ S H Wx σ xs vs Q st a h => by
  unfold g_lenO at h
  split at h
  · rename_i D fs
    split at h
    · rename_i hc
      obtain rfl := of_decide_eq_true hc
      obtain ⟨v, rfl, b⟩ := one_d a
      cases b with
      | obj w r hs =>
        refine ⟨_, _, _, rfl, r, rfl, Wn Z ρ, [.obj D fs], fun a h => st.thereW h, .cons (.obj w r hs) .nil, ?_⟩
        cases q : g [.obj D fs] with
        | ok d =>
          rw [q] at h
          cases d with
          | int n =>
            have h : PostG (AX K) K Z ρ H Wx σ Q (if decide (0 ≤ n ∧ n < 2 ^ 63) then .ok (.d (.int n)) S else .bad) := h
            by_cases hn : 0 ≤ n ∧ n < 2 ^ 63
            · rw [if_pos (decide_eq_true hn)] at h
              intro H' v k a
              cases a
              exact ⟨n, rfl, hn, PostG.ret h st k (.d (.int n))⟩
            · rw [if_neg (by simpa using hn)] at h; exact h.elim
          | _ => exact h.elim
        | err _ _ => rw [q] at h; exact h.elim
        | bad => rw [q] at h; exact h.elim
    · exact h.elim
  · exact h.elim
theorem Kept.lenO (c : Kept X.prog X.w X.K X.mg X.base j (He.ma X.K (He.ga X.K C) "__len__") (spP X.K 1 g)) (O : OwnSp X.K C "__len__" (He.ma X.K (He.ga X.K C) "__len__")) (h : Here X Wx k) (hj : j + 1 ≤ k) (hg : Gl X "len") (hm : X.mg "len" = none) (ha : MA X Wx (e :: es) ms)
    (he : starEach (e :: es) X.env = (false, eval e X.env) :: starEach es X.env := by rfl) (hpl : (backTo pos (starEach es X.env)).any (·.1) = false := by rfl) : ME X Wx (.Call (.Name "len" p) (e :: es) [] pos) (m_call (g_lenO C g) ms) := by
  obtain ⟨fd, ps, F, b⟩ := c.ex
  exact me_bin (c_lenO h.gu F O (h.room.mono hj) b) b_lenO hg hm ha (by rfl) (by decide) (by decide) he hpl

/-! ### o[i] -/
/-- a def that may raise, run within what is built in -/
theorem run_inX {pins : List (Addr × Obj)} {σ : St} {H : Hp} {s : Shared} {Q : VK} {us : List Value} {vs : List V} {sp : Sp} {A : Around} {E : XK} (F : FnG X.prog X.w X.K X.mg X.base k f fd ps sp) (gu : A.guards = some []) (room : Room k A) (hb : Binds X.K fd ps []) (hx : ∀ e s', Xq.CQ X.prog X.w X.stack H s E e s' → X.xe e s') (I : Inv X pins σ H s)
    (e0 : Env0 X.prog X.w X.K X.mg X.base A X.stack s H) (r : Vals vs us) (h : sp vs H Q E) : wpAny (model X.prog X.w) A (call (.ref f) us) (EP X pins σ Q) X.xe s := by
  have many : us.length = ps.length := r.length.symm.trans (F.len _ _ _ _ h)
  have bd := hb s us I.kIn (by rw [List.append_nil]; exact many)
  rw [List.append_nil] at bd
  refine wpAny_call (codeAny_mono (F.run A X.stack s H ⟨us, []⟩ us vs Q E gu room e0 bd r h) fun y s' z => ?_)
  cases y with
  | error e => exact hx e s' z
  | ok fl =>
    cases fl with
    | ret u => exact I.after z
    | next => exact z.elim
    | brk => exact z.elim
    | cont => exact z.elim
def m_subO (C : Str) (g : List D → PR) (ma mb : M) : M := fun e S => (ma e S).bind fun x S1 => match x with
  | .d (.obj D fs) => if decide (D = C) then (mb e S1).bind fun y S2 => callP g [.d (.obj D fs), y] S2 else .bad
  | _ => .bad
theorem Kept.subO (c : Kept X.prog X.w X.K X.mg X.base j (He.ma X.K (He.ga X.K C) "__getitem__") (spP X.K 2 g)) (O : OwnSp X.K C "__getitem__" (He.ma X.K (He.ga X.K C) "__getitem__")) (h : Here X Wx k) (hj : j + 1 ≤ k) (ha : ME X Wx a ma) (hb : ME X Wx b mb)
    (hsl : ∀ u w : Value, subscripted b true u w = runValue (.builtin "lifetime.subscript" ⟨[u, w], []⟩) := by intro _ _; with_unfolding_all rfl) : ME X Wx (.Subscript a b pos) (m_subO C g ma mb) := ⟨fun pins s σ H Q I ⟨Z, ρ, e, S, st, ev, q⟩ => by
  obtain ⟨fd, ps, F, bd⟩ := c.ex
  refine Subscript_ (thn (ha.run pins s σ H _ I (tt_bind (R' := fun v H1 => ∃ (ad dx : Addr) (fl : List (Str × V)) (fs : List (Str × D)) (ρ1 : List Addr) (S1 : Sto), v = .ref ad ∧ H1 ad = some (.ins (He.ga X.K C) dx fl) ∧ ¬ Wn Z ρ1 ad ∧ AVf X.K (Wn Z ρ1) H1 fs fl ∧ Sta X.K Z ρ1 S1 H1 ∧ EvOk X.K (Wn Z ρ1) ρ1 H1 e σ ∧ PostG (AX X.K) X.K Z ρ1 H1 Wx σ Q ((mb e S1).bind fun y S2 => callP g [.d (.obj C fs), y] S2)) st ev q
    fun ρ1 H1 v y S1 s1 g1 ev1 a1 p1 => by
      cases a1 with
      | r _ => exact p1.elim
      | d a =>
        cases a with
        | obj w r hs =>
          rename_i D ad dx fl fs
          have p2 : PostG (AX X.K) X.K Z ρ1 H1 Wx σ Q (if decide (D = C) then (mb e S1).bind fun y S2 => callP g [.d (.obj D fs), y] S2 else .bad) := p1
          clear p1
          by_cases hd : D = C
          · rw [if_pos (decide_eq_true hd)] at p2
            subst hd
            exact ⟨ad, dx, fl, fs, ρ1, S1, rfl, r, w, hs, s1, ev1, p2⟩
          · rw [if_neg (by simpa using hd)] at p2; exact p2.elim
        | _ => exact p1.elim)) fun u s1 ⟨x, H1, I1, rx, ad, dx, fl, fs, ρ1, S1, ex, hi, nw, hs, st1, ev1, p1⟩ => ?_)
  subst ex
  obtain rfl : u = Value.ref ad := rx
  refine thn (hb.run pins s1 σ H1 _ I1 (tt_bind (R' := fun v H2 => ∃ (ρ2 : List Addr) (y : Bv.X) (S2 : Sto), Sta X.K Z ρ2 S2 H2 ∧ AX X.K (Wn Z ρ2) ρ2 H2 (.d (.obj C fs)) (.ref ad) ∧ H2 ad = some (.ins (He.ga X.K C) dx fl) ∧ AX X.K (Wn Z ρ2) ρ2 H2 y v ∧ PostG (AX X.K) X.K Z ρ2 H2 Wx σ Q (callP g [.d (.obj C fs), y] S2)) st1 ev1 p1
    fun ρ2 H2 v y S2 s2 g2 ev2 a2 p2 => ⟨ρ2, y, S2, s2, (AX.d (.obj nw hi hs)).mv (g2.mv st1) g2.pre, (g2.mv st1 ad _ nw hi).2, a2, p2⟩)) fun w s2 ⟨v, H2, I2, rv, ρ2, y, S2, st2, ao, hi2, a2, p2⟩ => ?_
  obtain ⟨ox, od, J⟩ := ins_at I2 hi2
  obtain ⟨m, hF⟩ := I2.fr
  have aa : AXs X.K (Wn Z ρ2) ρ2 H2 [.d (.obj C fs), y] [V.ref ad, v] := .cons ao (.cons a2 .nil)
  exact PySem.W.sub_K hF I2.ok.mod.kin J O.at_ O.fi O.fn (run_inX F (by exact h.gu) (h.room.mono hj).in1 bd (fun e s' z => Xq.passAt h.tk σ pins H2 s2 e s' I2 z) I2 I2.env0.in1 (.cons (show RelV (V.ref ad) (Value.ref ad) from rfl) (.cons rv .nil)) (spP_of st2 aa rfl p2)) (hsl _ _)⟩
end
end Bv
set_option Elab.async false
set_option linter.all false
set_option maxRecDepth 100000
set_option maxHeartbeats 4000000
/-! By value: x != "text" where x is any value, or an own thing. -/
namespace Bv
open PySem PySem.Spec L2
open PyProof.Rows hiding St
variable [HasW]
theorem OpR.or {X : Cx} {f : Value → Value → Sem Value} {r1 r2 : R2} (h1 : OpR X f r1) (h2 : OpR X f r2) : OpR X f (fun x y H Q => r1 x y H Q ∨ r2 x y H Q) := fun pins s σ H x y v u Q I rx ry h => h.elim (h1 pins s σ H x y v u Q I rx ry) (h2 pins s σ H x y v u Q I rx ry)
section
variable {X : Cx} {Wx : WX} {k j : Nat} {f : Addr} {fd : FuncData} {ps : List Str} {g : List D → PR} {C : Str}
abbrev rNeS (K : PySem.W.Frag) (C : Str) (g : List D → PR) : R2 := fun x y H Q => ∃ a dx fs z, x = .ref a ∧ y = .str z ∧ H a = some (.ins (He.ga K C) dx fs) ∧ spP K 2 g [x, y] H (fun v H' => ∃ r, v = .bl r ∧ Q (.bl (!r)) H') EN
open Builtin in
theorem op_neS (gu : X.A.guards = some []) (F : FnG X.prog X.w X.K X.mg X.base k f fd ps (spP X.K 2 g)) (O : OwnEq X.K C f) (room : Room (k + 1) X.A) (hb : Binds X.K fd ps []) : OpR X (compareOp .NotEq) (rNeS X.K C g) := fun pins s σ H x y v u Q I rx ry h => by
  obtain ⟨a, dx, fs, z, rfl, rfl, ha, q⟩ := h
  cases rx
  obtain ⟨t, rfl⟩ := id ry
  obtain ⟨ox, od, J⟩ := ins_at I ha
  have hu := room.un
  show wpAny (model X.prog X.w) X.A (richCompare .NotEq (.ref a) (.str z t)) (EP X pins σ Q) X.xe s
  have core : wpAny (model X.prog X.w) X.A (call (.builtin "object.__ne__") [.ref a, .str z t]) (fun v s' => ∃ r : Bool, v = .bool r ∧ EP X pins σ Q (.bool r) s') X.xe s := by
    refine wpAny_call (codeAny_call_builtin (by decide +kernel) PySem.F.cmpEntry_ne (PySem.W.check_slot (i := "object.__ne__") (owner := "object") (n := "__ne__") (by decide +kernel) (by decide +kernel) (J.type.andThen (PySem.W.looks_mroIn I.kIn O.mo)) (PySem.F.cmpArgs_ne _ _) ?_))
    unfold Builtin.«object.__ne__»
    refine wpAny_bind (m := slotArgs "__ne__" 1 _) (wpAny_pure ?_)
    refine wpAny_bind (m := cRoomFor _ _) (wpAny_cRoomFor (by show X.A.units + 1 < _; omega) ?_)
    refine wpAny_bind (m := callSpecialIfBound? (.ref a) (Str.ofString "__eq__") _) (PySem.W.ifBound_K I.kIn J O.at_ O.fn (wpAny_mono (run_in F (by exact gu) room.in1 hb I I.env0.in1 (.cons (show RelV (V.ref a) (Value.ref a) from rfl) (.cons ry .nil)) q) (fun w s' z => ?_) fun _ _ z => z))
    obtain ⟨v, H', I', rv, r, rfl, q'⟩ := z
    cases rv
    refine wpAny_bind (m := truthy (.bool r)) (wpAny_truthy_bool (wpAny_pure ?_))
    exact ⟨!r, rfl, .bl (!r), H', I', rfl, by simpa using q'⟩
  have one : wpAny (model X.prog X.w) X.A (tryCompare (.ref a) "__ne__" (.str z t)) (fun r s' => ∃ v, r = some v ∧ EP X pins σ Q v s') X.xe s := by
    unfold tryCompare
    refine wpAny_bind (NtL.csib (J.type.andThen (PySem.W.looks_findIn I.kIn O.ne)) (by rfl) (wpAny_mono core (fun v s' z => ?_) fun _ _ z => z))
    obtain ⟨r, rfl, q'⟩ := z
    exact wpAny_pure ⟨_, rfl, q'⟩
  unfold richCompare
  simp only [oneThing_ref]
  refine wpAny_holding (wpAny_bind (wpAny_cRoomFor (by omega) ?_))
  refine wpAny_bind (J.type.here (wpAny_bind (wpAny_typeOf (typeIs_str _ _ _) ?_)))
  rw [if_pos (by simp)]
  refine wpAny_bind ((PySem.W.looks_subIn (K := X.K) I.kIn (t := .type "str") (base := .ref (He.ga X.K C)) (r := false) (by rfl)).here ?_)
  simp only [Bool.false_eq_true, if_false]
  refine wpAny_bind (wpAny_mono one (fun r s' z => ?_) fun _ _ e => e)
  obtain ⟨v, rfl, hq⟩ := z
  exact wpAny_pure hq
/-- x != y: an own thing against a text, or data -/
def neM (C : Str) (g : List D → PR) (a b : D) : Option D := match a, b with
  | .obj C1 f1, .str z => if decide (C1 = C) then (match g [.obj C1 f1, .str z] with
    | .ok (.bl r) => some (.bl (!r))
    | _ => none) else none
  | a, b => neD a b
theorem o_neS {K : PySem.W.Frag} : Op2 K (fun x y H Q => rNeS K C g x y H Q ∨ rNeD K x y H Q) (neM C g) := fun W H d1 d2 v1 v2 d Q hw a1 a2 e k => by
  unfold neM at e
  split at e
  · rename_i C1 f1 z
    obtain ⟨h1, h2⟩ := ite_some e
    obtain rfl := of_decide_eq_true h1
    obtain ⟨a, dx, vs, rfl, w, r, hs⟩ := a1.ob
    refine .inl ?_
    cases a2 with
    | av a2 =>
      cases a2 with
      | str hz =>
        refine ⟨a, dx, vs, z, rfl, rfl, r, rfl, W, _, hw, .cons (.obj w r hs) (.cons (.str hz) .nil), ?_⟩
        cases q : g [.obj C1 f1, .str z] with
        | ok d' =>
          rw [q] at h2
          cases d' with
          | bl r =>
            cases h2
            intro H' v ex a
            cases a with
            | bl _ => exact ⟨r, rfl, k H' _ ex (.bl _)⟩
          | _ => cases h2
        | err _ _ => rw [q] at h2; cases h2
        | bad => rw [q] at h2; cases h2
  · exact .inr (o_ne W H d1 d2 v1 v2 d Q hw a1 a2 e k)
theorem Here.neM (h : Here X Wx k) (c : Kept X.prog X.w X.K X.mg X.base j (He.ma X.K (He.ga X.K C) "__eq__") (spP X.K 2 g)) (O : OwnEq X.K C (He.ma X.K (He.ga X.K C) "__eq__")) (hj : j + 1 ≤ k := by decide) : Opr X (compareOp .NotEq) (Bv.neM C g) := by
  obtain ⟨fd, ps, F, b⟩ := c.ex
  exact ⟨_, OpR.or (op_neS h.gu F O (h.room.mono hj) b) (op_neD h.u64), o_neS⟩
end
/-! ### x is True, x is False, for any x -/
section
variable {X : Cx}
abbrev rIsA (neg : Bool) : R2 := fun x y H Q => ∃ b : Bool, y = .bl b ∧ Q (.bl (decide (x = .bl b) ^^ neg)) H
theorem plain_bl {x : V} {v : Value} {b : Bool} (r : RelV x v) : plainIs v (.bool b) = true ∧ (x ≠ .bl b → v ≠ .bool b) := by
  cases x with
  | non => cases (show v = Value.none from r); exact ⟨rfl, fun _ z => nomatch z⟩
  | bl a => cases (show v = Value.bool a from r); exact ⟨rfl, fun e z => e (congrArg V.bl (Value.bool.inj z))⟩
  | int i => obtain ⟨t, rfl⟩ := r; exact ⟨rfl, fun _ z => nomatch z⟩
  | str i => obtain ⟨t, rfl⟩ := r; exact ⟨rfl, fun _ z => nomatch z⟩
  | byt i => obtain ⟨t, rfl⟩ := r; exact ⟨rfl, fun _ z => nomatch z⟩
  | flt i => obtain ⟨t, rfl⟩ := r; exact ⟨rfl, fun _ z => nomatch z⟩
  | ref a => cases (show v = Value.ref a from r); exact ⟨rfl, fun _ z => nomatch z⟩
  | ty a => cases (show v = Value.type a from r); exact ⟨rfl, fun _ z => nomatch z⟩
theorem op_isA : OpR X (compareOp .Is) (rIsA false) := by
  intro pins s σ H x y v u Q I rx ry h
  obtain ⟨b, rfl, q⟩ := h
  cases (show u = Value.bool b from ry)
  obtain ⟨p, n⟩ := plain_bl (b := b) rx
  by_cases e : x = .bl b
  · subst e
    cases (show v = Value.bool b from rx)
    exact wpAny_is_self p ⟨.bl true, H, I, rfl, by simpa using q⟩
  · exact wpAny_is_other p (n e) ⟨.bl false, H, I, rfl, by simpa [e] using q⟩
theorem op_isnA : OpR X (compareOp .IsNot) (rIsA true) := by
  intro pins s σ H x y v u Q I rx ry h
  obtain ⟨b, rfl, q⟩ := h
  cases (show u = Value.bool b from ry)
  obtain ⟨p, n⟩ := plain_bl (b := b) rx
  by_cases e : x = .bl b
  · subst e
    cases (show v = Value.bool b from rx)
    exact wpAny_isNot_self p ⟨.bl false, H, I, rfl, by simpa using q⟩
  · exact wpAny_isNot_other p (n e) ⟨.bl true, H, I, rfl, by simpa [e] using q⟩
end
def blIs (a : D) (y : Bool) : Bool := match a with
  | .bl x => decide (x = y)
  | _ => false
def isA (neg : Bool) (a b : D) : Option D := match b with
  | .bl y => some (.bl (blIs a y ^^ neg))
  | _ => none
theorem AW.isBl {K : PySem.W.Frag} {W : Wd} {H : Hp} {d : D} {v : V} {y : Bool} (h : AW K W H d v) : decide (v = .bl y) = blIs d y := by
  cases h with
  | av h => cases h <;> simp [blIs]
  | lst h hs => simp [blIs]
  | fdc h hs => simp [blIs]
theorem o_isA {K : PySem.W.Frag} {neg : Bool} : Op2 K (rIsA neg) (isA neg) := fun W H d1 d2 v1 v2 d Q hw a1 a2 e k => by
  cases d2 with
  | bl y =>
    have := a2.bl_inv
    subst this
    refine ⟨y, rfl, ?_⟩
    rw [a1.isBl]
    cases e
    exact k H _ (Same.refl H) (.bl _)
  | _ => cases e
section
variable {X : Cx} {Wx : WX} {k : Nat}
theorem Here.isA (h : Here X Wx k) : Opr X (compareOp .Is) (Bv.isA false) := ⟨_, op_isA, o_isA⟩
theorem Here.isnA (h : Here X Wx k) : Opr X (compareOp .IsNot) (Bv.isA true) := ⟨_, op_isnA, o_isA⟩
end
end Bv
set_option Elab.async false
set_option linter.all false
set_option maxRecDepth 100000
set_option maxHeartbeats 4000000
/-! By value: lists of own things, != one by one; is a list of anything empty (== [], != []). -/
namespace PySem
open Sem (wp)
open AutoSeq1 (wpAny_loadPart')
open MeetsSeq MeetsSeq2 MeetsSeq3 SeqRoads2
namespace BvLs
section
variable {prog : Program} {w : World} {A : Around} {R : Result → Shared → Prop}
/-- != of two lists, read anew at each turn, equal one by one -/
theorem ne_turns (p q : Addr) (N : Nat) (J : Nat → Shared → Prop) (hl : GQ.ListI prog w A (fun e s' => R (.error e) s') p q N J) (last : ∀ s, J N s → R (.ok (.ret (.bool false))) s) (k : Nat) :
    ∀ i : Nat, N - i = k → i ≤ N → ∀ s, J i s → wpAny (model prog w) A.in1 (Builtin.«list.__eq__.loop» ⟨[.ref p, .ref q, rawInt i, rawInt 3], []⟩) (GQ.FinOf prog w A R) (fun e s' => R (.error e) s') s := by
  induction k with
  | zero =>
    intro i hk hi s ji
    obtain ⟨us, vs, n, m, gp, gq, su, sv, _⟩ := hl _ _ ji
    have e : i = N := by omega
    have fine : R (.ok (.ret (.bool false))) s := last s (e ▸ ji)
    obtain ⟨hp, g, d, tk, os⟩ := s
    wp_walk using wpAny_loadPart' gp, wpAny_loadPart' gq
    have z1 : us[((i : Nat) : Int).toNat]? = none := by simp; omega
    have z2 : vs[((i : Nat) : Int).toNat]? = none := by simp; omega
    rw [z1, z2]
    wp_walk using wpAny_loadPart' gp, wpAny_loadPart' gq
    show R (.ok (.ret (.bool (us.size != vs.size)))) _
    rw [su, sv]
    simpa using fine
  | succ k ih =>
    intro i hk hi s ji
    obtain ⟨us, vs, n, m, gp, gq, su, sv, turn⟩ := hl _ _ ji
    have l1 : i < us.size := by omega
    have l2 : i < vs.size := by omega
    have one := turn l1 l2
    obtain ⟨hp, g, d, tk, os⟩ := s
    wp_walk using wpAny_loadPart' gp, wpAny_loadPart' gq
    have z1 : us[((i : Nat) : Int).toNat]? = some us[i] := by simp [l1]
    have z2 : vs[((i : Nat) : Int).toNat]? = some vs[i] := by simp [l2]
    have nx : ((i : Int) + 1) = ((i + 1 : Nat) : Int) := by omega
    rw [z1, z2]
    refine wpAny_bind (wpAny_mono one (fun r s2 h2 => ?_) fun _ _ x => x)
    obtain ⟨hr, h2⟩ := h2
    subst hr
    have rest := ih (i + 1) (by omega) (by omega) s2 h2
    obtain ⟨hp2, g2, d2, tk2, os2⟩ := s2
    wp_walk
    rw [nx]
    exact ⟨plainId_quiet plain_eq_loop _, codeAny_builtin entry_eq_loop (by
      rw [Around.under_plainId plain_eq_loop _]
      exact rest)⟩
theorem ne_all (p q : Addr) (N : Nat) (J : Nat → Shared → Prop) (hl : GQ.ListI prog w A (fun e s' => R (.error e) s') p q N J) (last : ∀ s, J N s → R (.ok (.ret (.bool false))) s) {s : Shared} (start : J 0 s) :
    wpAny (model prog w) A.in1 (Builtin.«list.__ne__» ⟨[.ref p, .ref q], []⟩) (GQ.FinOf prog w A R) (fun e s' => R (.error e) s') s := by
  obtain ⟨us, vs, n, m, gp, gq, su, sv, _⟩ := hl _ _ start
  have rest := ne_turns (A := A) (R := R) p q N J hl last _ 0 rfl (Nat.zero_le _) s start
  obtain ⟨hp, g, d, tk, os⟩ := s
  have below := AutoSeq1.sub_list_list
  have many : ¬ (us.size != vs.size) = true := by simp [su, sv]
  wp_walk using wpAny_loadPart' gp, wpAny_loadPart' gq
  exact ⟨plainId_quiet plain_eq_loop _, codeAny_builtin entry_eq_loop (by
    rw [Around.under_plainId plain_eq_loop _]
    exact rest)⟩
/-- of unlike lengths -/
theorem ne_sizes (p q : Addr) (us vs : Array Value) (n m : Nat) (many : (us.size != vs.size) = true) {s : Shared} (gp : s.heap.get? p = some { cls := .type "list", data := .seq us n }) (gq : s.heap.get? q = some { cls := .type "list", data := .seq vs m }) (last : R (.ok (.ret (.bool true))) s) :
    wpAny (model prog w) A.in1 (Builtin.«list.__ne__» ⟨[.ref p, .ref q], []⟩) (GQ.FinOf prog w A R) (fun e s' => R (.error e) s') s := by
  obtain ⟨hp, g, d, tk, os⟩ := s
  have below := AutoSeq1.sub_list_list
  wp_walk using wpAny_loadPart' gp, wpAny_loadPart' gq
  exact last
theorem eq_sizes (p q : Addr) (us vs : Array Value) (n m : Nat) (many : (us.size != vs.size) = true) {s : Shared} (gp : s.heap.get? p = some { cls := .type "list", data := .seq us n }) (gq : s.heap.get? q = some { cls := .type "list", data := .seq vs m }) (last : R (.ok (.ret (.bool false))) s) :
    wpAny (model prog w) A.in1 (Builtin.«list.__eq__» ⟨[.ref p, .ref q], []⟩) (GQ.FinOf prog w A R) (fun e s' => R (.error e) s') s := by
  obtain ⟨hp, g, d, tk, os⟩ := s
  have below := AutoSeq1.sub_list_list
  wp_walk using wpAny_loadPart' gp, wpAny_loadPart' gq
  exact last
variable {E : Value → Shared → Prop} {s : Shared}
theorem rc_ne {p q : Addr} {N : Nat} {Q : Value → Shared → Prop} (room : A.units < cLine) (J : Nat → Shared → Prop) (hl : GQ.ListI prog w A E p q N J) (last : ∀ s, J N s → Q (.bool false) s) (start : J 0 s) : wpAny (model prog w) A (richCompare .NotEq (.ref p) (.ref q)) Q E s := by
  obtain ⟨us, vs, n, m, gp, gq, _, _, _⟩ := hl _ _ start
  refine wpAny_richCompare_same_room (op := .NotEq) ⟨_, gp, rfl⟩ ⟨_, gq, rfl⟩ F.slot_list_ne (GQ.call_here F.slot_list_ne ⟨_, gp, rfl⟩ F.entry_list_ne (F.args_list_ne_2 _ _) ?_) room
  exact ne_all (R := wants (fun v s' => v ≠ .notImplemented ∧ Q v s') E) p q N J hl (fun s' z => ⟨(fun x => nomatch x), last s' z⟩) start
theorem rc_ne_sizes {p q : Addr} {us vs : Array Value} {n m : Nat} {Q : Value → Shared → Prop} (room : A.units < cLine) (many : (us.size != vs.size) = true) (gp : s.heap.get? p = some { cls := .type "list", data := .seq us n }) (gq : s.heap.get? q = some { cls := .type "list", data := .seq vs m }) (last : Q (.bool true) s) : wpAny (model prog w) A (richCompare .NotEq (.ref p) (.ref q)) Q E s := by
  refine wpAny_richCompare_same_room (op := .NotEq) ⟨_, gp, rfl⟩ ⟨_, gq, rfl⟩ F.slot_list_ne (GQ.call_here F.slot_list_ne ⟨_, gp, rfl⟩ F.entry_list_ne (F.args_list_ne_2 _ _) ?_) room
  exact ne_sizes (R := wants (fun v s' => v ≠ .notImplemented ∧ Q v s') E) p q us vs n m many gp gq ⟨(fun x => nomatch x), last⟩
theorem rc_eq_sizes {p q : Addr} {us vs : Array Value} {n m : Nat} {Q : Value → Shared → Prop} (room : A.units < cLine) (many : (us.size != vs.size) = true) (gp : s.heap.get? p = some { cls := .type "list", data := .seq us n }) (gq : s.heap.get? q = some { cls := .type "list", data := .seq vs m }) (last : Q (.bool false) s) : wpAny (model prog w) A (richCompare .Eq (.ref p) (.ref q)) Q E s := by
  refine wpAny_richCompare_same_room (op := .Eq) ⟨_, gp, rfl⟩ ⟨_, gq, rfl⟩ F.slot_list_eq (GQ.call_here F.slot_list_eq ⟨_, gp, rfl⟩ F.entry_list_eq (F.args_list_eq_2 _ _) ?_) room
  exact eq_sizes (R := wants (fun v s' => v ≠ .notImplemented ∧ Q v s') E) p q us vs n m many gp gq ⟨(fun x => nomatch x), last⟩
end
end BvLs
end PySem
namespace Bv
open PySem PySem.Spec L2
open PyProof.Rows hiding St
variable [HasW]
abbrev rLsO (K : PySem.W.Frag) (C : Str) (g : List D → PR) (neg : Bool) : R2 := fun x y H Q => ∃ (W : Wd) (ds es : List D) (a b : Addr) (xs ys : List V), x = .ref a ∧ y = .ref b ∧ H a = some (.lst xs) ∧ H b = some (.lst ys) ∧ (∀ a, W a → ∃ o, H a = some o) ∧ AVs K W H ds xs ∧ AVs K W H es ys ∧ pairsEq C g ds es = true ∧ ∀ H', Same H H' → Q (.bl (!neg)) H'
section
variable {X : Cx} {k : Nat} {f : Addr} {fd : FuncData} {ps : List Str} {g : List D → PR} {C : Str}
theorem ls_I (gu : X.A.guards = some []) (F : FnG X.prog X.w X.K X.mg X.base k f fd ps (spP X.K 2 g)) (O : OwnEq X.K C f) (room : Room (k + 2) X.A) (hb : Binds X.K fd ps []) {pins : List (Addr × Obj)} {σ : St} {H : Hp} {E : Value → Shared → Prop}
    {W : Wd} {ds es : List D} {a b : Addr} {xs ys : List V} (h1 : H a = some (.lst xs)) (h2 : H b = some (.lst ys)) (hw : ∀ a, W a → ∃ o, H a = some o) (as : AVs X.K W H ds xs) (bs : AVs X.K W H es ys) (hp : pairsEq C g ds es = true) :
    GQ.ListI X.prog X.w X.A E a b xs.length (fun _ s' => ∃ H', Inv X pins σ H' s' ∧ Same H H') := fun i s' j => by
  obtain ⟨H', I', k'⟩ := id j
  obtain ⟨z, us, n, r1, e1⟩ := I'.hok a _ (k' _ _ h1)
  obtain ⟨z2, vs, m, r2, e2⟩ := I'.hok b _ (k' _ _ h2)
  refine ⟨us.toArray, vs.toArray, n, m, e1, e2, by rw [List.size_toArray, ← r1.length], by rw [List.size_toArray, ← r2.length, ← bs.length, ← as.length]; exact (pairsEq_at hp).1.symm, fun l1 l2 => ?_⟩
  exact tu_turn gu F O room hb hw as bs hp r1 r2 i l1 l2 s' j
theorem op_lsO (gu : X.A.guards = some []) (F : FnG X.prog X.w X.K X.mg X.base k f fd ps (spP X.K 2 g)) (O : OwnEq X.K C f) (room : Room (k + 2) X.A) (hb : Binds X.K fd ps []) : OpR X (compareOp .Eq) (rLsO X.K C g false) := fun pins s σ H x y v u Q I rx ry h => by
  obtain ⟨W, ds, es, a, b, xs, ys, rfl, rfl, t1, t2, hw, as, bs, hp, q⟩ := h
  cases rx
  cases ry
  show wpAny (model X.prog X.w) X.A (richCompare .Eq (.ref a) (.ref b)) (EP X pins σ Q) X.xe s
  exact GQ.rc_listG room.units0 _ (ls_I gu F O room hb t1 t2 hw as bs hp) (fun s' ⟨H', I', k'⟩ => ⟨.bl true, H', I', rfl, q H' k'⟩) ⟨H, I, Same.refl H⟩
theorem op_lsnO (gu : X.A.guards = some []) (F : FnG X.prog X.w X.K X.mg X.base k f fd ps (spP X.K 2 g)) (O : OwnEq X.K C f) (room : Room (k + 2) X.A) (hb : Binds X.K fd ps []) : OpR X (compareOp .NotEq) (rLsO X.K C g true) := fun pins s σ H x y v u Q I rx ry h => by
  obtain ⟨W, ds, es, a, b, xs, ys, rfl, rfl, t1, t2, hw, as, bs, hp, q⟩ := h
  cases rx
  cases ry
  show wpAny (model X.prog X.w) X.A (richCompare .NotEq (.ref a) (.ref b)) (EP X pins σ Q) X.xe s
  exact BvLs.rc_ne room.units0 _ (ls_I gu F O room hb t1 t2 hw as bs hp) (fun s' ⟨H', I', k'⟩ => ⟨.bl false, H', I', rfl, q H' k'⟩) ⟨H, I, Same.refl H⟩
/-! == [], != [] -/
abbrev rEmO (neg : Bool) : R2 := fun x y H Q => ∃ (a b : Addr) (xs : List V), x = .ref a ∧ y = .ref b ∧ H a = some (.lst xs) ∧ H b = some (.lst []) ∧ ∀ H', Same H H' → Q (.bl (xs.isEmpty ^^ neg)) H'
theorem em_I {pins : List (Addr × Obj)} {σ : St} {H : Hp} {E : Value → Shared → Prop} {a b : Addr} (h1 : H a = some (.lst [])) (h2 : H b = some (.lst [])) : GQ.ListI X.prog X.w X.A E a b 0 (fun _ s' => ∃ H', Inv X pins σ H' s' ∧ Same H H') := fun i s' j => by
  obtain ⟨H', I', k'⟩ := id j
  obtain ⟨z, us, n, r1, e1⟩ := I'.hok a _ (k' _ _ h1)
  obtain ⟨z2, vs, m, r2, e2⟩ := I'.hok b _ (k' _ _ h2)
  refine ⟨us.toArray, vs.toArray, n, m, e1, e2, by rw [List.size_toArray, ← r1.length]; rfl, by rw [List.size_toArray, ← r2.length]; rfl, fun l1 l2 => ?_⟩
  rw [List.size_toArray, ← r1.length] at l1
  exact absurd l1 (Nat.not_lt_zero _)
theorem op_emO (room : Room 0 X.A) : OpR X (compareOp .Eq) (rEmO false) := fun pins s σ H x y v u Q I rx ry h => by
  obtain ⟨a, b, xs, rfl, rfl, t1, t2, q⟩ := h
  cases rx
  cases ry
  show wpAny (model X.prog X.w) X.A (richCompare .Eq (.ref a) (.ref b)) (EP X pins σ Q) X.xe s
  cases xs with
  | nil => exact GQ.rc_listG room.units0 _ (em_I t1 t2) (fun s' ⟨H', I', k'⟩ => ⟨.bl true, H', I', rfl, q H' k'⟩) ⟨H, I, Same.refl H⟩
  | cons c r =>
    obtain ⟨z, us, n, r1, e1⟩ := I.hok a _ t1
    obtain ⟨z2, vs, m, r2, e2⟩ := I.hok b _ t2
    exact BvLs.rc_eq_sizes room.units0 (by rw [List.size_toArray, List.size_toArray, ← r1.length, ← r2.length]; simp) e1 e2 ⟨.bl false, H, I, rfl, q H (Same.refl H)⟩
theorem op_emnO (room : Room 0 X.A) : OpR X (compareOp .NotEq) (rEmO true) := fun pins s σ H x y v u Q I rx ry h => by
  obtain ⟨a, b, xs, rfl, rfl, t1, t2, q⟩ := h
  cases rx
  cases ry
  show wpAny (model X.prog X.w) X.A (richCompare .NotEq (.ref a) (.ref b)) (EP X pins σ Q) X.xe s
  cases xs with
  | nil => exact BvLs.rc_ne room.units0 _ (em_I t1 t2) (fun s' ⟨H', I', k'⟩ => ⟨.bl false, H', I', rfl, q H' k'⟩) ⟨H, I, Same.refl H⟩
  | cons c r =>
    obtain ⟨z, us, n, r1, e1⟩ := I.hok a _ t1
    obtain ⟨z2, vs, m, r2, e2⟩ := I.hok b _ t2
    exact BvLs.rc_ne_sizes room.units0 (by rw [List.size_toArray, List.size_toArray, ← r1.length, ← r2.length]; simp) e1 e2 ⟨.bl true, H, I, rfl, q H (Same.refl H)⟩
end
def lsO (C : Str) (g : List D → PR) (neg : Bool) (a b : D) : Option D := match a, b with
  | .lst ds, .lst es => if pairsEq C g ds es then some (.bl (!neg)) else none
  | _, _ => none
theorem o_lsO {K : PySem.W.Frag} {C : Str} {g : List D → PR} {neg : Bool} : Op2 K (rLsO K C g neg) (lsO C g neg) := fun W H d1 d2 v1 v2 d Q hw a1 a2 e k => by
  unfold lsO at e
  split at e
  · rename_i ds es
    obtain ⟨h1, h2⟩ := ite_some e
    cases h2
    obtain ⟨a, xs, rfl, t1, as⟩ := a1.sq
    obtain ⟨b, ys, rfl, t2, bs⟩ := a2.sq
    exact ⟨W, ds, es, a, b, xs, ys, rfl, rfl, t1, t2, hw, as, bs, h1, fun H' s => k H' _ s (.bl _)⟩
  · cases e
/-- is a list of anything empty: against [] -/
def emO (neg : Bool) (a b : D) : Option D := match a, b with
  | .lst ds, .lst [] => some (.bl (ds.isEmpty ^^ neg))
  | _, _ => none
theorem o_emO {K : PySem.W.Frag} {neg : Bool} : Op2 K (rEmO neg) (emO neg) := fun W H d1 d2 v1 v2 d Q hw a1 a2 e k => by
  unfold emO at e
  split at e
  · rename_i ds
    cases e
    obtain ⟨a, xs, rfl, t1, as⟩ := a1.sq
    obtain ⟨b, ys, rfl, t2, bs⟩ := a2.sq
    cases bs
    have z : xs.isEmpty = ds.isEmpty := by
      have := as.length
      cases ds <;> cases xs <;> simp at this ⊢
    refine ⟨a, b, xs, rfl, rfl, t1, t2, fun H' s => ?_⟩
    rw [z]
    exact k H' _ s (.bl _)
  · cases e
section
variable {X : Cx} {Wx : WX} {k j : Nat} {C : Str} {g : List D → PR}
theorem Here.lsO (h : Here X Wx k) (c : Kept X.prog X.w X.K X.mg X.base j (He.ma X.K (He.ga X.K C) "__eq__") (spP X.K 2 g)) (O : OwnEq X.K C (He.ma X.K (He.ga X.K C) "__eq__")) (hj : j + 2 ≤ k := by decide) : Opr X (compareOp .Eq) (Bv.lsO C g false) := by
  obtain ⟨fd, ps, F, b⟩ := c.ex
  exact ⟨_, op_lsO h.gu F O (h.room.mono hj) b, o_lsO⟩
theorem Here.lsnO (h : Here X Wx k) (c : Kept X.prog X.w X.K X.mg X.base j (He.ma X.K (He.ga X.K C) "__eq__") (spP X.K 2 g)) (O : OwnEq X.K C (He.ma X.K (He.ga X.K C) "__eq__")) (hj : j + 2 ≤ k := by decide) : Opr X (compareOp .NotEq) (Bv.lsO C g true) := by
  obtain ⟨fd, ps, F, b⟩ := c.ex
  exact ⟨_, op_lsnO h.gu F O (h.room.mono hj) b, o_lsO⟩
theorem Here.emO (h : Here X Wx k) : Opr X (compareOp .Eq) (Bv.emO false) := ⟨_, op_emO (h.room.mono (Nat.zero_le _)), o_emO⟩
theorem Here.emnO (h : Here X Wx k) : Opr X (compareOp .NotEq) (Bv.emO true) := ⟨_, op_emnO (h.room.mono (Nat.zero_le _)), o_emO⟩
end
end Bv
set_option Elab.async false
set_option linter.all false
set_option maxRecDepth 100000
set_option maxHeartbeats 4000000
/-! By value: try: body, except C as n: raise D(..) from n. -/
namespace Bv
open PySem PySem.Spec L2
open PyProof.Rows hiding St
/-- what is asked of the classes that are caught -/
def t_rs (tab : List (Str × Bool)) (K : PySem.W.Frag) : Bool := tab.all fun q => decide (PySem.W.subIn K (.ref (He.ga K q.1)) (.type "BaseException") = some true) && decide (PySem.W.typeIn K (.ref (He.ga K q.1)) = some (.type "type"))
def RsOk (K : PySem.W.Frag) (tab : List (Str × Bool)) : Prop := ∀ C, tab.lookup C = some true → PySem.W.subIn K (.ref (He.ga K C)) (.type "BaseException") = some true ∧ PySem.W.typeIn K (.ref (He.ga K C)) = some (.type "type")
theorem rs_ok {tab : List (Str × Bool)} {K : PySem.W.Frag} (h : t_rs tab K = true) : RsOk K tab := fun C q => by
  obtain ⟨c1, c2⟩ := He.ba (List.all_eq_true.mp h (C, true) (PySem.mem_of_lookup q))
  exact ⟨of_decide_eq_true c1, of_decide_eq_true c2⟩
theorem RsOk.at {X : Cx} {tab : List (Str × Bool)} (h : RsOk X.K tab) : ∀ C, tab.lookup C = some true → Raises X (.ref (He.ga X.K C)) := fun C q => raises_own (h C q).1 (h C q).2
variable [HasW]
/-- a local that holds data -/
def x_var (lv : Ev) (j : Nat) : SX := fun _ _ => match lv[j]? with
  | some (some (.d v)) => some v
  | _ => none
def x_len (m : SX) : SX := fun C fs => match m C fs with
  | some (.tup ds) => some (.int ds.length)
  | _ => none
section
variable {lv : Ev} {X : Cx} {i j : Nat} {n x : Str} {np p pos : Pos} {e : Expr} {m : SX}
theorem se_var {y : Str} (hN : X.N[j]? = some y := by rfl) (hv : Vis X.env.scope y := by first | exact Or.inl rfl | exact Or.inr (Or.inl rfl) | exact Or.inr (Or.inr rfl)) (hd : (y == ("__debug__" : Str)) = false := by decide) (hcd : (y == ("__classdict__" : Str)) = false := by decide) : SE lv X i (.Name y np) (x_var lv j) := fun a oe C d pn hz =>
  PE.of (pe_var (X := X.suite a ((a, oe) :: pn)) hN hv hd hcd) fun σ H Q ⟨W, fs, f, at_, hm, q⟩ => by
    unfold x_var at hm
    split at hm
    · rename_i v hl
      cases hm
      obtain ⟨u, e1, av⟩ := at_.loc j f hl
      exact ⟨u, e1, q H u Same.rfl' av⟩
    · cases hm
theorem se_len (hg : Gl X "len") (hm : X.mg "len" = none) (h : SE lv X i e m) (hs : starEach [e] X.env = (false, eval e X.env) :: starEach [] X.env := by rfl) (hpl : (backTo pos (starEach [] X.env)).any (·.1) = false := by rfl) : SE lv X i (.Call (.Name "len" p) [e] [] pos) (x_len m) := fun a oe C d pn hz =>
  PE.of (pe_callB (X := X.suite a ((a, oe) :: pn)) c_len hg hm (by rfl) (pa_cons (h a oe C d pn hz) pa_nil hs) (by decide) (by decide) hs hpl) fun σ H Q ⟨W, fs, f, at_, hm, q⟩ => by
    unfold x_len at hm
    cases z : m C fs with
    | none => rw [z] at hm; cases hm
    | some g =>
      rw [z] at hm
      cases g with
      | tup ds =>
        cases hm
        refine ⟨W, fs, _, at_, z, fun H1 v k av => ?_⟩
        cases av with
        | tup r hs => exact .inl (.inl ⟨_, _, rfl, .inr r.sq, by rw [← hs.length]; exact q H1 _ k (.int _)⟩)
      | _ => cases hm
theorem se_gtup {y : Str} {vs : List Str} (hg : Gl X y) (h : X.mg y = some (.ref (He.ga X.K y))) (hv : t_tup y vs X.K = true) (hz : (vs.all fun z => PyData.strOk z) = true := by decide +kernel) (hd : (y == ("__debug__" : Str)) = false := by decide) : SE lv X i (.Name y np) (x_c (.tup (vs.map D.str))) := by
  obtain ⟨u, av, r⟩ := av_tup hv hz
  exact se_c (fun a oe pn => pe_glob (X := X.suite a ((a, oe) :: pn)) hg h r hd) av
end
/-- the except suite raises another exception, which keeps what is told of the first -/
def s_tryX (tab : List (Str × Bool)) (mb : MS) (i : Nat) (C2 p : Str) (m : Ev → SX) : MS := fun e S => match mb e S with
  | .err C fs e1 S1 => (match tab.lookup C with
    | some true => (match m (e1.set i none) C fs with
      | some f => if i < e1.length then .err C2 [(p, f)] (e1.set i none) S1 else .bad
      | none => .bad)
    | some false => .err C fs e1 S1
    | none => .bad)
  | r => r
section
variable {X : Cx} {Wx : WX} {k i : Nat} {n x y : Str} {c : Value} {body : List Stmt} {np np2 yp rpos pos pos2 pos3 : Pos} {ex : Expr} {mb : MS} {m : Ev → SX} {tab : List (Str × Bool)} {C2 p : Str} {fI : Addr}
theorem mp_tryX (h : Here X Wx k) (hs : X.stack = X.env :: X.outer) (hf : X.env.frame = some X.env.locals) (hN : X.N.Nodup) (hi : X.N[i]? = some n) (hln : X.env.kindOf n = some .local) (hc : Names X x c) (ht : Catch X.K c tab) (hrs : ∀ C, tab.lookup C = some true → Raises X (.ref (He.ga X.K C)))
    (hpa : ∀ hd : Option Value, PassesOwnAt (model X.prog X.w) (X.A.mark hd) X.A X.env X.xe) (hb : ∀ (W : WX) (pn : List (Addr × Obj)) (xe : Value → Shared → Prop), Here (X.tr pn xe) W k → MPs (X.tr pn xe) W body mb)
    (T : Xe.ErrOk X.prog X.K (He.ga X.K C2) fI p) (gC : X.mg y = some (.ref (He.ga X.K C2))) (hg : Gl X y) (hse : ∀ lv, SE lv X i ex (m lv)) (hk : 1 ≤ k := by decide) (hdn : (n == ("__debug__" : Str)) = false := by decide) (hdb : (y == ("__debug__" : Str)) = false := by decide)
    (he : starEach (ex :: []) X.env = (false, eval ex X.env) :: starEach [] X.env := by rfl) (hpl : (backTo rpos (starEach [] X.env)).any (·.1) = false := by rfl) :
    MP X Wx (.Try body [.ExceptHandler (some (.Name x np)) (some n) [.Raise (some (.Call (.Name y yp) [ex] [] rpos)) (some (.Name n np2)) pos2] pos3] [] [] pos) (s_tryX tab mb i C2 p m) := by
  let ts : Addr → Value → Option Addr → TS := fun a cls d D σ H => ∃ (C : Str) (lv : Ev), cls = .ref (He.ga X.K C) ∧ Raises X cls ∧ σ[i]? = some (some (.ref a)) ∧ Xe.tMkS (He.ga X.K C2) p (tCons (tSE lv X.K i a C d (m lv)) tNil) σ H fun cls' d' H' => Wx cls' d' (σ.set i none) H'
  have hsu : ∀ (a : Addr) (oe : Obj) (cls : Value) (d : Option Addr) (pn : List (Addr × Obj)) (xe : Value → Shared → Prop), Zc cls d oe → (∃ vs, oe.data = .fields vs) → Xq.Hot (Xq.suiteQ X a ((a, oe) :: pn) xe) a cls →
      Xq.Tk (Xq.suiteQ X a ((a, oe) :: pn) xe) (fun cls d σ H => Wx cls d (σ.set i none) H) → PSs (Xq.suiteQ X a ((a, oe) :: pn) xe) [.Raise (some (.Call (.Name y yp) [ex] [] rpos)) (some (.Name n np2)) pos2] (ts a cls d) := fun a oe cls d pn xe hz hd hot tkS =>
    ⟨fun pins s σ H D I ⟨C, lv, ec, rz, hi2, q⟩ => by
      subst ec
      have hr : (Xq.suiteQ X a ((a, oe) :: pn) xe).A.depth + 1 < recursionLimit := by have := h.room.dp; show X.A.depth + 1 < _; omega
      have pa : PA (Xq.suiteQ X a ((a, oe) :: pn) xe) [ex] (tCons (tSE lv X.K i a C d (m lv)) tNil) := Xq.pa_suiteQ (pa_cons (X := X.suite a ((a, oe) :: pn)) (hse lv a oe C d pn ⟨hz, hd⟩) pa_nil he)
      have mk := Xe.pmk_sup (X := Xq.suiteQ X a ((a, oe) :: pn) xe) (np := yp) (pos := rpos) T gC hr pa hg hdb he hpl
      exact (pss_one (Xq.ps_raiseQF (X := Xq.suiteQ X a ((a, oe) :: pn) xe) hot rz tkS mk hi hln hdn)).run pins s σ H D I ⟨hi2, q⟩⟩
  refine PS.of (Xq.ps_try_asQ (tb := fun W => RS X.K W mb) hs hf hN hi hln hc hpa h.tk (fun W pn xe tk po => hb W pn xe (h.tr tk)) hsu) fun D σ H ⟨Z, ρ, e, S, st, ev, q0⟩ => ?_
  refine ⟨Z, ρ, e, S, st, ev, ?_⟩
  unfold s_tryX at q0
  cases q : mb e S with
  | bad => rw [q] at q0; exact q0
  | go o S' => rw [q] at q0; cases o <;> exact q0
  | err C fs e1 S1 =>
    rw [q] at q0
    intro ρ' H' σ' d s1 g1 ev1 er
    have q0 : PostS X.K Z ρ H Wx D (match tab.lookup C with
      | some true => (match m (e1.set i none) C fs with
        | some f => if i < e1.length then .err C2 [(p, f)] (e1.set i none) S1 else .bad
        | none => .bad)
      | some false => .err C fs e1 S1
      | none => .bad) := q0
    cases z : tab.lookup C with
    | none => rw [z] at q0; exact q0.elim
    | some b =>
      rw [z] at q0
      refine ⟨b, ht C b z, fun hb1 a na => ?_, fun hb1 => ?_⟩
      · subst hb1
        have q0 : PostS X.K Z ρ H Wx D (match m (e1.set i none) C fs with
          | some f => if i < e1.length then .err C2 [(p, f)] (e1.set i none) S1 else .bad
          | none => .bad) := q0
        cases w : m (e1.set i none) C fs with
        | none => rw [w] at q0; exact q0.elim
        | some f =>
          rw [w] at q0
          have q0 : PostS X.K Z ρ H Wx D (if i < e1.length then .err C2 [(p, f)] (e1.set i none) S1 else .bad) := q0
          by_cases il0 : i < e1.length
          case neg => rw [if_neg il0] at q0; exact q0.elim
          rw [if_pos il0] at q0
          have il : i < σ'.length := by rw [← ev1.len]; exact il0
          have er2 : ErrAt X.K (Wn Z ρ') H' fs d := by
            rcases er with er | ⟨dd, vs, h1, _, _, h4, h5⟩
            · exact .inl er
            · exact .inr ⟨dd, vs, h1, h4, h5⟩
          have loc : ∀ (j : Nat) (v : Bv.D), (e1.set i none)[j]? = some (some (.d v)) → ∃ u, (σ'.set i (some (.ref a)))[j]? = some (some u) ∧ AV X.K (Wn Z ρ') H' v u := fun j v e => by
            by_cases hj : i = j
            · subst hj
              rw [List.getElem?_set_self il0] at e
              cases e
            · rw [List.getElem?_set_ne hj] at e ⊢
              obtain ⟨u, e2, av⟩ := ev1.at_ j _ e
              cases av with
              | d av => exact ⟨u, e2, av⟩
          refine ⟨C, e1.set i none, rfl, hrs C z, by rw [List.getElem?_set_self il], Wn Z ρ', fs, f, ⟨fun b hb => s1.thereW hb, by rw [List.getElem?_set_self il], er2, loc⟩, w, fun H2 v k2 av => ⟨v, rfl, fun dd hd => ?_⟩⟩
          have s2 := s1.grow k2
          have g2 := g1.trans (Go.grow k2)
          have kp := upd_keep (o := .xd [(p, v)]) hd
          have mv := (Go.grow (ρ := ρ') kp).mv s2
          have hn : H dd = none := by
            cases y : H dd with
            | none => rfl
            | some o =>
              obtain ⟨u, y2⟩ := there_of g2 s2 dd o y
              rw [hd] at y2; cases y2
          rw [List.set_set]
          exact q0 ρ' _ _ (some dd) (s2.grow kp) (g2.trans (Go.grow kp)) (((ev1.unset).mv (same_mv k2) (List.prefix_refl _)).mv mv (List.prefix_refl _)) (.inr ⟨dd, _, rfl, hn, s2.fresh hd, upd_same, .cons (av.mv mv) .nil⟩)
      · subst hb1
        exact q0 ρ' H' σ' d s1 g1 ev1 er
end
end Bv
set_option Elab.async false
set_option linter.all false
set_option maxRecDepth 100000
set_option maxHeartbeats 4000000
/-! By value: dicts: d[k], k in d, d.get, d[k] = v, {}, walks over keys, values, items. -/
namespace Bv
open PySem PySem.Spec L2
open PyProof.Rows hiding St
variable [HasW]
section
variable {α : Type}
def lookD (kvs : List (D × α)) (k : D) : Option α := (kvs.find? fun p => decide (p.1 = k)).map (·.2)
def putD (kvs : List (D × α)) (k : D) (v : α) : List (D × α) := if (kvs.any fun p => decide (p.1 = k)) = true then kvs.map (fun p => if p.1 = k then (p.1, v) else p) else kvs ++ [(k, v)]
/-- a dict in the heap: key by key -/
abbrev KVR (R : α → V → Prop) : List (D × α) → List (Key × V) → Prop := Paired fun p q => p.1.key? = some q.1 ∧ R p.2 q.2
theorem key_inj {k k2 : D} {q : Key} (h : k.key? = some q) (h2 : k2.key? = some q) : k = k2 := by
  cases k with
  | int i => cases h; cases k2 with
    | int j => cases h2; rfl
    | _ => cases h2
  | str x => cases h; cases k2 with
    | str y => cases h2; rfl
    | _ => cases h2
  | _ => cases h
theorem key_dec {k k2 : D} {q q2 : Key} (h : k.key? = some q) (h2 : k2.key? = some q2) : decide (k = k2) = decide (q = q2) := by
  by_cases e : k = k2
  · subst e
    rw [h] at h2; cases h2
    rw [decide_eq_true rfl, decide_eq_true rfl]
  · have ne : ¬ q = q2 := fun z => e (key_inj (z ▸ h) h2)
    rw [decide_eq_false e, decide_eq_false ne]
theorem KVR.look {R : α → V → Prop} {k : D} {q : Key} (hk : k.key? = some q) : ∀ {kvs : List (D × α)} {ks : List (Key × V)}, KVR R kvs ks → (∃ d v, lookD kvs k = some d ∧ valV ks q = some v ∧ R d v) ∨ (lookD kvs k = none ∧ valV ks q = none)
  | _, _, .nil => .inr ⟨rfl, rfl⟩
  | (k1, d1) :: r, (q1, v1) :: s, .cons h t => by
    have e := key_dec h.1 hk
    unfold lookD valV
    rw [List.find?_cons, List.find?_cons]
    have e : decide (k1 = k) = decide (q1 = q) := e
    cases c : decide (q1 = q) with
    | true => rw [c] at e; rw [e]; exact .inl ⟨d1, v1, rfl, rfl, h.2⟩
    | false => rw [c] at e; rw [e]; exact KVR.look hk t
theorem KVR.any {R : α → V → Prop} {k : D} {q : Key} (hk : k.key? = some q) : ∀ {kvs : List (D × α)} {ks : List (Key × V)}, KVR R kvs ks → (kvs.any fun p => decide (p.1 = k)) = (ks.any fun p => decide (p.1 = q))
  | _, _, .nil => rfl
  | (k1, d1) :: r, (q1, v1) :: s, .cons h t => by
    rw [List.any_cons, List.any_cons, KVR.any hk t]
    show (decide (k1 = k) || _) = (decide (q1 = q) || _)
    rw [key_dec h.1 hk]
theorem KVR.setAll {R : α → V → Prop} {k : D} {q : Key} {d : α} {v : V} (hk : k.key? = some q) (hv : R d v) : ∀ {kvs : List (D × α)} {ks : List (Key × V)}, KVR R kvs ks → KVR R (kvs.map fun p => if p.1 = k then (p.1, d) else p) (ks.map fun p => if p.1 = q then (p.1, v) else p)
  | _, _, .nil => .nil
  | (k1, d1) :: r, (q1, v1) :: s, .cons h t => by
    have e := key_dec h.1 hk
    refine .cons ?_ (KVR.setAll hk hv t)
    show (if k1 = k then (k1, d) else (k1, d1)).1.key? = some (if q1 = q then (q1, v) else (q1, v1)).1 ∧ R (if k1 = k then (k1, d) else (k1, d1)).2 (if q1 = q then (q1, v) else (q1, v1)).2
    by_cases c : q1 = q
    · have c2 : k1 = k := of_decide_eq_true (by rw [show decide (k1 = k) = decide (q1 = q) from e]; exact decide_eq_true c)
      rw [if_pos c, if_pos c2]; exact ⟨h.1, hv⟩
    · have c2 : ¬ k1 = k := of_decide_eq_false (by rw [show decide (k1 = k) = decide (q1 = q) from e]; exact decide_eq_false c)
      rw [if_neg c, if_neg c2]; exact h
theorem KVR.put {R : α → V → Prop} {k : D} {q : Key} {d : α} {v : V} (hk : k.key? = some q) (hv : R d v) {kvs : List (D × α)} {ks : List (Key × V)} (r : KVR R kvs ks) : KVR R (putD kvs k d) (putK ks q v) := by
  unfold putD putK
  rw [KVR.any hk r]
  split
  · exact KVR.setAll hk hv r
  · exact Paired.append r (.cons ⟨hk, hv⟩ .nil)
end
theorem AVk.kvr {K : PySem.W.Frag} {W : Wd} {H : Hp} : ∀ {kvs : List (D × D)} {ks : List (Key × V)}, AVk K W H kvs ks → KVR (AV K W H) kvs ks
  | _, _, .nil => .nil
  | _, _, .cons k a t => .cons ⟨k, a⟩ t.kvr
theorem KVR.avk {K : PySem.W.Frag} {W : Wd} {H : Hp} : ∀ {kvs : List (D × D)} {ks : List (Key × V)}, KVR (AV K W H) kvs ks → AVk K W H kvs ks
  | _, _, .nil => .nil
  | (_, _) :: _, (_, _) :: _, .cons h t => .cons h.1 h.2 (KVR.avk t)
theorem key_av {K : PySem.W.Frag} {W : Wd} {H : Hp} {k : D} {v : V} {q : Key} (h : k.key? = some q) (a : AV K W H k v) : v = kV q := by
  cases k with
  | int i => cases h; cases a; rfl
  | str x => cases h; cases a; rfl
  | _ => cases h
theorem key_of {K : PySem.W.Frag} {W : Wd} {H : Hp} {k : D} {q : Key} (h : k.key? = some q) (ok : ∀ x, k = .str x → PyData.strOk x = true) : AV K W H k (kV q) := by
  cases k with
  | int i => cases h; exact .int i
  | str x => cases h; exact .str (ok x rfl)
  | _ => cases h
/-- a dict: data, or of the store -/
def dictX (S : Sto) : X → Option (List (D × X))
  | .d (.dic kvs) => some (kvs.map fun p => (p.1, .d p.2))
  | .d _ => none
  | .r n => match S[n]? with
    | some (.dic kvs) => some kvs
    | some (.fdc kvs) => some kvs
    | _ => none
theorem KVR.ofData {K : PySem.W.Frag} {W : Wd} {ρ : List Addr} {H : Hp} : ∀ {kvs : List (D × D)} {ks : List (Key × V)}, AVk K W H kvs ks → KVR (AX K W ρ H) (kvs.map fun p => (p.1, X.d p.2)) ks
  | _, _, .nil => .nil
  | _, _, .cons k a t => .cons ⟨k, .d a⟩ (KVR.ofData t)
theorem dictX_inv {K : PySem.W.Frag} {Z : Wd} {ρ : List Addr} {S : Sto} {H : Hp} {x : Bv.X} {v : V} {kvs : List (D × Bv.X)} (st : Sta K Z ρ S H) (a : AX K (Wn Z ρ) ρ H x v) (h : dictX S x = some kvs) : ∃ p ks, v = .ref p ∧ Rd H p (.dK ks) ∧ KVR (AX K (Wn Z ρ) ρ H) kvs ks := by
  cases a with
  | d a =>
    cases a with
    | dic w e hs => cases h; exact ⟨_, _, rfl, .inr ⟨_, e⟩, KVR.ofData hs⟩
    | _ => cases h
  | r e =>
    rename_i n a
    unfold dictX at h
    cases q : S[n]? with
    | none => simp only [q] at h; cases h
    | some o =>
      simp only [q] at h
      cases o with
      | dic kvs => cases h; obtain ⟨ks, e2, r⟩ := st.ob n _ _ q e; exact ⟨_, ks, rfl, .inl e2, r⟩
      | fdc kvs => cases h; obtain ⟨ob, ks, e2, r⟩ := st.ob n _ _ q e; exact ⟨_, ks, rfl, .inr ⟨ob, e2⟩, r⟩
      | _ => cases h
/-- a dict and a key -/
def dkX (S : Sto) (x y : Bv.X) : Option (List (D × Bv.X) × D) := (dictX S x).bind fun kvs => match y with
  | .d k => if k.key?.isSome then some (kvs, k) else none
  | .r _ => none
theorem dkX_inv {S : Sto} {x y : Bv.X} {p : List (D × Bv.X) × D} (h : dkX S x y = some p) : dictX S x = some p.1 ∧ y = .d p.2 ∧ ∃ q, p.2.key? = some q := by
  obtain ⟨kvs, h1, h2⟩ := Option.bind_eq_some_iff.mp h
  cases y with
  | d k =>
    have h2 : (if k.key?.isSome then some (kvs, k) else none) = some p := h2
    split at h2
    · rename_i c
      cases h2
      exact ⟨h1, rfl, Option.isSome_iff_exists.mp c⟩
    · cases h2
  | r _ => cases h2
def isNonX : Bv.X → Bool
  | .d .non => true
  | _ => false
theorem isNonX_inv {y : Bv.X} (h : isNonX y = true) : y = .d .non := by
  cases y with
  | d k => cases k <;> first | rfl | cases h
  | r _ => cases h
def dgetX (S : Sto) (x y : Bv.X) : R Bv.X := optR ((dkX S x y).bind fun p => lookD p.1 p.2) S
def m_dget (mo mi : M) : M := fun e S => (mo e S).bind fun x S1 => (mi e S1).bind fun y S2 => dgetX S2 x y
/-- k in d; None is no key -/
def dinB (S : Sto) (y x : Bv.X) : Option Bool := match dkX S x y with
  | some p => some (lookD p.1 p.2).isSome
  | none => if isNonX y && (dictX S x).isSome then some false else none
def m_din (neg : Bool) (mi mo : M) : M := fun e S => (mi e S).bind fun y S1 => (mo e S1).bind fun x S2 => optR ((dinB S2 y x).map fun b => .d (.bl (b ^^ neg))) S2
def m_dget1 (mo mi : M) : M := fun e S => (mo e S).bind fun x S1 => if (dictX S1 x).isSome then (mi e S1).bind fun y S2 => optR ((dkX S2 x y).map fun p => (lookD p.1 p.2).getD (.d .non)) S2 else .bad
def m_dget2 (mo mi mx : M) : M := fun e S => (mo e S).bind fun x S1 => if (dictX S1 x).isSome then (mi e S1).bind fun y S2 => (mx e S2).bind fun z S3 => optR ((dkX S3 x y).map fun p => (lookD p.1 p.2).getD z) S3 else .bad
section
variable {X : Cx} {Wx : WX} {pos apos cpos : Pos} {o i e f : Expr} {mo mi mx : M}
/-- the pieces of a look-up -/
theorem dget_at {K : PySem.W.Frag} {Z : Wd} {ρ : List Addr} {S : Sto} {H : Hp} {x y : Bv.X} {v u : V} {p : List (D × Bv.X) × D} (st : Sta K Z ρ S H) (a : AX K (Wn Z ρ) ρ H x v) (b : AX K (Wn Z ρ) ρ H y u) (h : dkX S x y = some p) :
    ∃ c ks q, v = .ref c ∧ Rd H c (.dK ks) ∧ DGet H c u (valV ks q) ∧ ((∃ d w, lookD p.1 p.2 = some d ∧ valV ks q = some w ∧ AX K (Wn Z ρ) ρ H d w) ∨ (lookD p.1 p.2 = none ∧ valV ks q = none)) := by
  obtain ⟨h1, h2, q, hk⟩ := dkX_inv h
  subst h2
  obtain ⟨c, ks, rfl, r, kv⟩ := dictX_inv st a h1
  cases b with
  | d b => exact ⟨c, ks, q, rfl, r, .inl ⟨ks, q, r, key_av hk b, rfl⟩, kv.look hk⟩
theorem me_dget (hu : X.A.units + 1 < cLine) (ho : ME X Wx o mo) (hi : ME X Wx i mi) (hs : NoSl i := by intro _ _; rfl) : ME X Wx (.Subscript o i pos) (m_dget mo mi) :=
  PE.of (pe_dget hu ho hi hs) fun σ H Q ⟨Z, ρ, e, S, st, ev, p⟩ => tt_bind (rel := AX X.K) st ev p fun ρ1 H1 v x S1 st1 g1 ev1 a1 p1 => tt_bind (rel := AX X.K) st1 ev1 p1 fun ρ2 H2 u y S2 st2 g2 ev2 a2 p2 => by
    have ax := a1.mv (g2.mv st1) g2.pre
    obtain ⟨d, hl, p3⟩ := (show Post X.K Z ρ2 H2 Wx σ Q (dgetX S2 x y) from p2).opt
    obtain ⟨p, h1, h2⟩ := Option.bind_eq_some_iff.mp hl
    obtain ⟨c, ks, q, rfl, r, g, lk⟩ := dget_at st2 ax a2 h1
    rcases lk with ⟨d2, w, e1, e2, aw⟩ | ⟨e1, _⟩
    · rw [h2] at e1; cases e1
      rw [e2] at g
      exact ⟨c, w, rfl, g, PostG.ret0 p3 st2 aw⟩
    · rw [h2] at e1; cases e1
theorem din_run {neg : Bool} {σ : L2.St} {H : Hp} {Q : VK} (h : RE X.K Wx (m_din neg mi mo) σ H Q) : (RE X.K Wx mi) σ H fun y H1 => (RE X.K Wx mo) σ H1 fun x H2 => (∃ a ov, x = .ref a ∧ DGet H2 a y ov ∧ Q (.bl (ov.isSome ^^ neg)) H2) ∨ ∃ a kvs, x = .ref a ∧ y = .non ∧ Rd H2 a (.dK kvs) ∧ Q (.bl neg) H2 := by
  obtain ⟨Z, ρ, e, S, st, ev, p⟩ := h
  refine tt_bind (rel := AX X.K) st ev p fun ρ1 H1 u y S1 st1 g1 ev1 a1 p1 => tt_bind (rel := AX X.K) st1 ev1 p1 fun ρ2 H2 v x S2 st2 g2 ev2 a2 p2 => ?_
  have ay := a1.mv (g2.mv st1) g2.pre
  obtain ⟨d, hl, p3⟩ := (show Post X.K Z ρ2 H2 Wx σ Q (optR ((dinB S2 y x).map fun b => .d (.bl (b ^^ neg))) S2) from p2).opt
  obtain ⟨b, hb, rfl⟩ := Option.map_eq_some_iff.mp hl
  unfold dinB at hb
  cases h1 : dkX S2 x y with
  | some p =>
    rw [h1] at hb
    cases hb
    obtain ⟨c, ks, q, rfl, r, g, lk⟩ := dget_at st2 a2 ay h1
    have e : (lookD p.1 p.2).isSome = (valV ks q).isSome := by rcases lk with ⟨d2, w, e1, e2, _⟩ | ⟨e1, e2⟩ <;> rw [e1, e2] <;> rfl
    rw [e] at p3
    exact .inl ⟨c, _, rfl, g, PostG.ret0 p3 st2 (.d (.bl _))⟩
  | none =>
    rw [h1] at hb
    have hb : (if isNonX y && (dictX S2 x).isSome then some false else none) = some b := hb
    split at hb
    · rename_i c
      cases hb
      obtain ⟨c1, c2⟩ := Bool.and_eq_true_iff.mp c
      obtain ⟨kvs, hd⟩ := Option.isSome_iff_exists.mp c2
      have hy := isNonX_inv c1
      subst hy
      obtain ⟨p, ks, rfl, r, kv⟩ := dictX_inv st2 a2 hd
      cases ay with
      | d ay =>
        cases ay
        refine .inr ⟨p, ks, rfl, rfl, r, PostG.ret0 p3 st2 ?_⟩
        rw [Bool.false_xor]
        exact .d (.bl _)
    · cases hb
theorem pc_mdin (hu : X.A.units + 1 < cLine) (hi : ME X Wx i mi) (ho : ME X Wx o mo) : PC X .In i o (RE X.K Wx (m_din false mi mo)) := ⟨fun pins s σ H Q I h => (pc_dinN hu hi ho).run pins s σ H Q I (by
  have q := din_run h
  simp only [Bool.xor_false] at q
  exact q)⟩
theorem pc_mdnin (hu : X.A.units + 1 < cLine) (hi : ME X Wx i mi) (ho : ME X Wx o mo) : PC X .NotIn i o (RE X.K Wx (m_din true mi mo)) := ⟨fun pins s σ H Q I h => (pc_dnotinN hu hi ho).run pins s σ H Q I (by
  have q := din_run h
  simp only [Bool.xor_true] at q
  exact q)⟩
theorem me_din (hu : X.A.units + 1 < cLine) (hi : ME X Wx i mi) (ho : ME X Wx o mo) (hb : behindInMarks .In o = false := by rfl) : ME X Wx (.Compare i [.In] [o] pos) (m_din false mi mo) := pe_cmp (pc_mdin hu hi ho) hb
theorem me_dnin (hu : X.A.units + 1 < cLine) (hi : ME X Wx i mi) (ho : ME X Wx o mo) (hb : behindInMarks .NotIn o = false := by rfl) : ME X Wx (.Compare i [.NotIn] [o] pos) (m_din true mi mo) := pe_cmp (pc_mdnin hu hi ho) hb
/-- a reading that gives bools, as a test -/
theorem mt_of {op : CmpOp} {m : M} (h : PC X op i o (RE X.K Wx m)) (hb : behindInMarks op o = false) : MT X Wx (.Compare i [op] [o] pos) (m_tb m) := ⟨fun pins s σ H Q I hq => (pt_cmp h hb).run pins s σ H Q I (by
  obtain ⟨Z, ρ, e, S, st, ev, p⟩ := hq
  refine tt_bind (rel := AX X.K) st ev p fun ρ1 H1 v x S1 st1 g1 ev1 a1 p1 => ?_
  match x, a1, p1 with
  | .d (.bl b), .d (.bl _), p1 => exact ⟨b, rfl, PostG.ret0 p1 st1 rfl⟩
  | .d (.non), _, p1 => exact p1.elim
  | .d (.int _), _, p1 => exact p1.elim
  | .d (.str _), _, p1 => exact p1.elim
  | .d (.tup _), _, p1 => exact p1.elim
  | .d (.lst _), _, p1 => exact p1.elim
  | .d (.dic _), _, p1 => exact p1.elim
  | .d (.obj _ _), _, p1 => exact p1.elim
  | .d (.gl _), _, p1 => exact p1.elim
  | .d (.scr _), _, p1 => exact p1.elim
  | .r _, _, p1 => exact p1.elim)⟩
theorem mt_din (hu : X.A.units + 1 < cLine) (hi : ME X Wx i mi) (ho : ME X Wx o mo) (hb : behindInMarks .In o = false := by rfl) : MT X Wx (.Compare i [.In] [o] pos) (m_tb (m_din false mi mo)) := mt_of (pc_mdin hu hi ho) hb
theorem mt_dnin (hu : X.A.units + 1 < cLine) (hi : ME X Wx i mi) (ho : ME X Wx o mo) (hb : behindInMarks .NotIn o = false := by rfl) : MT X Wx (.Compare i [.NotIn] [o] pos) (m_tb (m_din true mi mo)) := mt_of (pc_mdnin hu hi ho) hb
theorem me_dget1 (hu : X.A.units + 1 < cLine) (ho : ME X Wx o mo) (hi : ME X Wx e mi) (m : M1 X o "get" apos e cpos := by exact ⟨by rfl, by rfl, by rfl, by rfl⟩) : ME X Wx (.Call (.Attribute o "get" apos) [e] [] cpos) (m_dget1 mo mi) :=
  PE.of (pe_dget1 hu ho hi m) fun σ H Q ⟨Z, ρ, e, S, st, ev, p⟩ => tt_bind (rel := AX X.K) st ev p fun ρ1 H1 v x S1 st1 g1 ev1 a1 p1 => by
    have p1 : Post X.K Z ρ1 H1 Wx σ Q (if (dictX S1 x).isSome then (mi e S1).bind fun y S2 => optR ((dkX S2 x y).map fun p => (lookD p.1 p.2).getD (.d .non)) S2 else .bad) := p1
    by_cases c : (dictX S1 x).isSome = true
    case neg => rw [if_neg c] at p1; exact p1.elim
    rw [if_pos c] at p1
    obtain ⟨kvs1, hd⟩ := Option.isSome_iff_exists.mp c
    obtain ⟨a, ks1, rfl, r1, _⟩ := dictX_inv st1 a1 hd
    refine ⟨a, rfl, .inl ⟨ks1, r1⟩, tt_bind (rel := AX X.K) st1 ev1 p1 fun ρ2 H2 u y S2 st2 g2 ev2 a2 p2 => ?_⟩
    have ax := a1.mv (g2.mv st1) g2.pre
    obtain ⟨d, hl, p3⟩ := (show Post X.K Z ρ2 H2 Wx σ Q (optR ((dkX S2 x y).map fun p => (lookD p.1 p.2).getD (.d .non)) S2) from p2).opt
    obtain ⟨p, h1, rfl⟩ := Option.map_eq_some_iff.mp hl
    obtain ⟨c, ks, q, e0, r, g, lk⟩ := dget_at st2 ax a2 h1
    cases e0
    refine ⟨_, g, ?_⟩
    rcases lk with ⟨d2, w, e1, e2, aw⟩ | ⟨e1, e2⟩
    · rw [e1] at p3; rw [e2]; exact PostG.ret0 p3 st2 aw
    · rw [e1] at p3; rw [e2]; exact PostG.ret0 p3 st2 (.d .non)
theorem me_dget2 (hu : X.A.units + 1 < cLine) (ho : ME X Wx o mo) (hi : ME X Wx e mi) (hx : ME X Wx f mx) (m : M2 X o "get" apos e f cpos := by exact ⟨by rfl, by rfl, by rfl, by rfl⟩) : ME X Wx (.Call (.Attribute o "get" apos) [e, f] [] cpos) (m_dget2 mo mi mx) :=
  PE.of (pe_dget2 hu ho hi hx m) fun σ H Q ⟨Z, ρ, e, S, st, ev, p⟩ => tt_bind (rel := AX X.K) st ev p fun ρ1 H1 v x S1 st1 g1 ev1 a1 p1 => by
    have p1 : Post X.K Z ρ1 H1 Wx σ Q (if (dictX S1 x).isSome then (mi e S1).bind fun y S2 => (mx e S2).bind fun z S3 => optR ((dkX S3 x y).map fun p => (lookD p.1 p.2).getD z) S3 else .bad) := p1
    by_cases c : (dictX S1 x).isSome = true
    case neg => rw [if_neg c] at p1; exact p1.elim
    rw [if_pos c] at p1
    obtain ⟨kvs1, hd⟩ := Option.isSome_iff_exists.mp c
    obtain ⟨a, ks1, rfl, r1, _⟩ := dictX_inv st1 a1 hd
    refine ⟨a, rfl, .inl ⟨ks1, r1⟩, tt_bind (rel := AX X.K) st1 ev1 p1 fun ρ2 H2 u y S2 st2 g2 ev2 a2 p2 => tt_bind (rel := AX X.K) st2 ev2 p2 fun ρ3 H3 t z S3 st3 g3 ev3 a3 p3 => ?_⟩
    have ax := (a1.mv (g2.mv st1) g2.pre).mv (g3.mv st2) g3.pre
    have ay := a2.mv (g3.mv st2) g3.pre
    obtain ⟨d, hl, p4⟩ := (show Post X.K Z ρ3 H3 Wx σ Q (optR ((dkX S3 x y).map fun p => (lookD p.1 p.2).getD z) S3) from p3).opt
    obtain ⟨p, h1, rfl⟩ := Option.map_eq_some_iff.mp hl
    obtain ⟨c, ks, q, e0, r, g, lk⟩ := dget_at st3 ax ay h1
    cases e0
    refine ⟨_, g, ?_⟩
    rcases lk with ⟨d2, w, e1, e2, aw⟩ | ⟨e1, e2⟩
    · rw [e1] at p4; rw [e2]; exact PostG.ret0 p4 st3 aw
    · rw [e1] at p4; rw [e2]; exact PostG.ret0 p4 st3 a3
end
end Bv
set_option Elab.async false
set_option linter.all false
set_option maxRecDepth 100000
set_option maxHeartbeats 4000000
/-! By value: d[k] = v, {}, walks over keys, values, items. -/
namespace Bv
open PySem PySem.Spec L2
open PyProof.Rows hiding St
variable [HasW]
/-! ### a thing that stays from now on -/
def tFz (t : TE) : TE := fun σ H Q => t σ H fun v H1 => Q v H1 ∨ ∃ a u, H1 a = some u ∧ Mut (some u) ∧ ∀ od, Q v (upd H1 a (.frz od u))
theorem pe_fz {X : Cx} {e : Expr} {t : TE} (h : PE X e t) : PE X e (tFz t) := ⟨fun pins s σ H Q I q => thn (h.run pins s σ H _ I q) fun u s1 ⟨v, H1, I1, r, w⟩ => by
  rcases w with w | ⟨a, o, ha, mu, w⟩
  · exact ⟨v, H1, I1, r, w⟩
  · obtain ⟨od, I2⟩ := I1.lock ha mu
    exact ⟨v, _, I2, r, w od⟩⟩
/-! ### d[k] = v -/
def putX' (S : Sto) (x y : Bv.X) : Option (Nat × List (D × Bv.X) × D) := match x with
  | .r n => (match S[n]? with
    | some (.dic kvs) => (match y with
      | .d k => if k.key?.isSome && decide (kvs.length < sizeLine) then some (n, kvs, k) else none
      | .r _ => none)
    | _ => none)
  | .d _ => none
theorem putX'_inv {S : Sto} {x y : Bv.X} {p : Nat × List (D × Bv.X) × D} (h : putX' S x y = some p) : x = .r p.1 ∧ S[p.1]? = some (.dic p.2.1) ∧ y = .d p.2.2 ∧ (∃ q, p.2.2.key? = some q) ∧ p.2.1.length < sizeLine := by
  unfold putX' at h
  cases x with
  | d _ => cases h
  | r n =>
    cases q : S[n]? with
    | none => simp only [q] at h; cases h
    | some o =>
      simp only [q] at h
      cases o with
      | dic kvs =>
        cases y with
        | r _ => cases h
        | d k =>
          have h : (if k.key?.isSome && decide (kvs.length < sizeLine) then some (n, kvs, k) else none) = some p := h
          split at h
          · rename_i c
            cases h
            obtain ⟨c1, c2⟩ := Bool.and_eq_true_iff.mp c
            exact ⟨rfl, q, rfl, Option.isSome_iff_exists.mp c1, of_decide_eq_true c2⟩
          · cases h
      | _ => cases h
def s_dput (mo mi mv : M) : MS := fun e S => (mv e S).so e fun z S1 => (mo e S1).so e fun x S2 => (mi e S2).so e fun y S3 => match putX' S3 x y with
  | some p => .go (.nx e) (S3.set p.1 (.dic (putD p.2.1 p.2.2 z)))
  | none => .bad
theorem KVR.mv {K : PySem.W.Frag} {W W' : Wd} {ρ ρ' : List Addr} {H H' : Hp} (m : Mv W H W' H') (p : ρ <+: ρ') {kvs : List (D × X)} {ks : List (Key × V)} (h : KVR (AX K W ρ H) kvs ks) : KVR (AX K W' ρ' H') kvs ks := Paired.mapP h fun _ _ q => ⟨q.1, q.2.mv m p⟩
section
variable {X : Cx} {Wx : WX} {pos pos' apos cpos : Pos} {o i e f value tg : Expr} {mo mi mv m : M}
theorem mp_dput (hu : X.A.units + 1 < cLine) (ho : ME X Wx o mo) (hi : ME X Wx i mi) (hv : ME X Wx value mv) (hs : swapsWith value (some (.Subscript o i pos')) pos.line X.env = pure false := by rfl) : MP X Wx (.Assign [.Subscript o i pos'] value pos) (s_dput mo mi mv) :=
  PS.of (ps_dput hu ho hi hv hs) fun D σ H ⟨Z, ρ, e, S, st, ev, q⟩ => by
    refine so_bind (rel := AX X.K) st ev q fun ρ1 H1 w z S1 s1 g1 ev1 a1 q1 => so_bind (rel := AX X.K) s1 ev1 q1 fun ρ2 H2 v x S2 s2 g2 ev2 a2 q2 => so_bind (rel := AX X.K) s2 ev2 q2 fun ρ3 H3 u y S3 s3 g3 ev3 a3 q3 => ?_
    have az := (a1.mv (g2.mv s1) g2.pre).mv (g3.mv s2) g3.pre
    have ax := a2.mv (g3.mv s2) g3.pre
    have q3 : PostS X.K Z ρ3 H3 Wx D (match putX' S3 x y with
      | some p => .go (.nx e) (S3.set p.1 (.dic (putD p.2.1 p.2.2 z)))
      | none => .bad) := q3
    cases h : putX' S3 x y with
    | none => rw [h] at q3; exact q3.elim
    | some p =>
      rw [h] at q3
      have q9 : PostS X.K Z ρ3 H3 Wx D (.go (.nx e) (S3.set p.1 (.dic (putD p.2.1 p.2.2 z)))) := q3
      obtain ⟨e5, hS, e6, ⟨k, hk⟩, hl⟩ := putX'_inv h
      subst e5 e6
      cases ax with
      | r ha =>
        rename_i a
        obtain ⟨ks, e1, kv⟩ := s3.ob _ _ _ hS ha
        cases a3 with
        | d a3 =>
          have hu := key_av hk a3
          subst hu
          have kv2 : KVR (AX X.K (Wn Z ρ3) ρ3 H3) (putD p.2.1 p.2.2 z) (putK ks k w) := KVR.put hk az kv
          have inρ : a ∈ ρ3 := List.mem_of_getElem? ha
          have m : Mv (Wn Z ρ3) H3 (Wn Z ρ3) (upd H3 a (.dK (putK ks k w))) := fun b o hb z => ⟨hb, by rw [upd_ne (fun y => hb (.inr (by rw [y]; exact inρ)))]; exact z⟩
          obtain ⟨s4, g4⟩ := s3.put (o' := .dic (putD p.2.1 p.2.2 z)) (u := .dK (putK ks k w)) ha (fun _ _ z => by rw [e1] at z; cases z) ⟨_, upd_same, KVR.mv m (List.prefix_refl _) kv2⟩
          exact ⟨a, _, rfl, .k e1 (by rw [← Paired.length kv]; exact hl), q9 ρ3 _ _ s4 g4 (ev3.mv (g4.mv s3) (List.prefix_refl _))⟩
/-! ### {} -/
def m_dnewN : M := fun _ S => .ok (.r S.length) (S ++ [.dic []])
def m_dnew : M := fun _ S => .ok (.d (.dic [])) S
theorem me_dnewN : ME X Wx (.Dict [] [] pos) m_dnewN := PE.of pe_dnewK fun σ H Q ⟨Z, ρ, e, S, st, ev, p⟩ => fun a ha => by
  have k := upd_keep (o := .dK []) ha
  obtain ⟨s1, g1⟩ := st.push (o' := .dic []) ha k ⟨[], upd_same, .nil⟩
  exact p _ _ _ s1 g1 (.r (by rw [st.len]; simp))
theorem me_dnew : ME X Wx (.Dict [] [] pos) m_dnew := PE.of (pe_fz pe_dnewK) fun σ H Q ⟨Z, ρ, e, S, st, ev, p⟩ => fun a ha => .inr ⟨a, _, upd_same, trivial, fun od => by
  have k : ∀ b o, H b = some o → upd (upd H a (.dK [])) a (.frz od (.dK [])) b = some o := fun b o q => by rw [upd_ne (ne_of_none q ha), upd_ne (ne_of_none q ha)]; exact q
  exact p ρ _ _ (st.grow k) (Go.grow k) (.d (.dic (st.fresh ha) upd_same .nil))⟩
end
/-! ### walks -/
/-- the entries of what is walked, and the store behind (a dict of the store stays from now on) -/
def frzX (S : Sto) : Bv.X → Option (List (D × Bv.X) × Sto)
  | .d (.dic kvs) => some (kvs.map fun p => (p.1, .d p.2), S)
  | .d _ => none
  | .r n => match S[n]? with
    | some (.dic kvs) => some (kvs, S.set n (.fdc kvs))
    | some (.fdc kvs) => some (kvs, S)
    | _ => none
theorem frz_at {K : PySem.W.Frag} {Z : Wd} {ρ : List Addr} {S : Sto} {H : Hp} {x : Bv.X} {v : V} {p : List (D × Bv.X) × Sto} (st : Sta K Z ρ S H) (a : AX K (Wn Z ρ) ρ H x v) (h : frzX S x = some p) :
    ∃ c ks, v = .ref c ∧ KVR (AX K (Wn Z ρ) ρ H) p.1 ks ∧ ((p.2 = S ∧ ∃ od, H c = some (.frz od (.dK ks))) ∨ (H c = some (.dK ks) ∧ ∀ od, Sta K Z ρ p.2 (upd H c (.frz od (.dK ks))) ∧ Go ρ H ρ (upd H c (.frz od (.dK ks))) ∧ Mv (Wn Z ρ) H (Wn Z ρ) (upd H c (.frz od (.dK ks))))) := by
  cases a with
  | d a =>
    cases a with
    | dic w e hs => cases h; exact ⟨_, _, rfl, KVR.ofData hs, .inl ⟨rfl, _, e⟩⟩
    | _ => cases h
  | r e =>
    rename_i n a
    unfold frzX at h
    cases q : S[n]? with
    | none => simp only [q] at h; cases h
    | some o =>
      simp only [q] at h
      cases o with
      | fdc kvs => cases h; obtain ⟨ob, ks, e2, r⟩ := st.ob n _ _ q e; exact ⟨_, ks, rfl, r, .inl ⟨rfl, ob, e2⟩⟩
      | dic kvs =>
        cases h
        obtain ⟨ks, e2, r⟩ := st.ob n _ _ q e
        refine ⟨_, ks, rfl, r, .inr ⟨e2, fun od => ?_⟩⟩
        have inρ : a ∈ ρ := List.mem_of_getElem? e
        have m : Mv (Wn Z ρ) H (Wn Z ρ) (upd H a (.frz od (.dK ks))) := fun b o hb z => ⟨hb, by rw [upd_ne (fun y => hb (.inr (by rw [y]; exact inρ)))]; exact z⟩
        obtain ⟨s4, g4⟩ := st.put (o' := .fdc kvs) (u := .frz od (.dK ks)) e (fun _ _ z => by rw [e2] at z; cases z) ⟨od, ks, upd_same, KVR.mv m (List.prefix_refl _) r⟩
        exact ⟨s4, g4, m⟩
      | _ => cases h
def walkR (g : List (D × Bv.X) → Option (List Bv.X)) (S : Sto) (x : Bv.X) : R (List Bv.X × Lk) := match frzX S x with
  | some p => optR ((g p.1).map fun ys => (ys, Lk.free)) p.2
  | none => .bad
def okKey : D → Bool
  | .str x => PyData.strOk x
  | _ => true
def keysOf (kvs : List (D × Bv.X)) : Option (List Bv.X) := if kvs.all (fun p => okKey p.1) then some (kvs.map fun p => .d p.1) else none
def valsOf (kvs : List (D × Bv.X)) : Option (List Bv.X) := if kvs.all (fun p => p.2.isD) then some (kvs.map (·.2)) else none
def itemsOf : List (D × Bv.X) → Option (List Bv.X)
  | [] => some []
  | (k, .d v) :: r => if okKey k then (itemsOf r).map fun l => .d (.tup [k, v]) :: l else none
  | (_, .r _) :: _ => none
def i_keys (m : M) : MIt := fun e S => (m e S).bind fun x S1 => walkR keysOf S1 x
def i_vals (m : M) : MIt := fun e S => (m e S).bind fun x S1 => walkR valsOf S1 x
def i_items (m : M) : MIt := fun e S => (m e S).bind fun x S1 => walkR itemsOf S1 x
/-- a walk of a dict that stays -/
theorem walk_frz {K : PySem.W.Frag} {g : List (D × Bv.X) → Option (List Bv.X)} {Jt : Addr → Obj → List (Key × V) → It}
    (sv : ∀ {W : Wd} {ρ : List Addr} {H : Hp} {kvs : List (D × Bv.X)} {ks : List (Key × V)} {ys : List Bv.X} {c : Addr} {od : Obj}, KVR (AX K W ρ H) kvs ks → g kvs = some ys → H c = some (.frz od (.dK ks)) → Srv K W ρ H (ys, .free) (Jt c od ks))
    {Z : Wd} {ρ : List Addr} {H : Hp} {S : Sto} {σ : L2.St} {R : It → Hp → Prop} {x : Bv.X} {v : V} (st : Sta K Z ρ S H) (a : AX K (Wn Z ρ) ρ H x v) (p : PostG (Srv K) K Z ρ H Wx σ R (walkR g S x)) :
    (∃ c od ks, v = .ref c ∧ H c = some (.frz od (.dK ks)) ∧ R (Jt c od ks) H) ∨ ∃ c ks, v = .ref c ∧ H c = some (.dK ks) ∧ ∀ od, R (Jt c od ks) (upd H c (.frz od (.dK ks))) := by
  unfold walkR at p
  cases h : frzX S x with
  | none => rw [h] at p; exact p.elim
  | some q =>
    rw [h] at p
    obtain ⟨w, hw, p2⟩ := PostG.opt p
    obtain ⟨ys, hg, rfl⟩ := Option.map_eq_some_iff.mp hw
    obtain ⟨c, ks, rfl, kv, r⟩ := frz_at st a h
    rcases r with ⟨e, od, hc⟩ | ⟨hc, r⟩
    · rw [e] at p2
      exact .inl ⟨c, od, ks, rfl, hc, PostG.ret0 p2 st (sv kv hg hc)⟩
    · refine .inr ⟨c, ks, rfl, hc, fun od => ?_⟩
      obtain ⟨s4, g4, m⟩ := r od
      exact p2 ρ _ _ s4 g4 (sv (KVR.mv m (List.prefix_refl _) kv) hg upd_same)
theorem KVR.at_ {K : PySem.W.Frag} {W : Wd} {ρ : List Addr} {H : Hp} {kvs : List (D × Bv.X)} {ks : List (Key × V)} {j : Nat} {k : Key} {v : V} (h : KVR (AX K W ρ H) kvs ks) (e : ks[j]? = some (k, v)) : ∃ p, kvs[j]? = some p ∧ p.1.key? = some k ∧ AX K W ρ H p.2 v := by
  obtain ⟨p, h1, h2⟩ := pair_at h e
  exact ⟨p, h1, h2.1, h2.2⟩
theorem key_x {K : PySem.W.Frag} {W : Wd} {H : Hp} {k : D} {q : Key} (h : k.key? = some q) (ok : okKey k = true) : AV K W H k (kV q) := key_of h fun x e => by subst e; exact ok
theorem KVR.len {α : Type} {R : α → V → Prop} {kvs : List (D × α)} {ks : List (Key × V)} (h : KVR R kvs ks) : kvs.length = ks.length := Paired.length h
theorem srv_keys {K : PySem.W.Frag} {W : Wd} {ρ : List Addr} {H : Hp} {kvs : List (D × Bv.X)} {ks : List (Key × V)} {ys : List Bv.X} {c : Addr} {od : Obj} (kv : KVR (AX K W ρ H) kvs ks) (hg : keysOf kvs = some ys) (hc : H c = some (.frz od (.dK ks))) : Srv K W ρ H (ys, .free) (Itk c od ks) := by
  unfold keysOf at hg
  obtain ⟨ok, hg⟩ := ite_some hg
  cases hg
  refine ⟨fun H => H c = some (.frz od (.dK ks)), fun i H x H' => H' = H ∧ ∃ k v, ks[i]? = some (k, v) ∧ x = kV k, ?_, fun Z2 ρ2 S2 H2 st m p fz _ => ⟨fz _ _ _ hc, fun i x H3 y => ?_⟩⟩
  · have e : (kvs.map fun p => Bv.X.d p.1, Lk.free).1.length = ks.length := by rw [List.length_map]; exact kv.len
    rw [e]
    exact ⟨fun i _ hi g => ⟨g, hi⟩, fun _ g => ⟨g, Nat.le_refl _⟩, fun _ _ _ _ _ _ y => y⟩
  · obtain ⟨rfl, k, v, hk, rfl⟩ := y
    obtain ⟨q, h1, h2, _⟩ := kv.at_ hk
    refine ⟨Same.rfl', .d q.1, by simp [h1], .d (key_x h2 (List.all_eq_true.mp ok q (List.mem_of_getElem? h1)))⟩
theorem srv_vals {K : PySem.W.Frag} {W : Wd} {ρ : List Addr} {H : Hp} {kvs : List (D × Bv.X)} {ks : List (Key × V)} {ys : List Bv.X} {c : Addr} {od : Obj} (kv : KVR (AX K W ρ H) kvs ks) (hg : valsOf kvs = some ys) (hc : H c = some (.frz od (.dK ks))) : Srv K W ρ H (ys, .free) (Itd c od ks) := by
  unfold valsOf at hg
  obtain ⟨ok, hg⟩ := ite_some hg
  cases hg
  refine ⟨fun H => H c = some (.frz od (.dK ks)), fun i H x H' => H' = H ∧ ∃ k, ks[i]? = some (k, x), ?_, fun Z2 ρ2 S2 H2 st m p fz _ => ⟨fz _ _ _ hc, fun i x H3 y => ?_⟩⟩
  · have e : (kvs.map fun p => p.2, Lk.free).1.length = ks.length := by rw [List.length_map]; exact kv.len
    rw [e]
    exact ⟨fun i _ hi g => ⟨g, hi⟩, fun _ g => ⟨g, Nat.le_refl _⟩, fun _ _ _ _ _ _ y => y⟩
  · obtain ⟨rfl, k, hk⟩ := y
    obtain ⟨q, h1, h2, a⟩ := kv.at_ hk
    exact ⟨Same.rfl', q.2, by simp [h1], a.mv m p⟩
theorem items_at : ∀ {kvs : List (D × Bv.X)} {ys : List Bv.X} {j : Nat} {p : D × Bv.X}, itemsOf kvs = some ys → kvs[j]? = some p → okKey p.1 = true ∧ ∃ v, p.2 = .d v ∧ ys[j]? = some (.d (.tup [p.1, v]))
  | [], _, _, _, _, e => by simp at e
  | (k, .r _) :: r, _, _, _, h, _ => by cases h
  | (k, .d v) :: r, ys, j, p, h, e => by
    unfold itemsOf at h
    obtain ⟨ok, h⟩ := ite_some h
    obtain ⟨l, hl, rfl⟩ := Option.map_eq_some_iff.mp h
    cases j with
    | zero => simp at e; subst e; exact ⟨ok, v, rfl, rfl⟩
    | succ j =>
      obtain ⟨h1, w, h2, h3⟩ := items_at hl (by simpa using e)
      exact ⟨h1, w, h2, by simpa using h3⟩
theorem items_len : ∀ {kvs : List (D × Bv.X)} {ys : List Bv.X}, itemsOf kvs = some ys → ys.length = kvs.length
  | [], _, h => by cases h; rfl
  | (k, .r _) :: r, _, h => by cases h
  | (k, .d v) :: r, ys, h => by
    unfold itemsOf at h
    obtain ⟨ok, h⟩ := ite_some h
    obtain ⟨l, hl, rfl⟩ := Option.map_eq_some_iff.mp h
    simp [items_len hl]
theorem srv_items {K : PySem.W.Frag} {W : Wd} {ρ : List Addr} {H : Hp} {kvs : List (D × Bv.X)} {ks : List (Key × V)} {ys : List Bv.X} {c : Addr} {od : Obj} (kv : KVR (AX K W ρ H) kvs ks) (hg : itemsOf kvs = some ys) (hc : H c = some (.frz od (.dK ks))) : Srv K W ρ H (ys, .free) (Iti c od ks) := by
  refine ⟨fun H => H c = some (.frz od (.dK ks)), fun i H x H' => (Iti c od ks).yld i H x H', ?_, fun Z2 ρ2 S2 H2 st m p fz _ => ⟨fz _ _ _ hc, fun i x H3 y => ?_⟩⟩
  · have e : (ys, Lk.free).1.length = ks.length := by rw [← kv.len]; exact items_len hg
    rw [e]
    exact ⟨fun i _ hi g => ⟨g, hi⟩, fun _ g => ⟨g, Nat.le_refl _⟩, fun _ _ _ _ _ _ y => y⟩
  · obtain ⟨a, k, v, hk, rfl, hn, rfl⟩ := y
    obtain ⟨q, h1, h2, a2⟩ := kv.at_ hk
    obtain ⟨ok, w, e, h3⟩ := items_at hg h1
    have sm : Same H2 (upd H2 a (.tup [kV k, v])) := fun b o z => upd_keep hn b o z
    refine ⟨sm, .d (.tup [q.1, w]), h3, .d (.tup (.inl ⟨st.fresh hn, upd_same⟩) (.cons (key_x h2 ok) (.cons ?_ .nil)))⟩
    have a3 := a2.mv m p
    rw [e] at a3
    cases a3 with
    | d a3 => exact a3.mv (same_mv sm)
section
variable {X : Cx} {Wx : WX} {apos cpos tpos : Pos} {e tg : Expr} {m : M} {elts : List Expr} {kk : Nat}
theorem mi_keys (h : ME X Wx e m) : MI X Wx tg e (i_keys m) := PI.of (pi_keys (pe_fz h)) fun σ H R ⟨Z, ρ, e, S, st, ev, p⟩ => tt_bind (rel := AX X.K) st ev p fun ρ1 H1 v x S1 st1 g1 ev1 a1 p1 => by
  rcases walk_frz srv_keys st1 a1 p1 with ⟨c, od, ks, rfl, hc, r⟩ | ⟨c, ks, rfl, hc, r⟩
  · exact .inl ⟨c, od, rfl, .inl ⟨ks, hc, r⟩⟩
  · exact .inr ⟨c, _, hc, trivial, fun od => ⟨c, od, rfl, .inl ⟨ks, upd_same, r od⟩⟩⟩
theorem mi_vals (h : ME X Wx e m) (hbase : attributeBase e "values" X.env (eval e X.env) = eval e X.env := by rfl) (hline : (apos.endLine == cpos.line) = true := by rfl) : MI X Wx tg (.Call (.Attribute e "values" apos) [] [] cpos) (i_vals m) := PI.of (pi_values (pe_fz h) hbase hline) fun σ H R ⟨Z, ρ, e, S, st, ev, p⟩ => tt_bind (rel := AX X.K) st ev p fun ρ1 H1 v x S1 st1 g1 ev1 a1 p1 => by
  rcases walk_frz srv_vals st1 a1 p1 with ⟨c, od, ks, rfl, hc, r⟩ | ⟨c, ks, rfl, hc, r⟩
  · exact .inl ⟨c, od, ks, rfl, hc, r⟩
  · exact .inr ⟨c, _, hc, trivial, fun od => ⟨c, od, ks, rfl, upd_same, r od⟩⟩
theorem mi_items (h : ME X Wx e m) (hbase : attributeBase e "items" X.env (eval e X.env) = eval e X.env := by rfl) (hline : (apos.endLine == cpos.line) = true := by rfl) : MI X Wx (.Tuple elts kk tpos) (.Call (.Attribute e "items" apos) [] [] cpos) (i_items m) := PI.of (pi_items (pe_fz h) hbase hline) fun σ H R ⟨Z, ρ, e, S, st, ev, p⟩ => tt_bind (rel := AX X.K) st ev p fun ρ1 H1 v x S1 st1 g1 ev1 a1 p1 => by
  rcases walk_frz srv_items st1 a1 p1 with ⟨c, od, ks, rfl, hc, r⟩ | ⟨c, ks, rfl, hc, r⟩
  · exact .inl ⟨c, od, ks, rfl, hc, r⟩
  · exact .inr ⟨c, _, hc, trivial, fun od => ⟨c, od, ks, rfl, upd_same, r od⟩⟩
end
end Bv
set_option Elab.async false
set_option linter.all false
set_option maxRecDepth 100000
set_option maxHeartbeats 4000000
/-! By value: dict comprehensions; what they make stays. -/
namespace Bv
open PySem PySem.Spec L2
open PyProof.Rows hiding St
variable [HasW]
theorem dc_it {J : It} {n : Nat} {G : Hp → Prop} {Y : Nat → Hp → V → Hp → Prop} (w : Walk J n G Y) {g : TG} {tt : TT} {tk tv : TE} {vs : List Nat} {σ : L2.St} {H1 : Hp} {D : Addr} {Qd : Hp → Prop} (Pv : Nat → Hp → Prop) (h0 : Pv 0 (upd H1 D (.dK []))) (hG : ∀ i H, i ≤ n → Pv i H → G H)
    (hs : ∀ i x H H', i < n → Pv i H → Y i H x H' → g x (wipe σ vs) H' fun σ2 H2 => wipe σ2 vs = wipe σ vs ∧ tt σ2 H2 fun b H3 =>
      if b = true then tk σ2 H3 fun y H4 => tv σ2 H4 fun z H5 => ∃ kvs k, y = kV k ∧ H5 D = some (.dK kvs) ∧ kvs.length < sizeLine ∧ Pv (i + 1) (upd H5 D (.dK (putK kvs k z))) else Pv (i + 1) H3) (hd : ∀ H, Pv n H → Qd H) :
    ∃ W : Nat → Nat → Hp → Prop, (∃ m, W 0 m (upd H1 D (.dK []))) ∧ ∀ i m H, W i m H →
      (J.stop i H ∧ Qd H) ∨ (J.go i H ∧ ∃ Nx : Hp → Prop, (∀ H', Nx H' → ∃ m', m' < m ∧ W (i + 1) m' H') ∧ ∀ x H', J.yld i H x H' → g x (wipe σ vs) H' fun σ2 H2 => wipe σ2 vs = wipe σ vs ∧ tt σ2 H2 fun b H3 =>
        if b = true then tk σ2 H3 fun y H4 => tv σ2 H4 fun z H5 => ∃ kvs k, y = kV k ∧ H5 D = some (.dK kvs) ∧ kvs.length < sizeLine ∧ Nx (upd H5 D (.dK (putK kvs k z))) else Nx H3) := by
  refine ⟨fun i m H => m = n - i ∧ i ≤ n ∧ Pv i H, ⟨n, (Nat.sub_zero n).symm, Nat.zero_le _, h0⟩, fun i m H ⟨em, hi, p⟩ => ?_⟩
  subst em
  have q := hG i H hi p
  rcases Nat.lt_or_ge i n with hlt | hge
  · exact .inr ⟨w.goes i H hlt q, Pv (i + 1), fun H' p' => ⟨n - (i + 1), by omega, rfl, hlt, p'⟩, fun x H' y => hs i x H H' hlt p (w.yields i H x H' hlt q y)⟩
  · obtain rfl : i = n := by omega
    exact .inl ⟨w.stops H q, hd H p⟩
/-- one entry more -/
def dcK (acc : List (D × D)) (y z : X) : Option (List (D × D)) := match y, z with
  | .d k, .d v => if k.key?.isSome && (okKey k && decide (acc.length < sizeLine)) then some (putD acc k v) else none
  | _, _ => none
def dcL (t : Tg) (l : Lk) (mt : MG Bool) (mk mv : M) (e : Ev) : List (D × D) → List X → Sto → R (List (D × D))
  | acc, [], S => if l.ok S then .ok acc S else .bad
  | acc, x :: xs, S => if l.ok S then (match t.asg S x e with
    | some e1 => (mt e1 S).ne.bind fun b S1 => if b then (mk e1 S1).ne.bind fun y S2 => (mv e1 S2).ne.bind fun z S3 => (match dcK acc y z with
        | some acc2 => dcL t l mt mk mv e acc2 xs S3
        | none => .bad) else dcL t l mt mk mv e acc xs S1
    | none => .bad) else .bad
def m_dc (t : Tg) (mi : MIt) (mt : MG Bool) (mk mv : M) (vs : List Nat) : M := fun e S => (mi e S).bind fun p S1 => (dcL t p.2 mt mk mv (wipeE e vs) [] p.1 S1).bind fun kvs S2 => .ok (.d (.dic kvs)) S2
section
variable {X : Cx} {Wx : WX} {pos : Pos} {tg iter kx vx c : Expr} {ifs : List Expr} {mi : MIt} {mt : MG Bool} {mk mv : M} {t : Tg} {vs : List Nat}
theorem dc_run (hs : ∀ i ∈ t.slots, i ∈ vs) {σ : L2.St} {H : Hp} {Q : VK} (h : RE X.K Wx (m_dc t mi mt mk mv vs) σ H Q) : tDc (RG (Srv X.K) X.K Wx mi) (TGt X.K t) (RB X.K WX0 mt) (RE X.K WX0 mk) (RE X.K WX0 mv) vs σ H (fun v H1 => Q v H1 ∨ ∃ a u, H1 a = some u ∧ Mut (some u) ∧ ∀ od, Q v (upd H1 a (.frz od u))) := by
  obtain ⟨Z, ρ, e, S, st, ev, p⟩ := h
  refine tt_bind (rel := Srv X.K) st ev p fun ρ1 H1 J p0 S1 st1 g1 ev1 srv p1 => ?_
  obtain ⟨ys, l⟩ := p0
  obtain ⟨G, Y, w, sv⟩ := srv
  intro D0 hD
  let fin : List (D × D) → Sto → R Bv.X := fun kvs S2 => .ok (.d (.dic kvs)) S2
  have p1 : Post X.K Z ρ1 H1 Wx σ Q ((dcL t l mt mk mv (wipeE e vs) [] ys S1).bind fin) := p1
  have sv : ∀ (Z2 : Wd) (ρ2 : List Addr) (S2 : Sto) (H2 : Hp), Sta X.K Z2 ρ2 S2 H2 → Mv (Wn Z ρ1) H1 (Wn Z2 ρ2) H2 → ρ1 <+: ρ2 → (∀ a ob u, H1 a = some (.frz ob u) → H2 a = some (.frz ob u)) → l.ok S2 = true → G H2 ∧
    ∀ i x H3, Y i H2 x H3 → Same H2 H3 ∧ ∃ y, ys[i]? = some y ∧ AX X.K (Wn Z2 ρ2) ρ2 H3 y x := sv
  have w : Walk J ys.length G Y := w
  have evw := ev1.wipe vs
  let Z' : Wd := fun a => Z a ∨ a = D0
  let Pv : Nat → Hp → Prop := fun i H => ∃ (ρ : List Addr) (S : Sto) (acc : List (D × D)) (ks : List (Key × V)), Sta X.K Z' ρ S H ∧ ρ1 <+: ρ ∧ (∀ a o, a ∉ ρ1 → H1 a = some o → a ∉ ρ ∧ H a = some o) ∧ (∀ a ob u, H1 a = some (.frz ob u) → H a = some (.frz ob u)) ∧ H D0 = some (.dK ks) ∧ KVR (AV X.K (Wn Z' ρ) H) acc ks ∧
    EvOk X.K (Wn Z' ρ) ρ H (wipeE e vs) (wipe σ vs) ∧ Post X.K Z ρ1 H1 Wx σ Q ((dcL t l mt mk mv (wipeE e vs) acc (ys.drop i) S).bind fin)
  have mvOf : ∀ {ρ : List Addr} {S : Sto} {H : Hp}, Sta X.K Z' ρ S H → (∀ a o, a ∉ ρ1 → H1 a = some o → a ∉ ρ ∧ H a = some o) → Mv (Wn Z ρ1) H1 (Wn Z' ρ) H := fun {ρ S H} s k a o hn hq => by
    obtain ⟨h2, h3⟩ := k a o (fun z => hn (.inr z)) hq
    refine ⟨fun z => ?_, h3⟩
    rcases z with (z | z) | z
    · exact hn (.inl z)
    · rw [z, hD] at hq; cases hq
    · exact h2 z
  have okOf : ∀ {xs : List Bv.X} {S : Sto} {acc : List (D × D)}, Post X.K Z ρ1 H1 Wx σ Q ((dcL t l mt mk mv (wipeE e vs) acc xs S).bind fin) → l.ok S = true := fun {xs S acc} q => by
    cases z : l.ok S with
    | true => rfl
    | false => cases xs <;> (simp only [dcL, z] at q; exact q.elim)
  refine dc_it w Pv ?_ ?_ ?_ ?_
  · have k := upd_keep (o := .dK []) hD
    have s0 := st1.grow k
    have hnw : ¬ Wn Z ρ1 D0 := st1.fresh hD
    have m0 : Mv (Wn Z ρ1) H1 (Wn Z' ρ1) (upd H1 D0 (.dK [])) := fun a o hn hq => ⟨fun z => by
      rcases z with (z | z) | z
      · exact hn (.inl z)
      · rw [z, hD] at hq; cases hq
      · exact hn (.inr z), k a o hq⟩
    refine ⟨ρ1, S1, [], [], ⟨st1.nd, fun a z => ?_, st1.len, fun n o a e1 e2 => AO.mv m0 (List.prefix_refl _) (fun u q => k _ _ q) (st1.ob n o a e1 e2)⟩, List.prefix_refl _, fun a o hn hq => ⟨hn, k a o hq⟩, fun a _ _ q => k a _ q, upd_same, .nil, evw.mv m0 (List.prefix_refl _), ?_⟩
    · rcases z with z | z
      · exact ⟨(st1.z a z).1, let ⟨o, q⟩ := (st1.z a z).2; ⟨o, k a o q⟩⟩
      · exact ⟨fun z2 => hnw (.inr (by rw [← z]; exact z2)), ⟨_, by rw [z]; exact upd_same⟩⟩
    · rw [List.drop_zero]
      exact p1
  · rintro i H2 _ ⟨ρ2, S2, acc, ks, st2, pr2, k2, f2, d2, a2, ev2, q2⟩
    exact (sv Z' ρ2 S2 H2 st2 (mvOf st2 k2) pr2 f2 (okOf q2)).1
  · rintro i x H2 H3 hi ⟨ρ2, S2, acc, ks, st2, pr2, k2, f2, d2, a2, ev2, q2⟩ hy
    have hk := okOf q2
    obtain ⟨k, y, e3, a⟩ := (sv Z' ρ2 S2 H2 st2 (mvOf st2 k2) pr2 f2 hk).2 i x H3 hy
    have st3 := st2.grow k
    have m23 : Mv (Wn Z' ρ2) H2 (Wn Z' ρ2) H3 := same_mv k
    have ev3 := ev2.mv m23 (List.prefix_refl _)
    rw [drop_get e3] at q2
    simp only [dcL, hk, if_true] at q2
    cases q4 : t.asg S2 y (wipeE e vs) with
    | none => rw [q4] at q2; exact q2.elim
    | some e4 =>
      rw [q4] at q2
      refine ⟨Z', ρ2, wipeE e vs, S2, y, e4, st3, ev3, a, q4, fun σ5 ev5 w5 => ⟨?_, ?_⟩⟩
      · rw [w5 vs hs, wipe_twice]
      have q2 : Post X.K Z ρ1 H1 Wx σ Q (((mt e4 S2).ne.bind fun b S1 => if b then (mk e4 S1).ne.bind fun y S2 => (mv e4 S2).ne.bind fun z S3 => (match dcK acc y z with
          | some acc2 => dcL t l mt mk mv (wipeE e vs) acc2 (ys.drop (i + 1)) S3
          | none => .bad) else dcL t l mt mk mv (wipeE e vs) acc (ys.drop (i + 1)) S1).bind fin) := q2
      cases q5 : (mt e4 S2).ne with
      | err _ _ _ => cases q6 : mt e4 S2 <;> rw [q6] at q5 <;> cases q5
      | bad => rw [q5] at q2; exact q2.elim
      | ok b S6 =>
        rw [q5] at q2
        refine ne_post (rel := relB) st3 ev5 q5 fun ρ6 H6 v st6 g6 ev6 r6 => ?_
        cases (show b = v from r6)
        have nD : D0 ∉ ρ2 := (st2.z D0 (.inr rfl)).1
        obtain ⟨nD6, d6⟩ := g6.keep D0 _ nD (k _ _ d2)
        have k6 : ∀ a o, a ∉ ρ1 → H1 a = some o → a ∉ ρ6 ∧ H6 a = some o := fun a o h1 h2 => by
          obtain ⟨h3, h4⟩ := k2 a o h1 h2
          exact g6.keep a o h3 (k _ _ h4)
        have f6 : ∀ a ob u, H1 a = some (.frz ob u) → H6 a = some (.frz ob u) := fun a ob u q => g6.fz a ob u (k _ _ (f2 a ob u q))
        have m36 := g6.mv st3
        have ev6' : EvOk X.K (Wn Z' ρ6) ρ6 H6 (wipeE e vs) (wipe σ vs) := ev3.mv m36 g6.pre
        have a6 : KVR (AV X.K (Wn Z' ρ6) H6) acc ks := Paired.mapP a2 fun _ _ q => ⟨q.1, (q.2.mv m23).mv m36⟩
        cases b with
        | false =>
          rw [if_neg Bool.false_ne_true]
          exact ⟨ρ6, S6, acc, ks, st6, pr2.trans g6.pre, k6, f6, d6, a6, ev6', q2⟩
        | true =>
          rw [if_pos rfl]
          have q2 : Post X.K Z ρ1 H1 Wx σ Q (((mk e4 S6).ne.bind fun y S2 => (mv e4 S2).ne.bind fun z S3 => (match dcK acc y z with
            | some acc2 => dcL t l mt mk mv (wipeE e vs) acc2 (ys.drop (i + 1)) S3
            | none => .bad)).bind fin) := q2
          cases q7 : (mk e4 S6).ne with
          | err _ _ _ => cases q6 : mk e4 S6 <;> rw [q6] at q7 <;> cases q7
          | bad => rw [q7] at q2; exact q2.elim
          | ok y7 S7 =>
            rw [q7] at q2
            refine ne_post (rel := AX X.K) st6 ev6 q7 fun ρ7 H7 v7 st7 g7 ev7 r7 => ?_
            have q2 : Post X.K Z ρ1 H1 Wx σ Q (((mv e4 S7).ne.bind fun z S3 => (match dcK acc y7 z with
              | some acc2 => dcL t l mt mk mv (wipeE e vs) acc2 (ys.drop (i + 1)) S3
              | none => .bad)).bind fin) := q2
            cases q8 : (mv e4 S7).ne with
            | err _ _ _ => cases q6 : mv e4 S7 <;> rw [q6] at q8 <;> cases q8
            | bad => rw [q8] at q2; exact q2.elim
            | ok z8 S8 =>
              rw [q8] at q2
              refine ne_post (rel := AX X.K) st7 ev7 q8 fun ρ8 H8 v8 st8 g8 ev8 r8 => ?_
              have q2 : Post X.K Z ρ1 H1 Wx σ Q ((match dcK acc y7 z8 with
                | some acc2 => dcL t l mt mk mv (wipeE e vs) acc2 (ys.drop (i + 1)) S8
                | none => .bad).bind fin) := q2
              cases q9 : dcK acc y7 z8 with
              | none => rw [q9] at q2; exact q2.elim
              | some acc2 =>
                rw [q9] at q2
                have r7' := r7.mv (g8.mv st7) g8.pre
                match y7, z8, r7', r8, q9 with
                | .r _, _, _, _, q9 => cases q9
                | .d _, .r _, _, _, q9 => cases q9
                | .d kk, .d vv, .d ak, .d av, q9 =>
                  have q9 : (if kk.key?.isSome && (okKey kk && decide (acc.length < sizeLine)) then some (putD acc kk vv) else none) = some acc2 := q9
                  obtain ⟨c0, q9⟩ := ite_some q9
                  cases q9
                  obtain ⟨c1, c2⟩ := Bool.and_eq_true_iff.mp c0
                  obtain ⟨_, c3⟩ := Bool.and_eq_true_iff.mp c2
                  obtain ⟨qk, hqk⟩ := Option.isSome_iff_exists.mp c1
                  have hv7 := key_av hqk ak
                  obtain ⟨nD7, d7⟩ := g7.keep D0 _ nD6 d6
                  obtain ⟨nD8, d8⟩ := g8.keep D0 _ nD7 d7
                  have m68 := fun a o h1 h2 => let ⟨h3, h4⟩ := (g7.mv st6) a o h1 h2; (g8.mv st7) a o h3 h4
                  have a8 : KVR (AV X.K (Wn Z' ρ8) H8) acc ks := Paired.mapP a6 fun _ _ q => ⟨q.1, (q.2.mv (g7.mv st6)).mv (g8.mv st7)⟩
                  have k8 : ∀ a o, a ∉ ρ1 → H1 a = some o → a ∉ ρ8 ∧ H8 a = some o := fun a o h1 h2 => by
                    obtain ⟨h3, h4⟩ := k6 a o h1 h2
                    obtain ⟨h5, h6⟩ := g7.keep a o h3 h4
                    exact g8.keep a o h5 h6
                  have wD : Wn Z' ρ8 D0 := .inl (.inr rfl)
                  have m9 : Mv (Wn Z' ρ8) H8 (Wn Z' ρ8) (upd H8 D0 (.dK (putK ks qk v8))) := fun a o hn hq => ⟨hn, by rw [upd_ne (fun z => hn (by rw [z]; exact wD))]; exact hq⟩
                  have neD : ∀ b, b ∈ ρ8 → b ≠ D0 := fun b hb z => nD8 (by rw [← z]; exact hb)
                  have kv9 : KVR (AV X.K (Wn Z' ρ8) (upd H8 D0 (.dK (putK ks qk v8)))) (putD acc kk vv) (putK ks qk v8) := Paired.mapP (KVR.put hqk av a8) fun _ _ q => ⟨q.1, q.2.mv m9⟩
                  refine ⟨ks, qk, hv7, d8, by rw [← a8.len]; exact of_decide_eq_true c3, ρ8, S8, putD acc kk vv, putK ks qk v8, ⟨st8.nd, fun a z => ⟨(st8.z a z).1, ?_⟩, st8.len, fun n o a e1 e2 => AO.mv m9 (List.prefix_refl _) (fun u q => by rw [upd_ne (neD a (List.mem_of_getElem? e2))]; exact q) (st8.ob n o a e1 e2)⟩, ((pr2.trans g6.pre).trans g7.pre).trans g8.pre, fun a o h1 h2 => ?_, fun a ob u q => by rw [upd_ne (fun z => by rw [z, hD] at q; cases q)]; exact g8.fz a ob u (g7.fz a ob u (f6 a ob u q)), upd_same, kv9, ((ev6'.mv (g7.mv st6) g7.pre).mv (g8.mv st7) g8.pre).mv m9 (List.prefix_refl _), q2⟩
                  · by_cases hz : a = D0
                    · exact ⟨_, by rw [hz]; exact upd_same⟩
                    · obtain ⟨o, q⟩ := (st8.z a z).2
                      exact ⟨o, by rw [upd_ne hz]; exact q⟩
                  · obtain ⟨h3, h4⟩ := k8 a o h1 h2
                    exact ⟨h3, by rw [upd_ne (fun z => by rw [z, hD] at h2; cases h2)]; exact h4⟩
  · rintro H2 ⟨ρ2, S2, acc, ks, st2, pr2, k2, f2, d2, a2, ev2, q2⟩
    have hk := okOf q2
    rw [List.drop_length] at q2
    simp only [dcL, hk, if_true] at q2
    have q2 : Post X.K Z ρ1 H1 Wx σ Q (.ok (.d (.dic acc)) S2) := q2
    refine .inr ⟨D0, _, d2, trivial, fun od => ?_⟩
    have nD : D0 ∉ ρ2 := (st2.z D0 (.inr rfl)).1
    have nZ : ¬ Wn Z ρ2 D0 := fun z => z.elim (fun z => st1.fresh hD (.inl z)) nD
    have m : Mv (Wn Z' ρ2) H2 (Wn Z ρ2) (upd H2 D0 (.frz od (.dK ks))) := fun a o hn hq => ⟨fun z => hn (z.elim (fun z => .inl (.inl z)) .inr), by rw [upd_ne (fun z => hn (.inl (.inr z)))]; exact hq⟩
    have neD : ∀ b, b ∈ ρ2 → b ≠ D0 := fun b hb z => nD (by rw [← z]; exact hb)
    refine q2 ρ2 _ (.ref D0) ⟨st2.nd, fun a z => ⟨(st2.z a (.inl z)).1, ?_⟩, st2.len, fun n o a e1 e2 => AO.mv m (List.prefix_refl _) (fun u q => by rw [upd_ne (neD a (List.mem_of_getElem? e2))]; exact q) (st2.ob n o a e1 e2)⟩ ⟨pr2, fun a o h1 h2 => ?_, fun a ob u q => ?_⟩ (.d (.dic nZ upd_same (KVR.avk (Paired.mapP a2 fun _ _ q => ⟨q.1, q.2.mv m⟩))))
    · by_cases hz : a = D0
      · exact ⟨_, by rw [hz]; exact upd_same⟩
      · obtain ⟨o, q⟩ := (st2.z a (.inl z)).2
        exact ⟨o, by rw [upd_ne hz]; exact q⟩
    · obtain ⟨h3, h4⟩ := k2 a o h1 h2
      exact ⟨h3, by rw [upd_ne (fun z => by rw [z, hD] at h2; cases h2)]; exact h4⟩
    · rw [upd_ne (fun z => by rw [z, hD] at q; cases q)]; exact f2 a ob u q
end
end Bv
set_option Elab.async false
set_option linter.all false
set_option maxRecDepth 100000
set_option maxHeartbeats 4000000
/-! By value: dict comprehensions, as expressions and given to a name. -/
namespace Bv
open PySem PySem.Spec L2
open PyProof.Rows hiding St
section
variable {X : Cx}
theorem ps_setDc {i : Nat} {y : Str} {py : Pos} {kx vx tg iter : Expr} {ifs : List Expr} {scope : Scope} {own : List (Str × Nat)} {pos spos : Pos} {wi : TI} {g : TG} {tt : TT} {tk tv : TE} (hc : X.calm = true) (hN : X.N.Nodup) (hy : X.N[i]? = some y) (hyl : X.env.scope.names.lookup y = some .local)
    (hsw : swapsWith (.DictComp kx vx [⟨tg, iter, ifs, 0⟩] scope pos) (some (.Name y py)) spos.line X.env = pure true) (hi : PI X tg iter wi) (ok : BlkOk X.N X.env.scope scope own)
    (hg : ∀ (s : Shared) (H : Hp) (C : Addr) (cl : List (Str × Addr)) (fp : List Addr), PG (X.blk s H scope (compEnvC scope cl C X.env) fp) tg g) (ht : ∀ (s : Shared) (H : Hp) (C : Addr) (cl : List (Str × Addr)) (fp : List Addr), PTs (X.blk s H scope (compEnvC scope cl C X.env) fp) ifs tt)
    (hk : ∀ (s : Shared) (H : Hp) (C : Addr) (cl : List (Str × Addr)) (fp : List Addr), PE (X.blk s H scope (compEnvC scope cl C X.env) fp) kx tk) (he : ∀ (s : Shared) (H : Hp) (C : Addr) (cl : List (Str × Addr)) (fp : List Addr), PE (X.blk s H scope (compEnvC scope cl C X.env) fp) vx tv)
    (hs : ∀ x, foldedSetIterable iter X.env x = pure x := by intro _; rfl) : PS X (.Assign [.Name y py] (.DictComp kx vx [⟨tg, iter, ifs, 0⟩] scope pos) spos) (tAsg (tFz (tDc wi g tt tk tv (own.map (·.2)))) (gName i)) := by
  refine ⟨fun pins s σ H D I h => ?_⟩
  rw [exec_Assign_Name_used _ _ _ _ hsw]
  refine wpAny_bind (wpAny_standAt (wpAny_bind ?_))
  show wpAny _ X.A (do let _ ← comprehension (.DictComp kx vx [⟨tg, iter, ifs, 0⟩] scope pos) scope X.env (firstIterPos [⟨tg, iter, ifs, 0⟩] pos) newDict false (eval iter X.env) (some (assign (.Name y py) X.env))) _ _ s
  have h : tDc wi g tt tk tv (own.map (·.2)) σ H (fun v H1 => gName i v σ H1 D.nx ∨ ∃ a u, H1 a = some u ∧ Mut (some u) ∧ ∀ od, gName i v σ (upd H1 a (.frz od u)) D.nx) := h
  refine wpAny_bind (thn (dc_core (Qf := fun _ s' => SP X pins D .next s') hc hN I hi ok hg ht hk he hs h fun L C s' m H' I' q hn f => ?_) fun _ s' hq => wpAny_pure (wpAny_pure hq))
  show wpAny _ _ (assign (.Name y py) X.env (.ref L)) _ _ _
  refine wpAny_assign_Name (store_ok2 (v := V.ref L) I' hN hy (.inl hyl) rfl (fun s2 I2 ⟨a, sb, ha⟩ => ?_) (.inr hyl))
  obtain ⟨f0, f1, f2, f3, f4, f5⟩ := f
  have away : C ≠ a := ha.elim (fun z => by rw [z]; exact f1) fun z e => f4 y a z e.symm
  refine ⟨m, hn.sameBut sb away, fun h3 sb3 => ?_⟩
  have J := I2.turned (t' := s2.toks) (fun b o hb e => (sb3.2 b hb).trans e) f0 f1 f3 f4 f5
  rcases q with q | ⟨b, u, hb, mu, q⟩
  · exact ⟨_, H', J, q⟩
  · obtain ⟨od, J2⟩ := J.lock hb mu
    exact ⟨_, _, J2, q od⟩
theorem sw_dict {kx vx : Expr} {gs : List Comprehension} {scope : Scope} {pos py : Pos} {y : Str} {l : Nat} {env : Env} (hk : env.scope.kind = .function) (hy : env.scope.names.lookup y = some .local) (hl : (py.line == pos.line) = true)
    (ha : (scope.names.any fun (n, k) => n == y && (k == .local || k == .cell)) = false) : swapsWith (.DictComp kx vx gs scope pos) (some (.Name y py)) l env = pure true := by
  have ky : env.kindOf y = some .local := hy
  have hb : env.blockKind = .function := by unfold Env.blockKind; rw [hk]; rfl
  unfold swapsWith
  simp only [hb, ky, ha, Expr.pos, hl]
  rfl
end
variable [HasW]
section
variable {X : Cx} {Wx : WX} {pos : Pos} {tg iter kx vx c : Expr} {ifs : List Expr} {mi : MIt} {mt : MG Bool} {mk mv : M} {t : Tg} {vs : List Nat}
theorem me_dc {scope : Scope} {own : List (Str × Nat)} (hc : X.calm = true) (hN : X.N.Nodup) (hi : MI X Wx tg iter mi) (ok : BlkOk X.N X.env.scope scope own) (hsl : ∀ i ∈ t.slots, i ∈ own.map (·.2))
    (hg : ∀ (s : Shared) (H : Hp) (C : Addr) (cl : List (Str × Addr)) (fp : List Addr), PG (X.blk s H scope (compEnvC scope cl C X.env) fp) tg (TGt X.K t)) (ht : ∀ (s : Shared) (H : Hp) (C : Addr) (cl : List (Str × Addr)) (fp : List Addr), MTs (X.blk s H scope (compEnvC scope cl C X.env) fp) WX0 ifs mt)
    (hk : ∀ (s : Shared) (H : Hp) (C : Addr) (cl : List (Str × Addr)) (fp : List Addr), ME (X.blk s H scope (compEnvC scope cl C X.env) fp) WX0 kx mk) (he : ∀ (s : Shared) (H : Hp) (C : Addr) (cl : List (Str × Addr)) (fp : List Addr), ME (X.blk s H scope (compEnvC scope cl C X.env) fp) WX0 vx mv)
    (hs : ∀ x, foldedSetIterable iter X.env x = pure x := by intro _; rfl) : ME X Wx (.DictComp kx vx [⟨tg, iter, ifs, 0⟩] scope pos) (m_dc t mi mt mk mv (own.map (·.2))) := PE.of (pe_fz (pe_dc hc hN hi ok hg ht hk he hs)) fun _ _ _ h => dc_run hsl h
theorem mp_setDc {i : Nat} {y : Str} {py spos : Pos} {scope : Scope} {own : List (Str × Nat)} (hc : X.calm = true) (hN : X.N.Nodup) (hy : X.N[i]? = some y) (hyl : X.env.scope.names.lookup y = some .local)
    (hsw : swapsWith (.DictComp kx vx [⟨tg, iter, ifs, 0⟩] scope pos) (some (.Name y py)) spos.line X.env = pure true) (hi : MI X Wx tg iter mi) (ok : BlkOk X.N X.env.scope scope own) (hsl : ∀ i ∈ t.slots, i ∈ own.map (·.2))
    (hg : ∀ (s : Shared) (H : Hp) (C : Addr) (cl : List (Str × Addr)) (fp : List Addr), PG (X.blk s H scope (compEnvC scope cl C X.env) fp) tg (TGt X.K t)) (ht : ∀ (s : Shared) (H : Hp) (C : Addr) (cl : List (Str × Addr)) (fp : List Addr), MTs (X.blk s H scope (compEnvC scope cl C X.env) fp) WX0 ifs mt)
    (hk : ∀ (s : Shared) (H : Hp) (C : Addr) (cl : List (Str × Addr)) (fp : List Addr), ME (X.blk s H scope (compEnvC scope cl C X.env) fp) WX0 kx mk) (he : ∀ (s : Shared) (H : Hp) (C : Addr) (cl : List (Str × Addr)) (fp : List Addr), ME (X.blk s H scope (compEnvC scope cl C X.env) fp) WX0 vx mv)
    (hs : ∀ x, foldedSetIterable iter X.env x = pure x := by intro _; rfl) : MP X Wx (.Assign [.Name y py] (.DictComp kx vx [⟨tg, iter, ifs, 0⟩] scope pos) spos) (s_set i (m_dc t mi mt mk mv (own.map (·.2)))) := PS.of (ps_setDc hc hN hy hyl hsw hi ok hg ht hk he hs) fun D σ H ⟨Z, ρ, e, S, st, ev, p⟩ => by
  refine dc_run (mt := mt) (mk := mk) (mv := mv) (t := t) (Q := fun v H1 => gName i v σ H1 D.nx) hsl ?_
  exact so_bind (rel := AX X.K) st ev p fun ρ1 H1 v x S1 st1 g1 ev1 a1 p1 => p1.next st1 (ev1.set a1)
end
end Bv
set_option Elab.async false
set_option linter.all false
set_option maxRecDepth 100000
set_option maxHeartbeats 4000000
/-! By value: list comprehensions with two fors. -/
namespace Bv
open PySem PySem.Spec L2
open PyProof.Rows hiding St
variable [HasW]
/-- a walk whose items are put behind a list that stands; the state is told from the start of this walk on -/
theorem lc_in {K : PySem.W.Frag} {Z : Wd} {ρb : List Addr} {Hb : Hp} {Sb : Sto} {D0 : Addr} {t : Tg} {l : Lk} {mt : MG Bool} {me : M} {vs : List Nat} {e e' : Ev} {σ σ' : L2.St} {ys : List Bv.X} {J : It} {G : Hp → Prop} {Y : Nat → Hp → V → Hp → Prop} {Pq : R Bv.X → Prop} {k : List D → Sto → R Bv.X} {acc0 : List D} {xs0 : List V} {Nx : Hp → Prop}
    (hs : ∀ i ∈ t.slots, i ∈ vs) (w : Walk J ys.length G Y)
    (sv : ∀ (Z2 : Wd) (ρ2 : List Addr) (S2 : Sto) (H2 : Hp), Sta K Z2 ρ2 S2 H2 → Mv (Wn (fun a => Z a ∨ a = D0) ρb) Hb (Wn Z2 ρ2) H2 → ρb <+: ρ2 → (∀ a ob u, Hb a = some (.frz ob u) → H2 a = some (.frz ob u)) → l.ok S2 = true → G H2 ∧ ∀ i x H3, Y i H2 x H3 → Same H2 H3 ∧ ∃ y, ys[i]? = some y ∧ AX K (Wn Z2 ρ2) ρ2 H3 y x)
    (hbad : ¬ Pq .bad) (hlen : ∀ acc S, Pq (k acc S) → acc.length ≤ sizeLine)
    (st : Sta K (fun a => Z a ∨ a = D0) ρb Sb Hb) (d0 : Hb D0 = some (.lst xs0)) (a0 : AVs K (Wn (fun a => Z a ∨ a = D0) ρb) Hb acc0 xs0) (ev : EvOk K (Wn (fun a => Z a ∨ a = D0) ρb) ρb Hb (wipeE e vs) (wipe σ vs)) (ev' : EvOk K (Wn (fun a => Z a ∨ a = D0) ρb) ρb Hb e' σ')
    (p : Pq ((lcL t l mt me (wipeE e vs) ys Sb).bind fun ds S' => k (acc0 ++ ds) S'))
    (fin : ∀ (ρ : List Addr) (S : Sto) (H : Hp) (acc : List D) (xs : List V), Sta K (fun a => Z a ∨ a = D0) ρ S H → ρb <+: ρ → (∀ a o, a ∉ ρb → a ≠ D0 → Hb a = some o → a ∉ ρ ∧ H a = some o) → (∀ a ob u, Hb a = some (.frz ob u) → H a = some (.frz ob u)) → H D0 = some (.lst xs) → AVs K (Wn (fun a => Z a ∨ a = D0) ρ) H acc xs → EvOk K (Wn (fun a => Z a ∨ a = D0) ρ) ρ H e' σ' → Pq (k acc S) → Nx H) :
    ∃ W : Nat → Nat → Hp → Prop, (∃ m, W 0 m Hb) ∧ ∀ i m H, W i m H →
      (J.stop i H ∧ Nx H) ∨ (J.go i H ∧ ∃ Nx1 : Hp → Prop, (∀ H', Nx1 H' → ∃ m', m' < m ∧ W (i + 1) m' H') ∧ ∀ x H', J.yld i H x H' → (TGt K t) x (wipe σ vs) H' fun σ2 H2 => wipe σ2 vs = wipe σ vs ∧ (RB K WX0 mt) σ2 H2 fun b H3 =>
        if b = true then (RE K WX0 me) σ2 H3 fun y H4 => ∃ acc, H4 D0 = some (.lst acc) ∧ acc.length < sizeLine ∧ Nx1 (upd H4 D0 (.lst (acc ++ [y]))) else Nx1 H3) := by
  let Z' : Wd := fun a => Z a ∨ a = D0
  have nDb : D0 ∉ ρb := (st.z D0 (.inr rfl)).1
  let Pv : Nat → Hp → Prop := fun i H => ∃ (ρ : List Addr) (S : Sto) (acc : List D) (xs : List V), Sta K Z' ρ S H ∧ ρb <+: ρ ∧ (∀ a o, a ∉ ρb → a ≠ D0 → Hb a = some o → a ∉ ρ ∧ H a = some o) ∧ (∀ a ob u, Hb a = some (.frz ob u) → H a = some (.frz ob u)) ∧ H D0 = some (.lst xs) ∧ AVs K (Wn Z' ρ) H acc xs ∧
    EvOk K (Wn Z' ρ) ρ H (wipeE e vs) (wipe σ vs) ∧ EvOk K (Wn Z' ρ) ρ H e' σ' ∧ Pq ((lcL t l mt me (wipeE e vs) (ys.drop i) S).bind fun ds S' => k (acc ++ ds) S')
  have mvOf : ∀ {ρ : List Addr} {S : Sto} {H : Hp}, Sta K Z' ρ S H → (∀ a o, a ∉ ρb → a ≠ D0 → Hb a = some o → a ∉ ρ ∧ H a = some o) → Mv (Wn Z' ρb) Hb (Wn Z' ρ) H := fun {ρ S H} s kp a o hn hq => by
    obtain ⟨h2, h3⟩ := kp a o (fun z => hn (.inr z)) (fun z => hn (.inl (.inr z))) hq
    exact ⟨fun z => z.elim (fun z => hn (.inl z)) h2, h3⟩
  have okOf : ∀ {xs : List Bv.X} {S : Sto} {acc : List D}, Pq ((lcL t l mt me (wipeE e vs) xs S).bind fun ds S' => k (acc ++ ds) S') → l.ok S = true := fun {xs S acc} q => by
    cases z : l.ok S with
    | true => rfl
    | false => cases xs <;> (simp only [lcL, z] at q; exact (hbad q).elim)
  refine ⟨fun i m H => m = ys.length - i ∧ i ≤ ys.length ∧ Pv i H, ⟨ys.length, (Nat.sub_zero _).symm, Nat.zero_le _, ρb, Sb, acc0, xs0, st, List.prefix_refl _, fun a o h _ q => ⟨h, q⟩, fun _ _ _ q => q, d0, a0, ev, ev', by rw [List.drop_zero]; exact p⟩, fun i m H2 ⟨em, hi, ρ2, S2, acc, xs, st2, pr2, k2, f2, d2, a2, ev2, ev2', q2⟩ => ?_⟩
  subst em
  have hk := okOf q2
  have gG := (sv Z' ρ2 S2 H2 st2 (mvOf st2 k2) pr2 f2 hk).1
  rcases Nat.lt_or_ge i ys.length with hlt | hge
  case inr =>
    obtain rfl : i = ys.length := by omega
    rw [List.drop_length] at q2
    simp only [lcL, hk, if_true] at q2
    have q2 : Pq (k (acc ++ []) S2) := q2
    rw [List.append_nil] at q2
    exact .inl ⟨w.stops H2 gG, fin ρ2 S2 H2 acc xs st2 pr2 k2 f2 d2 a2 ev2' q2⟩
  case inl =>
    refine .inr ⟨w.goes i H2 hlt gG, Pv (i + 1), fun H' p' => ⟨ys.length - (i + 1), by omega, rfl, hlt, p'⟩, fun x H3 hy => ?_⟩
    obtain ⟨kk, y, e3, a⟩ := (sv Z' ρ2 S2 H2 st2 (mvOf st2 k2) pr2 f2 hk).2 i x H3 (w.yields i H2 x H3 hlt gG hy)
    have st3 := st2.grow kk
    have m23 : Mv (Wn Z' ρ2) H2 (Wn Z' ρ2) H3 := same_mv kk
    have ev3 := ev2.mv m23 (List.prefix_refl _)
    have ev3' := ev2'.mv m23 (List.prefix_refl _)
    rw [drop_get e3] at q2
    simp only [lcL, hk, if_true] at q2
    cases q4 : t.asg S2 y (wipeE e vs) with
    | none => rw [q4] at q2; exact (hbad q2).elim
    | some e4 =>
      rw [q4] at q2
      refine ⟨Z', ρ2, wipeE e vs, S2, y, e4, st3, ev3, a, q4, fun σ5 ev5 w5 => ⟨?_, ?_⟩⟩
      · rw [w5 vs hs, wipe_twice]
      have q2 : Pq (((mt e4 S2).ne.bind fun b S1 => if b then (me e4 S1).ne.bind fun y S2 => (match y with
          | .d d => (lcL t l mt me (wipeE e vs) (ys.drop (i + 1)) S2).bind fun ds S3 => .ok (d :: ds) S3
          | .r _ => .bad) else lcL t l mt me (wipeE e vs) (ys.drop (i + 1)) S1).bind fun ds S' => k (acc ++ ds) S') := q2
      cases q5 : (mt e4 S2).ne with
      | err _ _ _ => cases q6 : mt e4 S2 <;> rw [q6] at q5 <;> cases q5
      | bad => rw [q5] at q2; exact (hbad q2).elim
      | ok b S6 =>
        rw [q5] at q2
        refine ne_post (rel := relB) st3 ev5 q5 fun ρ6 H6 v st6 g6 ev6 r6 => ?_
        cases (show b = v from r6)
        have nD : D0 ∉ ρ2 := (st2.z D0 (.inr rfl)).1
        obtain ⟨nD6, d6⟩ := g6.keep D0 _ nD (kk _ _ d2)
        have k6 : ∀ a o, a ∉ ρb → a ≠ D0 → Hb a = some o → a ∉ ρ6 ∧ H6 a = some o := fun a o h1 h2 h3 => by
          obtain ⟨h4, h5⟩ := k2 a o h1 h2 h3
          exact g6.keep a o h4 (kk _ _ h5)
        have f6 : ∀ a ob u, Hb a = some (.frz ob u) → H6 a = some (.frz ob u) := fun a ob u q => g6.fz a ob u (kk _ _ (f2 a ob u q))
        have m36 := g6.mv st3
        have evA := ev3.mv m36 g6.pre
        have evB := ev3'.mv m36 g6.pre
        have a6 := (a2.mv m23).mv m36
        cases b with
        | false =>
          rw [if_neg Bool.false_ne_true]
          exact ⟨ρ6, S6, acc, xs, st6, pr2.trans g6.pre, k6, f6, d6, a6, evA, evB, q2⟩
        | true =>
          rw [if_pos rfl]
          have q2 : Pq (((me e4 S6).ne.bind fun y S2 => (match y with
            | .d d => (lcL t l mt me (wipeE e vs) (ys.drop (i + 1)) S2).bind fun ds S3 => .ok (d :: ds) S3
            | .r _ => .bad)).bind fun ds S' => k (acc ++ ds) S') := q2
          cases q7 : (me e4 S6).ne with
          | err _ _ _ => cases q6 : me e4 S6 <;> rw [q6] at q7 <;> cases q7
          | bad => rw [q7] at q2; exact (hbad q2).elim
          | ok z S7 =>
            rw [q7] at q2
            refine ne_post (rel := AX K) st6 ev6 q7 fun ρ7 H7 v st7 g7 ev7 r7 => ?_
            cases z with
            | r _ => exact (hbad q2).elim
            | d d =>
              have q2 : Pq (((lcL t l mt me (wipeE e vs) (ys.drop (i + 1)) S7).bind fun ds S3 => .ok (d :: ds) S3).bind fun ds S' => k (acc ++ ds) S') := q2
              rw [R.bind_assoc] at q2
              obtain ⟨nD7, d7⟩ := g7.keep D0 _ nD6 d6
              have m67 := g7.mv st6
              have a7 := a6.mv m67
              have k7 : ∀ a o, a ∉ ρb → a ≠ D0 → Hb a = some o → a ∉ ρ7 ∧ H7 a = some o := fun a o h1 h2 h3 => by
                obtain ⟨h4, h5⟩ := k6 a o h1 h2 h3
                exact g7.keep a o h4 h5
              have fzD : ∀ ob u, Hb D0 ≠ some (.frz ob u) := fun ob u z => by rw [d0] at z; cases z
              cases r7 with
              | d r7 =>
                have hacc : acc.length < sizeLine := by
                  cases q8 : lcL t l mt me (wipeE e vs) (ys.drop (i + 1)) S7 with
                  | bad => rw [q8] at q2; exact (hbad q2).elim
                  | err C fs S8 => exact absurd q8 lcL_err
                  | ok ds S8 =>
                    rw [q8] at q2
                    have hl := hlen _ _ (show Pq (k (acc ++ (d :: ds)) S8) from q2)
                    rw [List.length_append, List.length_cons] at hl
                    omega
                have wD : Wn Z' ρ7 D0 := .inl (.inr rfl)
                have m8 : Mv (Wn Z' ρ7) H7 (Wn Z' ρ7) (upd H7 D0 (.lst (xs ++ [v]))) := fun a o hn hq => ⟨hn, by rw [upd_ne (fun z => hn (by rw [z]; exact wD))]; exact hq⟩
                have neD : ∀ b, b ∈ ρ7 → b ≠ D0 := fun b hb z => nD7 (by rw [← z]; exact hb)
                refine ⟨xs, d7, by rw [← a7.length]; exact hacc, ρ7, S7, acc ++ [d], xs ++ [v], ⟨st7.nd, fun a z => ⟨(st7.z a z).1, ?_⟩, st7.len, fun n o a e1 e2 => AO.mv m8 (List.prefix_refl _) (fun u q => by rw [upd_ne (neD a (List.mem_of_getElem? e2))]; exact q) (st7.ob n o a e1 e2)⟩, (pr2.trans g6.pre).trans g7.pre, fun a o h1 h2 h3 => ?_, fun a ob u q => by rw [upd_ne (fun z => fzD ob u (by rw [← z]; exact q))]; exact g7.fz a ob u (f6 a ob u q), upd_same, (a7.append (.cons r7 .nil)).mv m8, (evA.mv m67 g7.pre).mv m8 (List.prefix_refl _), (evB.mv m67 g7.pre).mv m8 (List.prefix_refl _), ?_⟩
                · by_cases hz : a = D0
                  · exact ⟨_, by rw [hz]; exact upd_same⟩
                  · obtain ⟨o, q⟩ := (st7.z a z).2
                    exact ⟨o, by rw [upd_ne hz]; exact q⟩
                · obtain ⟨h4, h5⟩ := k7 a o h1 h2 h3
                  exact ⟨h4, by rw [upd_ne h2]; exact h5⟩
                · have e9 : (fun (ds : List D) (S' : Sto) => k (acc ++ [d] ++ ds) S') = fun ds S' => k (acc ++ (d :: ds)) S' := by
                    funext ds S'
                    rw [List.append_assoc]; rfl
                  show Pq ((lcL t l mt me (wipeE e vs) (ys.drop (i + 1)) S7).bind fun ds S' => k (acc ++ [d] ++ ds) S')
                  rw [e9]
                  exact q2
end Bv
set_option Elab.async false
set_option linter.all false
set_option maxRecDepth 100000
set_option maxHeartbeats 4000000
/-! By value: [e for .. in .. for .. in ..]. -/
namespace Bv
open PySem PySem.Spec L2
open PyProof.Rows hiding St
variable [HasW]
def lc2L (t : Tg) (l : Lk) (mt : MG Bool) (t1 : Tg) (mi1 : MIt) (mt1 : MG Bool) (me : M) (e : Ev) (vs1 : List Nat) : List Bv.X → Sto → R (List D)
  | [], S => if l.ok S then .ok [] S else .bad
  | x :: xs, S => if l.ok S then (match t.asg S x e with
    | some e1 => (mt e1 S).ne.bind fun b S1 => if b then (mi1 e1 S1).ne.bind fun p S2 => (lcL t1 p.2 mt1 me (wipeE e1 vs1) p.1 S2).bind fun ds S3 => (lc2L t l mt t1 mi1 mt1 me e vs1 xs S3).bind fun ds2 S4 => .ok (ds ++ ds2) S4 else lc2L t l mt t1 mi1 mt1 me e vs1 xs S1
    | none => .bad) else .bad
def m_lc2 (t : Tg) (mi : MIt) (mt : MG Bool) (t1 : Tg) (mi1 : MIt) (mt1 : MG Bool) (me : M) (vs vs1 : List Nat) : M := fun e S => (mi e S).bind fun p S1 => (lc2L t p.2 mt t1 mi1 mt1 me (wipeE e vs) vs1 p.1 S1).bind finL
theorem ne_err {α : Type} {r : R α} {C fs S} : r.ne ≠ .err C fs S := fun h => by cases r <;> cases h
theorem bind_err {α β : Type} {r : R α} {f : α → Sto → R β} {C fs S} (h : r.bind f = .err C fs S) : r = .err C fs S ∨ ∃ a S1, f a S1 = .err C fs S := by
  cases r with
  | ok a S1 => exact .inr ⟨a, S1, h⟩
  | err _ _ _ => cases h; exact .inl rfl
  | bad => cases h
section
variable {t t1 : Tg} {l : Lk} {mt mt1 : MG Bool} {mi1 : MIt} {me : M} {e : Ev} {vs1 : List Nat}
theorem lc2L_err : ∀ {xs : List Bv.X} {S : Sto} {C fs S'}, lc2L t l mt t1 mi1 mt1 me e vs1 xs S ≠ .err C fs S'
  | [], S, C, fs, S', h => by
    simp only [lc2L] at h
    split at h <;> cases h
  | x :: xs, S, C, fs, S', h => by
    simp only [lc2L] at h
    split at h
    · split at h
      · rcases bind_err h with h | ⟨b, S1, h⟩
        · exact ne_err h
        · split at h
          · rcases bind_err h with h | ⟨p, S2, h⟩
            · exact ne_err h
            · rcases bind_err h with h | ⟨ds, S3, h⟩
              · exact lcL_err h
              · rcases bind_err h with h | ⟨ds2, S4, h⟩
                · exact lc2L_err h
                · cases h
          · exact lc2L_err h
      · cases h
    · cases h
end
section
variable {X : Cx} {Wx : WX} {pos : Pos} {tg iter tg1 iter1 elt c : Expr} {ifs ifs1 : List Expr} {mi mi1 : MIt} {mt mt1 : MG Bool} {me : M} {t t1 : Tg} {vs vs1 : List Nat}
theorem lc2_run (hs : ∀ i ∈ t.slots, i ∈ vs) (hs1 : ∀ i ∈ t1.slots, i ∈ vs1) {σ : L2.St} {H : Hp} {Q : VK} (h : RE X.K Wx (m_lc2 t mi mt t1 mi1 mt1 me vs vs1) σ H Q) : tLc2 (RG (Srv X.K) X.K Wx mi) (TGt X.K t) (RB X.K WX0 mt) (RG (Srv X.K) X.K WX0 mi1) (TGt X.K t1) (RB X.K WX0 mt1) (RE X.K WX0 me) vs vs1 σ H Q := by
  obtain ⟨Z, ρ, e, S, st, ev, p⟩ := h
  refine tt_bind (rel := Srv X.K) st ev p fun ρ1 H1 J p0 S1 st1 g1 ev1 srv p1 => ?_
  obtain ⟨ys, l⟩ := p0
  obtain ⟨G, Y, w, sv⟩ := srv
  intro D0 hD
  have p1 : Post X.K Z ρ1 H1 Wx σ Q ((lc2L t l mt t1 mi1 mt1 me (wipeE e vs) vs1 ys S1).bind finL) := p1
  have sv : ∀ (Z2 : Wd) (ρ2 : List Addr) (S2 : Sto) (H2 : Hp), Sta X.K Z2 ρ2 S2 H2 → Mv (Wn Z ρ1) H1 (Wn Z2 ρ2) H2 → ρ1 <+: ρ2 → (∀ a ob u, H1 a = some (.frz ob u) → H2 a = some (.frz ob u)) → l.ok S2 = true → G H2 ∧
    ∀ i x H3, Y i H2 x H3 → Same H2 H3 ∧ ∃ y, ys[i]? = some y ∧ AX X.K (Wn Z2 ρ2) ρ2 H3 y x := sv
  have w : Walk J ys.length G Y := w
  have evw := ev1.wipe vs
  let Z' : Wd := fun a => Z a ∨ a = D0
  let Pv : Nat → Hp → Prop := fun i H => ∃ (ρ : List Addr) (S : Sto) (acc : List D) (xs : List V), Sta X.K Z' ρ S H ∧ ρ1 <+: ρ ∧ (∀ a o, a ∉ ρ1 → H1 a = some o → a ∉ ρ ∧ H a = some o) ∧ (∀ a ob u, H1 a = some (.frz ob u) → H a = some (.frz ob u)) ∧ H D0 = some (.lst xs) ∧ AVs X.K (Wn Z' ρ) H acc xs ∧
    EvOk X.K (Wn Z' ρ) ρ H (wipeE e vs) (wipe σ vs) ∧ Post X.K Z ρ1 H1 Wx σ Q ((lc2L t l mt t1 mi1 mt1 me (wipeE e vs) vs1 (ys.drop i) S).bind fun ds S' => finL (acc ++ ds) S')
  have mvOf : ∀ {ρ : List Addr} {S : Sto} {H : Hp}, Sta X.K Z' ρ S H → (∀ a o, a ∉ ρ1 → H1 a = some o → a ∉ ρ ∧ H a = some o) → Mv (Wn Z ρ1) H1 (Wn Z' ρ) H := fun {ρ S H} s kp a o hn hq => by
    obtain ⟨h2, h3⟩ := kp a o (fun z => hn (.inr z)) hq
    refine ⟨fun z => ?_, h3⟩
    rcases z with (z | z) | z
    · exact hn (.inl z)
    · rw [z, hD] at hq; cases hq
    · exact h2 z
  have okOf : ∀ {xs : List Bv.X} {S : Sto} {acc : List D}, Post X.K Z ρ1 H1 Wx σ Q ((lc2L t l mt t1 mi1 mt1 me (wipeE e vs) vs1 xs S).bind fun ds S' => finL (acc ++ ds) S') → l.ok S = true := fun {xs S acc} q => by
    cases z : l.ok S with
    | true => rfl
    | false => cases xs <;> (simp only [lc2L, z] at q; exact q.elim)
  have start : Pv 0 (upd H1 D0 (.lst [])) := by
    have k := upd_keep (o := .lst []) hD
    have hnw : ¬ Wn Z ρ1 D0 := st1.fresh hD
    have m0 : Mv (Wn Z ρ1) H1 (Wn Z' ρ1) (upd H1 D0 (.lst [])) := fun a o hn hq => ⟨fun z => by
      rcases z with (z | z) | z
      · exact hn (.inl z)
      · rw [z, hD] at hq; cases hq
      · exact hn (.inr z), k a o hq⟩
    refine ⟨ρ1, S1, [], [], ⟨st1.nd, fun a z => ?_, st1.len, fun n o a e1 e2 => AO.mv m0 (List.prefix_refl _) (fun u q => k _ _ q) (st1.ob n o a e1 e2)⟩, List.prefix_refl _, fun a o hn hq => ⟨hn, k a o hq⟩, fun a _ _ q => k a _ q, upd_same, .nil, evw.mv m0 (List.prefix_refl _), ?_⟩
    · rcases z with z | z
      · exact ⟨(st1.z a z).1, let ⟨o, q⟩ := (st1.z a z).2; ⟨o, k a o q⟩⟩
      · exact ⟨fun z2 => hnw (.inr (by rw [← z]; exact z2)), ⟨_, by rw [z]; exact upd_same⟩⟩
    · rw [List.drop_zero]
      exact p1
  refine ⟨fun i m H => m = ys.length - i ∧ i ≤ ys.length ∧ Pv i H, ⟨ys.length, (Nat.sub_zero _).symm, Nat.zero_le _, start⟩, fun i m H2 ⟨em, hi, ρ2, S2, acc, xs, st2, pr2, k2, f2, d2, a2, ev2, q2⟩ => ?_⟩
  subst em
  have hk := okOf q2
  have gG := (sv Z' ρ2 S2 H2 st2 (mvOf st2 k2) pr2 f2 hk).1
  rcases Nat.lt_or_ge i ys.length with hlt | hge
  case inr =>
    obtain rfl : i = ys.length := by omega
    rw [List.drop_length] at q2
    simp only [lc2L, hk, if_true] at q2
    have q2 : Post X.K Z ρ1 H1 Wx σ Q (finL (acc ++ []) S2) := q2
    rw [List.append_nil] at q2
    have q2 : Post X.K Z ρ1 H1 Wx σ Q (if acc.length ≤ sizeLine then .ok (.d (.lst acc)) S2 else .bad) := q2
    refine .inl ⟨w.stops H2 gG, ?_⟩
    by_cases hl : acc.length ≤ sizeLine
    · rw [if_pos hl] at q2
      have m : Mv (Wn Z' ρ2) H2 (Wn Z ρ2) H2 := fun a o hn hq => ⟨fun z => hn (z.elim (fun z => .inl (.inl z)) .inr), hq⟩
      refine q2 ρ2 H2 (.ref D0) ⟨st2.nd, fun a z => st2.z a (.inl z), st2.len, fun n o a e1 e2 => AO.mv m (List.prefix_refl _) (fun u q => q) (st2.ob n o a e1 e2)⟩ ⟨pr2, k2, f2⟩ (.d (.lst (fun z => ?_) d2 (a2.mv m)))
      rcases z with z | z
      · exact st1.fresh hD (.inl z)
      · exact (st2.z D0 (.inr rfl)).1 z
    · rw [if_neg hl] at q2; exact q2.elim
  case inl =>
    refine .inr ⟨w.goes i H2 hlt gG, Pv (i + 1), fun H' p' => ⟨ys.length - (i + 1), by omega, rfl, hlt, p'⟩, fun x H3 hy => ?_⟩
    obtain ⟨kk, y, e3, a⟩ := (sv Z' ρ2 S2 H2 st2 (mvOf st2 k2) pr2 f2 hk).2 i x H3 (w.yields i H2 x H3 hlt gG hy)
    have st3 := st2.grow kk
    have m23 : Mv (Wn Z' ρ2) H2 (Wn Z' ρ2) H3 := same_mv kk
    have ev3 := ev2.mv m23 (List.prefix_refl _)
    rw [drop_get e3] at q2
    simp only [lc2L, hk, if_true] at q2
    cases q4 : t.asg S2 y (wipeE e vs) with
    | none => rw [q4] at q2; exact q2.elim
    | some e4 =>
      rw [q4] at q2
      refine ⟨Z', ρ2, wipeE e vs, S2, y, e4, st3, ev3, a, q4, fun σ5 ev5 w5 => ⟨?_, ?_⟩⟩
      · rw [w5 vs hs, wipe_twice]
      have q2 : Post X.K Z ρ1 H1 Wx σ Q (((mt e4 S2).ne.bind fun b S1 => if b then (mi1 e4 S1).ne.bind fun p S2 => (lcL t1 p.2 mt1 me (wipeE e4 vs1) p.1 S2).bind fun ds S3 => (lc2L t l mt t1 mi1 mt1 me (wipeE e vs) vs1 (ys.drop (i + 1)) S3).bind fun ds2 S4 => .ok (ds ++ ds2) S4 else lc2L t l mt t1 mi1 mt1 me (wipeE e vs) vs1 (ys.drop (i + 1)) S1).bind fun ds S' => finL (acc ++ ds) S') := q2
      cases q5 : (mt e4 S2).ne with
      | err _ _ _ => cases q6 : mt e4 S2 <;> rw [q6] at q5 <;> cases q5
      | bad => rw [q5] at q2; exact q2.elim
      | ok b S6 =>
        rw [q5] at q2
        refine ne_post (rel := relB) st3 ev5 q5 fun ρ6 H6 v st6 g6 ev6 r6 => ?_
        cases (show b = v from r6)
        have nD : D0 ∉ ρ2 := (st2.z D0 (.inr rfl)).1
        obtain ⟨nD6, d6⟩ := g6.keep D0 _ nD (kk _ _ d2)
        have k6 : ∀ a o, a ∉ ρ1 → H1 a = some o → a ∉ ρ6 ∧ H6 a = some o := fun a o h1 h2 => by
          obtain ⟨h3, h4⟩ := k2 a o h1 h2
          exact g6.keep a o h3 (kk _ _ h4)
        have f6 : ∀ a ob u, H1 a = some (.frz ob u) → H6 a = some (.frz ob u) := fun a ob u q => g6.fz a ob u (kk _ _ (f2 a ob u q))
        have m36 := g6.mv st3
        have evA : EvOk X.K (Wn Z' ρ6) ρ6 H6 (wipeE e vs) (wipe σ vs) := ev3.mv m36 g6.pre
        have a6 := (a2.mv m23).mv m36
        cases b with
        | false =>
          rw [if_neg Bool.false_ne_true]
          exact ⟨ρ6, S6, acc, xs, st6, pr2.trans g6.pre, k6, f6, d6, a6, evA, q2⟩
        | true =>
          rw [if_pos rfl]
          have q2 : Post X.K Z ρ1 H1 Wx σ Q (((mi1 e4 S6).ne.bind fun p S2 => (lcL t1 p.2 mt1 me (wipeE e4 vs1) p.1 S2).bind fun ds S3 => (lc2L t l mt t1 mi1 mt1 me (wipeE e vs) vs1 (ys.drop (i + 1)) S3).bind fun ds2 S4 => .ok (ds ++ ds2) S4).bind fun ds S' => finL (acc ++ ds) S') := q2
          cases q7 : (mi1 e4 S6).ne with
          | err _ _ _ => cases q6 : mi1 e4 S6 <;> rw [q6] at q7 <;> cases q7
          | bad => rw [q7] at q2; exact q2.elim
          | ok pp S7 =>
            rw [q7] at q2
            refine ne_post (rel := Srv X.K) st6 ev6 q7 fun ρ7 H7 J1 st7 g7 ev7 srv7 => ?_
            obtain ⟨ys1, l1⟩ := pp
            obtain ⟨G1, Y1, w1, sv1⟩ := srv7
            have q2 : Post X.K Z ρ1 H1 Wx σ Q (((lcL t1 l1 mt1 me (wipeE e4 vs1) ys1 S7).bind fun ds S3 => (lc2L t l mt t1 mi1 mt1 me (wipeE e vs) vs1 (ys.drop (i + 1)) S3).bind fun ds2 S4 => .ok (ds ++ ds2) S4).bind fun ds S' => finL (acc ++ ds) S') := q2
            rw [R.bind_assoc] at q2
            obtain ⟨nD7, d7⟩ := g7.keep D0 _ nD6 d6
            have m67 := g7.mv st6
            have a7 := a6.mv m67
            have evB := evA.mv m67 g7.pre
            have ev7w := ev7.wipe vs1
            let k : List D → Sto → R Bv.X := fun ds S3 => (lc2L t l mt t1 mi1 mt1 me (wipeE e vs) vs1 (ys.drop (i + 1)) S3).bind fun ds2 S4 => finL (ds ++ ds2) S4
            have q3 : Post X.K Z ρ1 H1 Wx σ Q ((lcL t1 l1 mt1 me (wipeE e4 vs1) ys1 S7).bind fun ds S' => k (acc ++ ds) S') := by
              have e9 : (fun (ds : List D) (S3 : Sto) => ((lc2L t l mt t1 mi1 mt1 me (wipeE e vs) vs1 (ys.drop (i + 1)) S3).bind fun ds2 S4 => R.ok (ds ++ ds2) S4).bind fun ds S' => finL (acc ++ ds) S') = fun ds S' => k (acc ++ ds) S' := by
                funext ds S3
                rw [R.bind_assoc]
                show (lc2L t l mt t1 mi1 mt1 me (wipeE e vs) vs1 (ys.drop (i + 1)) S3).bind (fun ds2 S4 => finL (acc ++ (ds ++ ds2)) S4) = (lc2L t l mt t1 mi1 mt1 me (wipeE e vs) vs1 (ys.drop (i + 1)) S3).bind fun ds2 S4 => finL (acc ++ ds ++ ds2) S4
                congr 1
                funext ds2 S4
                rw [List.append_assoc]
              rw [e9] at q2
              exact q2
            have hlen : ∀ acc S, Post X.K Z ρ1 H1 Wx σ Q (k acc S) → acc.length ≤ sizeLine := fun acc S q => by
              have q : Post X.K Z ρ1 H1 Wx σ Q ((lc2L t l mt t1 mi1 mt1 me (wipeE e vs) vs1 (ys.drop (i + 1)) S).bind fun ds2 S4 => finL (acc ++ ds2) S4) := q
              cases q8 : lc2L t l mt t1 mi1 mt1 me (wipeE e vs) vs1 (ys.drop (i + 1)) S with
              | bad => rw [q8] at q; exact q.elim
              | err C fs S8 => exact absurd q8 lc2L_err
              | ok ds S8 =>
                rw [q8] at q
                have q : Post X.K Z ρ1 H1 Wx σ Q (if (acc ++ ds).length ≤ sizeLine then .ok (.d (.lst (acc ++ ds))) S8 else .bad) := q
                by_cases hl : (acc ++ ds).length ≤ sizeLine
                · rw [List.length_append] at hl; omega
                · rw [if_neg hl] at q; exact q.elim
            exact lc_in (Pq := Post X.K Z ρ1 H1 Wx σ Q) (k := k) (Nx := Pv (i + 1)) (Z := Z) (D0 := D0) (e := e4) (e' := wipeE e vs) (σ' := wipe σ vs) (acc0 := acc) (xs0 := xs) hs1 w1 sv1 (fun z => z) hlen st7 d7 a7 ev7w evB q3 fun ρ8 S8 H8 acc8 xs8 st8 pr8 k8 f8 d8 a8 ev8 q8 =>
              ⟨ρ8, S8, acc8, xs8, st8, ((pr2.trans g6.pre).trans g7.pre).trans pr8, fun a o h1 h2 => by
                obtain ⟨h3, h4⟩ := k6 a o h1 h2
                obtain ⟨h5, h6⟩ := g7.keep a o h3 h4
                exact k8 a o h5 (fun z => by rw [z, hD] at h2; cases h2) h6, fun a ob u q => f8 a ob u (g7.fz a ob u (f6 a ob u q)), d8, a8, ev8, q8⟩
theorem me_lc2 {scope : Scope} {own : List (Str × Nat)} (hc : X.calm = true) (hN : X.N.Nodup) (hi : MI X Wx tg iter mi) (ok : BlkOk X.N X.env.scope scope own) (hv : ∀ i ∈ vs1, i ∈ own.map (·.2)) (hsl : ∀ i ∈ t.slots, i ∈ own.map (·.2)) (hsl1 : ∀ i ∈ t1.slots, i ∈ vs1)
    (hg : ∀ (s : Shared) (H : Hp) (C : Addr) (cl : List (Str × Addr)) (fp : List Addr), PG (X.blk s H scope (compEnvC scope cl C X.env) fp) tg (TGt X.K t)) (ht : ∀ (s : Shared) (H : Hp) (C : Addr) (cl : List (Str × Addr)) (fp : List Addr), MTs (X.blk s H scope (compEnvC scope cl C X.env) fp) WX0 ifs mt)
    (hi1 : ∀ (s : Shared) (H : Hp) (C : Addr) (cl : List (Str × Addr)) (fp : List Addr), MI (X.blk s H scope (compEnvC scope cl C X.env) fp) WX0 tg1 iter1 mi1)
    (hg1 : ∀ (s : Shared) (H : Hp) (C : Addr) (cl : List (Str × Addr)) (fp : List Addr), PG (X.blk s H scope (compEnvC scope cl C X.env) fp) tg1 (TGt X.K t1)) (ht1 : ∀ (s : Shared) (H : Hp) (C : Addr) (cl : List (Str × Addr)) (fp : List Addr), MTs (X.blk s H scope (compEnvC scope cl C X.env) fp) WX0 ifs1 mt1)
    (he : ∀ (s : Shared) (H : Hp) (C : Addr) (cl : List (Str × Addr)) (fp : List Addr), ME (X.blk s H scope (compEnvC scope cl C X.env) fp) WX0 elt me) (hs : ∀ x, foldedSetIterable iter X.env x = pure x := by intro _; rfl) (hs1 : ∀ env x, foldedSetIterable iter1 env x = pure x := by intro _ _; rfl) :
    ME X Wx (.ListComp elt [⟨tg, iter, ifs, 0⟩, ⟨tg1, iter1, ifs1, 0⟩] scope pos) (m_lc2 t mi mt t1 mi1 mt1 me (own.map (·.2)) vs1) := PE.of (pe_lc2 hc hN hi ok hv hg ht hi1 hg1 ht1 he hs hs1) fun _ _ _ h => lc2_run hsl hsl1 h
theorem mp_setLc2 {i : Nat} {y : Str} {py spos : Pos} {scope : Scope} {own : List (Str × Nat)} (hc : X.calm = true) (hN : X.N.Nodup) (hy : X.N[i]? = some y) (hyl : X.env.scope.names.lookup y = some .local)
    (hsw : swapsWith (.ListComp elt [⟨tg, iter, ifs, 0⟩, ⟨tg1, iter1, ifs1, 0⟩] scope pos) (some (.Name y py)) spos.line X.env = pure true) (hi : MI X Wx tg iter mi) (ok : BlkOk X.N X.env.scope scope own) (hv : ∀ i ∈ vs1, i ∈ own.map (·.2)) (hsl : ∀ i ∈ t.slots, i ∈ own.map (·.2)) (hsl1 : ∀ i ∈ t1.slots, i ∈ vs1)
    (hg : ∀ (s : Shared) (H : Hp) (C : Addr) (cl : List (Str × Addr)) (fp : List Addr), PG (X.blk s H scope (compEnvC scope cl C X.env) fp) tg (TGt X.K t)) (ht : ∀ (s : Shared) (H : Hp) (C : Addr) (cl : List (Str × Addr)) (fp : List Addr), MTs (X.blk s H scope (compEnvC scope cl C X.env) fp) WX0 ifs mt)
    (hi1 : ∀ (s : Shared) (H : Hp) (C : Addr) (cl : List (Str × Addr)) (fp : List Addr), MI (X.blk s H scope (compEnvC scope cl C X.env) fp) WX0 tg1 iter1 mi1)
    (hg1 : ∀ (s : Shared) (H : Hp) (C : Addr) (cl : List (Str × Addr)) (fp : List Addr), PG (X.blk s H scope (compEnvC scope cl C X.env) fp) tg1 (TGt X.K t1)) (ht1 : ∀ (s : Shared) (H : Hp) (C : Addr) (cl : List (Str × Addr)) (fp : List Addr), MTs (X.blk s H scope (compEnvC scope cl C X.env) fp) WX0 ifs1 mt1)
    (he : ∀ (s : Shared) (H : Hp) (C : Addr) (cl : List (Str × Addr)) (fp : List Addr), ME (X.blk s H scope (compEnvC scope cl C X.env) fp) WX0 elt me) (hs : ∀ x, foldedSetIterable iter X.env x = pure x := by intro _; rfl) (hs1 : ∀ env x, foldedSetIterable iter1 env x = pure x := by intro _ _; rfl) :
    MP X Wx (.Assign [.Name y py] (.ListComp elt [⟨tg, iter, ifs, 0⟩, ⟨tg1, iter1, ifs1, 0⟩] scope pos) spos) (s_set i (m_lc2 t mi mt t1 mi1 mt1 me (own.map (·.2)) vs1)) := PS.of (ps_setLc2 hc hN hy hyl hsw hi ok hv hg ht hi1 hg1 ht1 he hs hs1) fun D σ H ⟨Z, ρ, e, S, st, ev, p⟩ => by
  refine lc2_run (mt := mt) (me := me) (t := t) (t1 := t1) (mi1 := mi1) (mt1 := mt1) (Q := fun v H1 => gName i v σ H1 D.nx) hsl hsl1 ?_
  exact so_bind (rel := AX X.K) st ev p fun ρ1 H1 v x S1 st1 g1 ev1 a1 p1 => p1.next st1 (ev1.set a1)
end
end Bv
set_option Elab.async false
set_option linter.all false
set_option maxRecDepth 100000
set_option maxHeartbeats 4000000
/-! By value: sorted(list of ints or of texts), str.partition. -/
namespace Bv
open PySem PySem.Spec L2
open PyProof.Rows hiding St
variable [HasW]
/-! ### texts in order -/
def leS (a b : Str) : Bool := !ltCps b.cps.toList a.cps.toList
def insS (x : Str) : List Str → List Str
  | [] => [x]
  | y :: r => if leS x y then x :: y :: r else y :: insS x r
def sortS (l : List Str) : List Str := l.foldr insS []
theorem leS_iff {a b : Str} : leS a b = true ↔ a.cps.toList ≤ b.cps.toList := by
  unfold leS
  rw [ltCps_eq]
  simp only [Bool.not_eq_true', decide_eq_false_iff_not]
  exact List.not_lt
theorem leS_total {a b : Str} (h : ¬ leS a b = true) : leS b a = true := by
  rw [leS_iff] at h ⊢
  rcases List.le_total a.cps.toList b.cps.toList with z | z
  · exact (h z).elim
  · exact z
theorem leS_trans {a b c : Str} (h : leS a b = true) (h2 : leS b c = true) : leS a c = true := by
  rw [leS_iff] at h h2 ⊢
  exact List.le_trans h h2
theorem str_ext {a b : Str} (h : a.cps.toList = b.cps.toList) : a = b := by
  cases a; cases b
  simp only [Str.mk.injEq]
  exact Array.toList_inj.mp h
theorem leS_anti {a b : Str} (h : leS a b = true) (h2 : leS b a = true) : a = b := by
  rw [leS_iff] at h h2
  exact str_ext (List.le_antisymm h h2)
theorem insS_perm (x : Str) : ∀ l, (insS x l).Perm (x :: l)
  | [] => .refl _
  | y :: r => by
    unfold insS; split
    · exact .refl _
    · exact ((insS_perm x r).cons y).trans (.swap _ _ _)
theorem sortS_perm : ∀ l, (sortS l).Perm l
  | [] => .refl _
  | x :: r => (insS_perm x _).trans ((sortS_perm r).cons x)
theorem insS_rises (x : Str) : ∀ l : List Str, l.Pairwise (fun a b => leS a b = true) → (insS x l).Pairwise (fun a b => leS a b = true)
  | [], _ => by simp [insS]
  | y :: r, h => by
    obtain ⟨h1, h2⟩ := List.pairwise_cons.mp h
    unfold insS; split
    · rename_i c
      refine List.pairwise_cons.mpr ⟨fun z hz => ?_, h⟩
      rcases List.mem_cons.mp hz with rfl | hz
      · exact c
      · exact leS_trans c (h1 z hz)
    · rename_i c
      refine List.pairwise_cons.mpr ⟨fun z hz => ?_, insS_rises x r h2⟩
      rcases List.mem_cons.mp ((insS_perm x r).mem_iff.mp hz) with rfl | hz
      · exact leS_total c
      · exact h1 z hz
theorem sortS_rises : ∀ l, (sortS l).Pairwise (fun a b => leS a b = true)
  | [] => .nil
  | x :: r => insS_rises x _ (sortS_rises r)
theorem risingS_pair : ∀ {l : List Str} {p : Str}, risingS p l = true → (p :: l).Pairwise (fun a b => leS a b = true)
  | [], p, _ => by simp
  | x :: r, p, h => by
    have h : (!ltCps x.cps.toList p.cps.toList && risingS x r) = true := h
    obtain ⟨h1, h2⟩ := Bool.and_eq_true_iff.mp h
    have q := risingS_pair h2
    refine List.pairwise_cons.mpr ⟨fun z hz => ?_, q⟩
    rcases List.mem_cons.mp hz with rfl | hz
    · exact h1
    · exact leS_trans h1 ((List.pairwise_cons.mp q).1 z hz)
theorem sortedS_pair {l : List Str} (h : sortedS l = true) : l.Pairwise (fun a b => leS a b = true) := by
  cases l with
  | nil => exact .nil
  | cons x r => exact risingS_pair h
theorem eq_sortS {l l' : List Str} (hp : l'.Perm l) (hs : sortedS l' = true) : l' = sortS l :=
  List.Perm.eq_of_pairwise (fun _ _ _ _ a b => leS_anti a b) (sortedS_pair hs) (sortS_rises l) (hp.trans (sortS_perm l).symm)
/-! ### sorted -/
def g_sorted : List Bv.X → Sto → R Bv.X
  | [x], S => if isLst S x then (match items S x with
    | some ys => (match ints? ys with
      | some l => .ok (.d (.lst ((PySem.W.sortI l).map .int))) S
      | none => (match strs? ys with
        | some l => if decide (l.length < 64) then .ok (.d (.lst ((sortS l).map .str))) S else .bad
        | none => .bad))
    | none => .bad) else .bad
  | _, _ => .bad
theorem avs_int {K : PySem.W.Frag} {W : Wd} {H : Hp} : ∀ {l : List Int}, AVs K W H (l.map D.int) (l.map V.int)
  | [] => .nil
  | z :: r => .cons (.int z) avs_int
theorem avs_strA {K : PySem.W.Frag} {W : Wd} {H : Hp} : ∀ {l : List Str}, (∀ z ∈ l, PyData.strOk z = true) → AVs K W H (l.map D.str) (l.map V.str)
  | [], _ => .nil
  | z :: r, h => .cons (.str (h z (List.Mem.head _))) (avs_strA fun y hy => h y (List.Mem.tail _ hy))
section
variable {K : PySem.W.Frag}
theorem b_sorted : BinX K (fun xs H Q => rSortedI K xs H Q ∨ rSortedS K xs H Q) g_sorted := fun Z ρ S H Wx σ xs vs Q st a h => by
  unfold g_sorted at h
  split at h
  · rename_i x
    split at h
    · rename_i hl
      cases a with
      | cons ha t =>
        cases t
        cases q : items S x with
        | none => rw [q] at h; exact h.elim
        | some ys =>
          rw [q] at h
          obtain ⟨b, us, rfl, hq, hp⟩ := ha.itemsL st q hl
          have h : PostG (AX K) K Z ρ H Wx σ Q (match ints? ys with
            | some l => .ok (.d (.lst ((PySem.W.sortI l).map .int))) S
            | none => (match strs? ys with
              | some l => if decide (l.length < 64) then .ok (.d (.lst ((sortS l).map .str))) S else .bad
              | none => .bad)) := h
          cases q2 : ints? ys with
          | some l =>
            rw [q2] at h
            rw [ints_inv hp q2] at hq
            refine .inl ⟨b, l, rfl, .inl (.inl hq), fun ns' p hp' hs' hn => ?_⟩
            rw [PySem.W.eq_sortI hp' hs']
            exact PostG.ret h st (upd_keep hn) (.d (new_lst (fun z hz => st.thereW hz) hn avs_int))
          | none =>
            rw [q2] at h
            cases q3 : strs? ys with
            | none => rw [q3] at h; exact h.elim
            | some l =>
              rw [q3] at h
              obtain ⟨e1, e2⟩ := strs_inv hp q3
              rw [e1] at hq
              have h : PostG (AX K) K Z ρ H Wx σ Q (if decide (l.length < 64) then .ok (.d (.lst ((sortS l).map .str))) S else .bad) := h
              by_cases c : l.length < 64
              · rw [if_pos (decide_eq_true c)] at h
                refine .inr ⟨b, l, rfl, .inl (.inl hq), c, fun ns' p hp' hs' hn => ?_⟩
                rw [eq_sortS hp' hs']
                exact PostG.ret h st (upd_keep hn) (.d (new_lst (fun z hz => st.thereW hz) hn (avs_strA fun z hz => e2 z ((sortS_perm l).mem_iff.mp hz))))
              · rw [if_neg (by simpa using c)] at h; exact h.elim
    · exact h.elim
  · exact h.elim
end
/-! ### partition -/
def g_part (a : Str) (y : Bv.X) (S : Sto) : R Bv.X := match y with
  | .d (.str b) => if !(b.length == 0) && decide (a.length ≤ sizeLine) && okStrs [(Txt.partition a b).1, (Txt.partition a b).2.1, (Txt.partition a b).2.2] then .ok (.d (.tup [.str (Txt.partition a b).1, .str (Txt.partition a b).2.1, .str (Txt.partition a b).2.2])) S else .bad
  | _ => .bad
section
variable {X : Cx} {Wx : WX} {pos apos : Pos} {o e : Expr} {mo m : M}
theorem me_part (ho : ME X Wx o mo) (he : ME X Wx e m) (hs : starEach [e] X.env = [(false, eval e X.env)] := by rfl) (hbase : attributeBase o "partition" X.env (eval o X.env) = eval o X.env := by rfl) (hline : (apos.endLine == pos.line) = true := by rfl) :
    ME X Wx (.Call (.Attribute o "partition" apos) [e] [] pos) (m_sm1 g_part mo m) := PE.of (pe_partition ho he hs hbase hline) fun σ H Q ⟨Z, ρ, e, S, st, ev, p⟩ => tt_bind st ev p fun ρ1 H1 v x S1 s1 g1 ev1 a1 p1 => by
  cases a1 with
  | r _ => exact p1.elim
  | d a =>
    cases a with
    | str hz =>
      rename_i z
      refine ⟨⟨z, rfl⟩, tt_bind s1 ev1 (show PostG (AX X.K) X.K Z ρ1 H1 Wx σ Q ((m e S1).bind fun y S2 => g_part z y S2) from p1) fun ρ2 H2 u y S2 s2 g2 ev2 a2 p2 => ?_⟩
      unfold g_part at p2
      split at p2
      · rename_i b
        split at p2
        · rename_i hc
          rw [Bool.and_eq_true, Bool.and_eq_true] at hc
          obtain ⟨⟨c1, c2⟩, c3⟩ := hc
          cases a2 with
          | d a2 =>
            cases a2 with
            | str hb =>
              refine ⟨z, b, rfl, rfl, by simpa using c1, of_decide_eq_true c2, fun q hq => ?_⟩
              have av : AVs X.K (Wn Z ρ2) H2 [.str (Txt.partition z b).1, .str (Txt.partition z b).2.1, .str (Txt.partition z b).2.2] [.str (Txt.partition z b).1, .str (Txt.partition z b).2.1, .str (Txt.partition z b).2.2] := avs_strOk c3
              exact PostG.ret p2 s2 (upd_keep hq) (.d (new_tup (fun z hz => s2.thereW hz) hq av))
        · exact p2.elim
      · exact p2.elim
    | _ => exact p1.elim
end
end Bv
set_option Elab.async false
set_option linter.all false
set_option maxRecDepth 100000
set_option maxHeartbeats 4000000
/-! By value: dict(a list of pairs), dict(a dict). -/
namespace Bv
open PySem PySem.Spec L2
open PyProof.Rows hiding St
variable [HasW]
/-- a pair (key, value) -/
def pairX : Bv.X → Option (D × D)
  | .d (.tup [k, v]) => if k.key?.isSome then some (k, v) else none
  | _ => none
def pairsX : List Bv.X → Option (List (D × D))
  | [] => some []
  | x :: r => match pairX x, pairsX r with
    | some p, some l => some (p :: l)
    | _, _ => none
def mergeD (kvs more : List (D × D)) : List (D × D) := more.foldl (fun acc p => putD acc p.1 p.2) kvs
theorem KVR.merge {R : D → V → Prop} : ∀ {more : List (D × D)} {ms : List (Key × V)} {kvs : List (D × D)} {ks : List (Key × V)}, KVR R more ms → KVR R kvs ks → KVR R (mergeD kvs more) (mergeK ks ms)
  | _, _, _, _, .nil, q => q
  | (k, d) :: r, (q, v) :: s, kvs, ks, .cons h t, z => KVR.merge (more := r) (ms := s) (kvs := putD kvs k d) (ks := putK ks q v) t (KVR.put h.1 h.2 z)
theorem pairX_inv {K : PySem.W.Frag} {W : Wd} {ρ : List Addr} {H : Hp} {x : Bv.X} {u : V} {p : D × D} (a : AX K W ρ H x u) (h : pairX x = some p) : ∃ b q v, u = .ref b ∧ p.1.key? = some q ∧ SqT K H b [kV q, v] ∧ AV K W H p.2 v := by
  unfold pairX at h
  split at h
  · rename_i k v
    split at h
    · rename_i c
      cases h
      obtain ⟨q, hq⟩ := Option.isSome_iff_exists.mp c
      cases a with
      | d a =>
        cases a with
        | tup tp as =>
          cases as with
          | cons a1 as =>
            cases as with
            | cons a2 as =>
              cases as
              obtain rfl := key_av hq a1
              exact ⟨_, q, _, rfl, hq, tp.sq, a2⟩
    · cases h
  · cases h
theorem pairsX_inv {K : PySem.W.Frag} {W : Wd} {ρ : List Addr} {H : Hp} : ∀ {xs : List Bv.X} {us : List V} {l : List (D × D)}, AXs K W ρ H xs us → pairsX xs = some l → ∃ (ps : List Addr) (kvs : List (Key × V)), us = ps.map V.ref ∧ Paired (fun p kv => SqT K H p [kV kv.1, kv.2]) ps kvs ∧ KVR (AV K W H) l kvs
  | _, _, _, .nil, h => by cases h; exact ⟨[], [], rfl, .nil, .nil⟩
  | x :: r, u :: us, _, .cons a as, h => by
    have h : (match pairX x, pairsX r with
      | some p, some l => some (p :: l)
      | _, _ => none) = some _ := h
    cases h1 : pairX x with
    | none => rw [h1] at h; cases h
    | some p =>
      cases h2 : pairsX r with
      | none => rw [h1, h2] at h; cases h
      | some l2 =>
        rw [h1, h2] at h
        cases h
        obtain ⟨b, q, v, rfl, hk, sq, av⟩ := pairX_inv a h1
        obtain ⟨ps, kvs, rfl, pr, kv⟩ := pairsX_inv as h2
        exact ⟨b :: ps, (q, v) :: kvs, rfl, .cons sq pr, .cons ⟨hk, av⟩ kv⟩
/-- the entries, all of data -/
def kvD : List (D × Bv.X) → Option (List (D × D))
  | [] => some []
  | (k, .d v) :: r => (kvD r).map fun l => (k, v) :: l
  | (_, .r _) :: _ => none
theorem kvD_inv {K : PySem.W.Frag} {W : Wd} {ρ : List Addr} {H : Hp} : ∀ {xs : List (D × Bv.X)} {ks : List (Key × V)} {l : List (D × D)}, KVR (AX K W ρ H) xs ks → kvD xs = some l → KVR (AV K W H) l ks
  | _, _, _, .nil, h => by cases h; exact .nil
  | (k, .d v) :: r, (q, u) :: ks, _, .cons a as, h => by
    obtain ⟨l2, h1, rfl⟩ := Option.map_eq_some_iff.mp (show (kvD r).map (fun l => (k, v) :: l) = some _ from h)
    cases a.2 with
    | d av => exact .cons ⟨a.1, av⟩ (kvD_inv as h1)
  | (_, .r _) :: _, _, _, _, h => by cases h
/-- the entries of dict(x) -/
def dictOf (S : Sto) (x : Bv.X) : Option (List (D × D)) := match dictX S x with
  | some kvs => kvD kvs
  | none => if isLst S x then ((items S x).bind pairsX).map (mergeD []) else none
def g_dict : List Bv.X → Sto → R Bv.X
  | [x], S => (match dictOf S x with
    | some kvs => .ok (.d (.dic kvs)) S
    | none => .bad)
  | _, _ => .bad
def g_dictN : List Bv.X → Sto → R Bv.X
  | [x], S => (match dictOf S x with
    | some kvs => .ok (.r S.length) (S ++ [.dic (kvs.map fun p => (p.1, .d p.2))])
    | none => .bad)
  | _, _ => .bad
abbrev rDict (K : PySem.W.Frag) : List V → Hp → VK → Prop := fun xs H Q => (∃ (a : Addr) (kvs : List (Key × V)), xs = [.ref a] ∧ Rd H a (.dK kvs) ∧ ∀ p, H p = none → Q (.ref p) (upd H p (.dK kvs))) ∨
  ∃ (a : Addr) (ps : List Addr) (kvs : List (Key × V)), xs = [.ref a] ∧ SqL K H a (ps.map V.ref) ∧ Paired (fun p kv => SqT K H p [kV kv.1, kv.2]) ps kvs ∧ ∀ p, H p = none → Q (.ref p) (upd H p (.dK (mergeK [] kvs)))
theorem c_dict {X : Cx} (hc : X.calm = true) : CallR X (.type "dict") (rDict X.K) := CallR.or call_dictD (call_dictP hc)
section
variable {K : PySem.W.Frag}
/-- what is asked of the entries -/
theorem dictOf_inv {Z : Wd} {ρ : List Addr} {S : Sto} {H : Hp} {x : Bv.X} {v : V} {l : List (D × D)} {Q : VK} (st : Sta K Z ρ S H) (a : AX K (Wn Z ρ) ρ H x v) (h : dictOf S x = some l)
    (q : ∀ ks : List (Key × V), KVR (AV K (Wn Z ρ) H) l ks → ∀ p, H p = none → Q (.ref p) (upd H p (.dK ks))) : rDict K [v] H Q := by
  unfold dictOf at h
  cases hd : dictX S x with
  | some kvs =>
    rw [hd] at h
    obtain ⟨p, ks, rfl, r, kv⟩ := dictX_inv st a hd
    exact .inl ⟨p, ks, rfl, r, q ks (kvD_inv kv h)⟩
  | none =>
    rw [hd] at h
    have h : (if isLst S x then ((items S x).bind pairsX).map (mergeD []) else none) = some l := h
    split at h
    · rename_i hl
      obtain ⟨more, h1, rfl⟩ := Option.map_eq_some_iff.mp h
      obtain ⟨ys, h2, h3⟩ := Option.bind_eq_some_iff.mp h1
      obtain ⟨b, us, rfl, hq, hp⟩ := a.itemsL st h2 hl
      obtain ⟨ps, kvs, rfl, pr, kv⟩ := pairsX_inv hp h3
      exact .inr ⟨b, ps, kvs, rfl, .inl (.inl hq), pr, q _ (KVR.merge kv .nil)⟩
    · cases h
theorem b_dict : ∀ (Z : Wd) (ρ : List Addr) (S : Sto) (H : Hp) (Wx : WX) (σ : L2.St) (xs : List Bv.X) (vs : List V) (Q : VK), Sta K Z ρ S H → AXs K (Wn Z ρ) ρ H xs vs → PostG (AX K) K Z ρ H Wx σ Q (g_dict xs S) → rDict K vs H (fun v H1 => Q v H1 ∨ ∃ a u, H1 a = some u ∧ Mut (some u) ∧ ∀ od, Q v (upd H1 a (.frz od u))) := fun Z ρ S H Wx σ xs vs Q st a h => by
  unfold g_dict at h
  split at h
  · rename_i x
    cases a with
    | cons ha t =>
      cases t
      cases q : dictOf S x with
      | none => rw [q] at h; exact h.elim
      | some l =>
        rw [q] at h
        refine dictOf_inv st ha q fun ks kv p hp => .inr ⟨p, _, upd_same, trivial, fun od => ?_⟩
        have k : ∀ b o, H b = some o → upd (upd H p (.dK ks)) p (.frz od (.dK ks)) b = some o := fun b o z => by rw [upd_ne (ne_of_none z hp), upd_ne (ne_of_none z hp)]; exact z
        have m : Mv (Wn Z ρ) H (Wn Z ρ) (upd (upd H p (.dK ks)) p (.frz od (.dK ks))) := fun b o w z => ⟨w, k b o z⟩
        exact h ρ _ _ (st.grow k) (Go.grow k) (.d (.dic (st.fresh hp) upd_same (KVR.avk (Paired.mapP kv fun _ _ z => ⟨z.1, z.2.mv m⟩))))
  · exact h.elim
theorem kv_push {Z : Wd} {ρ : List Addr} {S : Sto} {H : Hp} {p : Addr} {ks0 : List (Key × V)} (st : Sta K Z ρ S H) (hp : H p = none) : ∀ {l : List (D × D)} {ks : List (Key × V)}, KVR (AV K (Wn Z ρ) H) l ks → KVR (AX K (Wn Z (ρ ++ [p])) (ρ ++ [p]) (upd H p (.dK ks0))) (l.map fun p => (p.1, Bv.X.d p.2)) ks
  | _, _, .nil => .nil
  | _ :: _, _ :: _, .cons h t => .cons ⟨h.1, .d (h.2.mv (fun b o w z => ⟨fun y => by
      rcases y with y | y
      · exact w (.inl y)
      · rcases List.mem_append.mp y with y | y
        · exact w (.inr y)
        · have e : b = p := by simpa using y
          rw [e, hp] at z
          exact (by cases z), upd_keep hp b o z⟩))⟩ (kv_push st hp t)
theorem b_dictN : BinX K (rDict K) g_dictN := fun Z ρ S H Wx σ xs vs Q st a h => by
  unfold g_dictN at h
  split at h
  · rename_i x
    cases a with
    | cons ha t =>
      cases t
      cases q : dictOf S x with
      | none => rw [q] at h; exact h.elim
      | some l =>
        rw [q] at h
        refine dictOf_inv st ha q fun ks kv p hp => ?_
        have k := upd_keep (o := .dK ks) hp
        have go := kv_push (ρ := ρ) (ks0 := ks) st hp kv
        obtain ⟨s1, g1⟩ := st.push (o' := .dic (l.map fun p => (p.1, .d p.2))) hp k ⟨ks, upd_same, go⟩
        exact h _ _ _ s1 g1 (.r (by rw [st.len]; simp))
  · exact h.elim
end
section
variable {X : Cx} {Wx : WX} {pos p : Pos} {x : Str} {e : Expr} {es : List Expr} {ms : MG (List Bv.X)}
theorem me_dict (hcm : X.calm = true) (hg : Gl X x) (hm : X.mg x = none) (ha : MA X Wx (e :: es) ms) (hv : bootBuiltins x = some (.type "dict") := by rfl) (hn : x ≠ "__name__" := by decide) (hdb : (x == ("__debug__" : Str)) = false := by decide)
    (he : starEach (e :: es) X.env = (false, eval e X.env) :: starEach es X.env := by rfl) (hpl : (backTo pos (starEach es X.env)).any (·.1) = false := by rfl) : ME X Wx (.Call (.Name x p) (e :: es) [] pos) (m_call g_dict ms) := PE.of (pe_fz (pe_callTy (c_dict hcm) hg hm hv ha hn hdb he hpl)) fun σ H Q ⟨Z, ρ, e, S, st, ev, q⟩ =>
  tt_bind st ev q fun ρ1 H1 v xs S1 s1 g1 ev1 a1 p1 => b_dict Z ρ1 S1 H1 Wx σ xs v Q s1 a1 p1
theorem me_dictN (hcm : X.calm = true) (hg : Gl X x) (hm : X.mg x = none) (ha : MA X Wx (e :: es) ms) (hv : bootBuiltins x = some (.type "dict") := by rfl) (hn : x ≠ "__name__" := by decide) (hdb : (x == ("__debug__" : Str)) = false := by decide)
    (he : starEach (e :: es) X.env = (false, eval e X.env) :: starEach es X.env := by rfl) (hpl : (backTo pos (starEach es X.env)).any (·.1) = false := by rfl) : ME X Wx (.Call (.Name x p) (e :: es) [] pos) (m_call g_dictN ms) := me_bty (c_dict hcm) b_dictN hg hm ha hv hn hdb he hpl
end
end Bv
set_option Elab.async false
set_option linter.all false
set_option maxRecDepth 100000
set_option maxHeartbeats 4000000
/-! By value: xs[::-1]; properties. -/
namespace Bv
open PySem PySem.Spec L2
open PyProof.Rows hiding St
def prAd (C m : Str) (K : PySem.W.Frag) : Addr := match PySem.W.recIn K (He.ma K (He.ga K C) m) "property" with
  | some (.ref g :: _) => g
  | _ => 0
abbrev OwnPr (K : PySem.W.Frag) (C m : Str) : Prop := PropOf K (He.ga K C) m (He.ma K (He.ga K C) m) (prAd C m K)
def t_prop (C m : Str) (K : PySem.W.Frag) : Bool := He.eqO (PySem.W.findIn K (.ref (He.ga K C)) m) (some (some (.ref (He.ma K (He.ga K C) m)))) && (He.eqO (PySem.W.specialIn K (.ref (He.ma K (He.ga K C) m)) "__get__") (some (some (.builtin "property.__get__"))) &&
  (decide (PySem.W.takesIn K (.ref (He.ma K (He.ga K C) m)) = some true) && (match PySem.W.recIn K (He.ma K (He.ga K C) m) "property" with
    | some (.ref _ :: _) => true
    | _ => false)))
theorem prop_ok {C m : Str} {K : PySem.W.Frag} (h : t_prop C m K = true) : OwnPr K C m := by
  obtain ⟨c1, h⟩ := He.ba h
  obtain ⟨c2, h⟩ := He.ba h
  obtain ⟨c3, c4⟩ := He.ba h
  refine ⟨He.eqO_ok c1, He.eqO_ok c2, of_decide_eq_true c3, ?_⟩
  split at c4
  · rename_i g rest q
    refine ⟨rest, ?_⟩
    have e : prAd C m K = g := by unfold prAd; rw [q]
    rw [e]; exact q
  · cases c4
variable [HasW]
/-! ### xs[::-1] -/
def g_rev (S : Sto) (x : Bv.X) : R Bv.X := if isLst S x then (match (items S x).bind ds? with
  | some ds => .ok (.d (.lst ds.reverse)) S
  | none => .bad) else .bad
def m_rev (m : M) : M := fun e S => (m e S).bind fun x S1 => g_rev S1 x
theorem AVs.rev {K : PySem.W.Frag} {W : Wd} {H : Hp} {ds : List D} {vs : List V} (h : AVs K W H ds vs) : AVs K W H ds.reverse vs.reverse := by
  induction ds generalizing vs with
  | nil => cases h; exact .nil
  | cons d r ih =>
    cases h with
    | cons a t =>
      rw [List.reverse_cons, List.reverse_cons]
      exact (ih t).append (.cons a .nil)
section
variable {X : Cx} {Wx : WX} {pos p1 p2 p3 : Pos} {o e : Expr} {mo m : M} {n : Nat}
theorem me_rev (h : ME X Wx e m) : ME X Wx (.Subscript e (.Slice none none (some (.UnaryOp .USub (.Constant (.int 1) n p1) p2)) p3) pos) (m_rev m) := PE.of (pe_revL h) fun σ H Q ⟨Z, ρ, e, S, st, ev, p⟩ => tt_bind (rel := AX X.K) st ev p fun ρ1 H1 v x S1 s1 g1 ev1 a1 q1 => by
  have q1 : PostG (AX X.K) X.K Z ρ1 H1 Wx σ Q (g_rev S1 x) := q1
  unfold g_rev at q1
  split at q1
  · rename_i hl
    cases q : (items S1 x).bind ds? with
    | none => rw [q] at q1; exact q1.elim
    | some ds =>
      rw [q] at q1
      obtain ⟨ys, h1, h2⟩ := Option.bind_eq_some_iff.mp q
      obtain ⟨b, us, rfl, hq, hp⟩ := a1.itemsL s1 h1 hl
      exact ⟨b, us, rfl, .inl (.inl hq), fun l hl => PostG.ret q1 s1 (upd_keep hl) (.d (new_lst (fun z hz => s1.thereW hz) hl (AVs.rev (AXs.ds hp h2))))⟩
  · exact q1.elim
end
/-! ### properties -/
def m_prop (C : Str) (g : List D → PR) (mo : M) : M := fun e S => (mo e S).bind fun x S1 => match x with
  | .d (.obj D fs) => if decide (D = C) then (match g [.obj D fs] with
    | .ok d => .ok (.d d) S1
    | _ => .bad) else .bad
  | _ => .bad
section
variable {X : Cx} {Wx : WX} {k j : Nat} {C f : Str} {fa : Addr} {fd : FuncData} {ps : List Str} {sp : Sp} {e : Expr} {pos : Pos} {g : List D → PR} {mo : M}
theorem getprop_okG {a dx Ca p ga : Addr} {fs : List (Str × V)} {pins : List (Addr × Obj)} {σ : St} {H : Hp} {s : Shared} {Q : VK} {b : Bool} {E' : Value → Shared → Prop} (I : Inv X pins σ H s) (ea : H a = some (.ins Ca dx fs)) (c : Cls X.K Ca) (hp : PropOf X.K Ca f p ga)
    (F : FnG X.prog X.w X.K X.mg X.base k ga fd ps sp) (gu : X.A.guards = some []) (hr : Room (k + 1) X.A) (hb : Binds X.K fd ps []) (h : sp [.ref a] H Q EN) :
    wpAny (model X.prog X.w) X.A (getAttr (.ref a) f b) (EP X pins σ Q) E' s := by
  obtain ⟨mA, O, _, _, _, _⟩ := ins_get I.hok ea
  obtain ⟨od, J, _⟩ := O.look
  obtain ⟨rest, hrec⟩ := hp.rec_
  have I1 := I.tok (s.toks + 1)
  have many : ([Value.ref a]).length = ps.length := F.len _ _ _ _ h
  have hc : (PySem.W.clsIn X.K Ca).isSome = true := by
    obtain ⟨cd, hc, _⟩ := PySem.W.any_some c.hd
    rw [hc]
    rfl
  have bd := hb { s with toks := s.toks + 1 } [.ref a] I1.kIn (by rw [List.append_nil]; exact many)
  rw [List.append_nil] at bd
  refine PySem.W.get_bind I.kIn J (PySem.W.plainGet_of (c.get f)).1 (PySem.W.findObj_data hc hp.at_ hp.get hp.tak) (PySem.W.plainGet_of (c.get f)).2 (wpAny_call (PySem.W.prop_get (s := { s with toks := s.toks + 1 }) I.kIn hrec ?_))
  refine codeAny_mono (F.run X.A.in1 X.stack { s with toks := s.toks + 1 } H ⟨[.ref a], []⟩ [.ref a] [.ref a] Q EN gu hr.in1 I1.env0.in1 bd (.cons (show RelV (V.ref a) (Value.ref a) from rfl) .nil) h) fun r s' hq => ?_
  cases r with
  | error er =>
    obtain ⟨_, _, _, _, _, _, _, _, _, _, _, _, no⟩ := hq
    exact no.elim
  | ok fl =>
    cases fl with
    | ret u =>
      obtain ⟨v, H', I3, rv, q3⟩ := I1.after hq
      show wpAny _ _ (handedOut u) _ _ _
      rw [PySem.W.handedOut_of (handed_of rv)]
      exact wpAny_pure ⟨v, H', I3, rv, q3⟩
    | next => exact False.elim hq
    | brk => exact False.elim hq
    | cont => exact False.elim hq
theorem Kept.prop (c : Kept X.prog X.w X.K X.mg X.base j (prAd C f X.K) (spP X.K 1 g)) (cl : Cls X.K (He.ga X.K C)) (P : OwnPr X.K C f) (h : Here X Wx k) (hj : j + 1 ≤ k) (ho : ME X Wx e mo)
    (hab : attributeBase e f X.env (eval e X.env) = eval e X.env := by rfl) : ME X Wx (.Attribute e f pos) (m_prop C g mo) := ⟨fun pins s σ H Q I ⟨Z, ρ, ev, S, st, evk, q⟩ => by
  obtain ⟨fd, ps, F, bd⟩ := c.ex
  refine attr_of hab (thn (ho.run pins s σ H _ I (tt_bind (R' := fun v H1 => ∃ (ad dx : Addr) (fl : List (Str × V)), v = .ref ad ∧ H1 ad = some (.ins (He.ga X.K C) dx fl) ∧ spP X.K 1 g [.ref ad] H1 Q EN) st evk q
    fun ρ1 H1 v x S1 s1 g1 ev1 a1 p1 => by
      cases a1 with
      | r _ => exact p1.elim
      | d a =>
        cases a with
        | obj w r hs =>
          rename_i D ad dx fl fs
          have p2 : PostG (AX X.K) X.K Z ρ1 H1 Wx σ Q (if decide (D = C) then (match g [.obj D fs] with
            | .ok d => .ok (.d d) S1
            | _ => .bad) else .bad) := p1
          clear p1
          by_cases hd : D = C
          · rw [if_pos (decide_eq_true hd)] at p2
            subst hd
            refine ⟨ad, dx, fl, rfl, r, rfl, Wn Z ρ1, [.obj D fs], fun a h => s1.thereW h, .cons (.obj w r hs) .nil, ?_⟩
            cases q2 : g [.obj D fs] with
            | ok d =>
              rw [q2] at p2
              exact fun H' v k a => PostG.ret p2 s1 k (.d a)
            | err _ _ => rw [q2] at p2; exact p2.elim
            | bad => rw [q2] at p2; exact p2.elim
          · rw [if_neg (by simpa using hd)] at p2; exact p2.elim
        | _ => exact p1.elim)) fun u s1 ⟨x, H1, I1, rx, ad, dx, fl, ex, ea, sp1⟩ => ?_)
  subst ex
  obtain rfl : u = Value.ref ad := rx
  exact getprop_okG I1 ea cl P F h.gu (h.room.mono hj) bd sp1⟩
end
end Bv
set_option Elab.async false
set_option linter.all false
set_option maxRecDepth 100000
set_option maxHeartbeats 4000000
/-! By value: a dict against {}; cls(). -/
namespace Bv
open PySem PySem.Spec L2
open PyProof.Rows hiding St
variable [HasW]
section
variable {X : Cx} {Wx : WX} {k : Nat}
abbrev rEmD (neg : Bool) : R2 := fun x y H Q => ∃ (a b : Addr) (ks : List (Key × V)), x = .ref a ∧ y = .ref b ∧ Rd H a (.dK ks) ∧ Rd H b (.dK []) ∧ Q (.bl (ks.isEmpty ^^ neg)) H
theorem em_hits {A : Around} {s : Shared} {ks : List (Key × V)} {va vb : List (Key × Value)} (ra : KV ks va) (rb : KV [] vb) : va.length = vb.length → PySem.W.KeqHits A s vb va true := fun h => by
  have e : vb.length = 0 := by rw [← rb.length]; rfl
  rw [e] at h
  cases va with
  | nil => exact .nil
  | cons _ _ => cases h
theorem em_b {ks : List (Key × V)} {va vb : List (Key × Value)} (ra : KV ks va) (rb : KV [] vb) : (va.length == vb.length && true) = ks.isEmpty := by
  have e : vb.length = 0 := by rw [← rb.length]; rfl
  have e2 : ks.length = va.length := ra.length
  rw [e, ← e2, Bool.and_true]
  cases ks <;> rfl
theorem op_emD (hu : X.A.units < cLine) : OpR X (compareOp .Eq) (rEmD false) := fun pins s σ H x y v u Q I rx ry h => by
  obtain ⟨a, b, ks, rfl, rfl, t1, t2, q⟩ := h
  cases rx
  cases ry
  obtain ⟨_, ya, va, ra, da⟩ := dk_rd I.hok t1
  obtain ⟨_, yb, vb, rb, db⟩ := dk_rd I.hok t2
  exact PySem.W.keq_eq (knd := mixKind X.prog X.w) (r := true) ya yb da db hu (em_hits ra rb) (fin_bl I q (by rw [em_b ra rb, Bool.xor_false]))
theorem op_emnD (hu : X.A.units < cLine) : OpR X (compareOp .NotEq) (rEmD true) := fun pins s σ H x y v u Q I rx ry h => by
  obtain ⟨a, b, ks, rfl, rfl, t1, t2, q⟩ := h
  cases rx
  cases ry
  obtain ⟨_, ya, va, ra, da⟩ := dk_rd I.hok t1
  obtain ⟨_, yb, vb, rb, db⟩ := dk_rd I.hok t2
  exact PySem.W.keq_ne (knd := mixKind X.prog X.w) (r := true) ya yb da db hu (em_hits ra rb) (fin_bl I q (by rw [em_b ra rb, Bool.xor_true]))
/-- is a dict empty: against {} -/
def emD (neg : Bool) (a b : D) : Option D := match a, b with
  | .dic kvs, .dic [] => some (.bl (kvs.isEmpty ^^ neg))
  | _, _ => none
theorem avk_len {K : PySem.W.Frag} {W : Wd} {H : Hp} : ∀ {kvs : List (D × D)} {ks : List (Key × V)}, AVk K W H kvs ks → ks.length = kvs.length
  | _, _, .nil => rfl
  | _, _, .cons _ _ t => by rw [List.length_cons, List.length_cons, avk_len t]
theorem aw_dic {K : PySem.W.Frag} {W : Wd} {H : Hp} {kvs : List (D × D)} {v : V} (a : AW K W H (.dic kvs) v) : ∃ (p : Addr) (ks : List (Key × V)), v = .ref p ∧ Rd H p (.dK ks) ∧ ks.length = kvs.length := by
  cases a with
  | av a => cases a with
    | dic w e h => exact ⟨_, _, rfl, .inr ⟨_, e⟩, avk_len h⟩
  | fdc e h => exact ⟨_, _, rfl, .inr ⟨_, e⟩, avk_len h⟩
theorem o_emD {K : PySem.W.Frag} {neg : Bool} : Op2 K (rEmD neg) (emD neg) := fun W H d1 d2 v1 v2 d Q hw a1 a2 e k => by
  unfold emD at e
  split at e
  · rename_i kvs
    cases e
    obtain ⟨p, ks, rfl, r1, h1⟩ := aw_dic a1
    obtain ⟨p2, ks2, rfl, r2, h2⟩ := aw_dic a2
    have z2 : ks2 = [] := List.length_eq_zero_iff.mp (by rw [h2]; rfl)
    subst z2
    have z : ks.isEmpty = kvs.isEmpty := by cases ks <;> cases kvs <;> first | rfl | cases h1
    refine ⟨_, _, ks, rfl, rfl, r1, r2, ?_⟩
    rw [z]
    exact k H _ (Same.refl H) (.bl _)
  · cases e
theorem Here.emD (h : Here X Wx k) : Opr X (compareOp .Eq) (Bv.emD false) := ⟨_, op_emD h.room.units0, o_emD⟩
theorem Here.emnD (h : Here X Wx k) : Opr X (compareOp .NotEq) (Bv.emD true) := ⟨_, op_emnD h.room.units0, o_emD⟩
end
section
variable {X : Cx} {Wx : WX} {pos p : Pos} {x : Str} {C : Str} {g : List Bv.X → Sto → R Bv.X}
/-- cls() -/
def m_callV0 (i : Nat) (C : Str) (g : List Bv.X → Sto → R Bv.X) : M := fun e S => (m_var i e S).bind fun x S1 => match x with
  | .d (.gl D) => if decide (D = C) then g [] S1 else .bad
  | _ => .bad
theorem me_callV0 (i : Nat) (c : CalX X Wx (.ref (He.ga X.K C)) 0 g) (hk : PySem.W.keepIn X.K (.ref (He.ga X.K C)) = true) (hN : X.N[i]? = some x := by rfl) (hv : Vis X.env.scope x := by first | exact Or.inl rfl | exact Or.inr (Or.inl rfl) | exact Or.inr (Or.inr rfl))
    (hdb : (x == ("__debug__" : Str)) = false := by decide) (hcd : (x == ("__classdict__" : Str)) = false := by decide) :
    ME X Wx (.Call (.Name x p) [] [] pos) (m_callV0 i C g) := ⟨fun pins s σ H Q I ⟨Z, ρ, e, S, st, ev, q⟩ => by
  refine wpAny_Call_Name_kw (thn ((me_var (Wx := Wx) (pos := p) i hN hv hdb hcd).run pins s σ H _ I (tt_bind (R' := fun v H1 => v = .ref (He.ga X.K C) ∧ ∃ (ρ1 : List Addr) (S1 : Sto), Sta X.K Z ρ1 S1 H1 ∧ EvOk X.K (Wn Z ρ1) ρ1 H1 e σ ∧ PostG (AX X.K) X.K Z ρ1 H1 Wx σ Q (g [] S1)) st ev q
    fun ρ1 H1 v y S1 s1 g1 ev1 a1 p1 => by
      cases a1 with
      | r _ => exact p1.elim
      | d a =>
        cases a with
        | gl D =>
          have p2 : PostG (AX X.K) X.K Z ρ1 H1 Wx σ Q (if decide (D = C) then g [] S1 else .bad) := p1
          clear p1
          by_cases hd : D = C
          · rw [if_pos (decide_eq_true hd)] at p2
            subst hd
            exact ⟨rfl, ρ1, S1, s1, ev1, p2⟩
          · rw [if_neg (by simpa using hd)] at p2; exact p2.elim
        | _ => exact p1.elim)) fun u s1 ⟨x, H1, I1, rx, ex, ρ1, S1, st1, ev1, p1⟩ => ?_)
  subst ex
  obtain rfl : u = Value.ref (He.ga X.K C) := rx
  exact PySem.W.callWith_K0 I1.kIn hk (wpAny_call (c pins s1 σ H1 Q [] [] Z ρ1 [] S1 I1 .nil st1 .nil rfl p1))⟩
end
end Bv
set_option Elab.async false
set_option linter.all false
set_option maxRecDepth 100000
set_option maxHeartbeats 4000000
/-! By value: x, y, z = a, b, c. -/
namespace Bv
open PySem PySem.Spec L2
open PyProof.Rows hiding St
variable [HasW]
section
variable {X : Cx} {Wx : WX} {pos : Pos} {a b c : Expr} {ms : MG (List Bv.X)}
def s_par3 (i j l : Nat) (ms : MG (List Bv.X)) : MS := fun e S => (ms e S).so e fun xs S1 => match xs with
  | [x, y, z] => .go (.nx (((e.set i (some x)).set j (some y)).set l (some z))) S1
  | _ => .bad
theorem mp_par3 {i j l : Nat} {x y z : Str} {px py pz pt : Pos} {kt k2 pt2} (hc : X.calm = true) (hN : X.N.Nodup) (hi : X.N[i]? = some x) (hj : X.N[j]? = some y) (hl : X.N[l]? = some z) (hij : i ≠ j) (hil : i ≠ l) (hjl : j ≠ l)
    (hx : X.env.scope.names.lookup x = some .local) (hy : X.env.scope.names.lookup y = some .local) (hz : X.env.scope.names.lookup z = some .local) (ha : MA X Wx [a, b, c] ms)
    (hw : swappedStores [.Tuple [.Name x px, .Name y py, .Name z pz] kt pt] (.Tuple [a, b, c] k2 pt2) X.env = pure (some [x, y, z]) := by rfl)
    (hs : swapsWithSole [.Tuple [.Name x px, .Name y py, .Name z pz] kt pt] (.Tuple [a, b, c] k2 pt2) pos.line X.env = pure false := by rfl) :
    MP X Wx (.Assign [.Tuple [.Name x px, .Name y py, .Name z pz] kt pt] (.Tuple [a, b, c] k2 pt2) pos) (s_par3 i j l ms) := PS.of (ps_par3 hc hN hi hj hl hij hil hjl hx hy hz ha hw hs) fun D σ H ⟨Z, ρ, e, S, st, ev, p⟩ => so_bind (rel := AXs X.K) st ev p fun ρ1 H1 vs xs S1 s1 g1 ev1 a1 p1 => by
  match xs, vs, a1, p1 with
  | [x, y, z], _, .cons h1 (.cons h2 (.cons h3 .nil)), p1 => exact ⟨_, _, _, rfl, p1.next s1 (((ev1.set h1).set h2).set h3)⟩
  | [], _, _, p1 => exact p1.elim
  | [_], _, _, p1 => exact p1.elim
  | [_, _], _, _, p1 => exact p1.elim
  | _ :: _ :: _ :: _ :: _, _, _, p1 => exact p1.elim
end
end Bv
set_option Elab.async false
set_option linter.all false
set_option maxRecDepth 100000
set_option maxHeartbeats 4000000
/-! By value: int(text). -/
namespace Bv
open PySem PySem.Spec L2
open PyProof.Rows hiding St
variable [HasW]
def g_intT : List Bv.X → Sto → R Bv.X
  | [.d (.str a)], S => if decide (a.length ≤ 640) then (match PySem.intText? a with
    | some n => .ok (.d (.int n)) S
    | none => .bad) else .bad
  | _, _ => .bad
theorem b_intT {K : PySem.W.Frag} : BinX K (fun xs H Q => ∃ a n, xs = [.str a] ∧ PySem.intText? a = some n ∧ a.length ≤ 640 ∧ Q (.int n) H) g_intT := fun Z ρ S H Wx σ xs vs Q st a h => by
  unfold g_intT at h
  split at h
  · rename_i z
    split at h
    · rename_i hl
      obtain ⟨v, rfl, b⟩ := one_d a
      have e : v = .str z := by cases b; rfl
      cases q : PySem.intText? z with
      | none => rw [q] at h; exact h.elim
      | some n =>
        rw [q] at h
        exact ⟨z, n, by rw [e], q, of_decide_eq_true hl, PostG.ret0 h st (.d (.int _))⟩
    · exact h.elim
  · exact h.elim
end Bv
set_option Elab.async false
set_option linter.all false
set_option maxRecDepth 100000
set_option maxHeartbeats 4000000
/-! Steps of the by-value functions, each by its own lemma: what is met is told, what comes is found. -/
namespace Bv
open PySem PySem.Spec L2
open PyProof.Rows hiding St
variable [HasW]
section
variable {e e1 : Ev} {S S1 S2 S3 S4 : Sto} {m ma mb mc mo mi mb' : M} {ms : MG (List X)} {mt mt2 : MG Bool} {x y z : X} {xs ys : List X} {d d1 d2 : D} {r : R X} {rb : R Bool} {ro : RO} {b c : Bool} {i : Nat}
theorem ev_var (h : e[i]? = some (some x)) : m_var i e S = .ok x S := by
  unfold m_var
  rw [h]
theorem ev_c : m_c d e S = .ok (.d d) S := rfl
theorem ev_nil : m_nil e S = .ok [] S := rfl
theorem ev_cons (h1 : m e S = .ok x S1) (h2 : ms e S1 = .ok xs S2) : m_cons m ms e S = .ok (x :: xs) S2 := by
  unfold m_cons
  rw [h1]
  show (ms e S1).bind _ = _
  rw [h2]
  rfl
theorem ev_star (h1 : m e S = .ok x S1) (hi : items S1 x = some ys) (h2 : ms e S1 = .ok xs S2) : m_star m ms e S = .ok (ys ++ xs) S2 := by
  unfold m_star
  rw [h1]
  show (match items S1 x with
    | some ys => (ms e S1).bind fun xs S2 => R.ok (ys ++ xs) S2
    | none => .bad) = _
  rw [hi]
  show (ms e S1).bind _ = _
  rw [h2]
  rfl
theorem ev_op2 {f : D → D → Option D} (h1 : ma e S = .ok x S1) (h2 : mb e S1 = .ok y S2) (h3 : x.get S2 = some d1) (h4 : y.get S2 = some d2) (h : f d1 d2 = some d) : m_op2 f ma mb e S = .ok (.d d) S2 := by
  unfold m_op2
  rw [h1]
  show (mb e S1).bind _ = _
  rw [h2]
  show op2 f S2 x y = _
  unfold op2
  rw [h3, h4]
  show (match f d1 d2 with
    | some d => R.ok (X.d d) S2
    | none => .bad) = _
  rw [h]
theorem ev_call {g : List X → Sto → R X} (h1 : ms e S = .ok xs S1) (h : g xs S1 = r) : m_call g ms e S = r := by
  unfold m_call
  rw [h1]
  exact h
/-- a def, called with all its arguments -/
theorem ev_def {n : Nat} {g : List X → Sto → R X} (hl : xs.length = n) (h : g xs S = r) : arity n (withD [] g) xs S = r := by
  unfold arity withD
  rw [if_pos (decide_eq_true hl), List.map_nil, List.append_nil]
  exact h
theorem ev_defD {n : Nat} {ds : List D} {g : List X → Sto → R X} (hl : xs.length = n) (h : g (xs ++ ds.map .d) S = r) : arity n (withD ds g) xs S = r := by
  unfold arity withD
  rw [if_pos (decide_eq_true hl)]
  exact h
theorem gets_ds : ∀ ds : List D, gets S (ds.map X.d) = some ds
  | [] => rfl
  | d :: ds => by
    show (match (X.d d).get S, gets S (ds.map X.d) with
      | some d, some l => some (d :: l)
      | _, _ => none) = _
    rw [gets_ds ds]
    rfl
theorem isD_ds : ∀ ds : List D, (ds.map X.d).all X.isD = true
  | [] => rfl
  | d :: ds => by
    rw [List.map_cons, List.all_cons, isD_ds ds]
    rfl
/-- a def of data, called with data -/
theorem ev_P {g : List D → PR} {ds : List D} (hx : xs = ds.map X.d) (h : g ds = .ok d) : callP g xs S = .ok (.d d) S := by
  subst hx
  unfold callP
  rw [gets_ds, isD_ds]
  show (match g ds with
    | .ok d => if true || d.noL then R.ok (X.d d) S else .bad
    | .err C fs => if true || D.noLf fs then .err C fs S else .bad
    | .bad => .bad) = _
  rw [h]
  rfl
theorem ev_P1 {g : List D → PR} (h : g [d1] = .ok d) : callP g [.d d1] S = .ok (.d d) S := ev_P (ds := [d1]) rfl h
theorem ev_P2 {g : List D → PR} (h : g [d1, d2] = .ok d) : callP g [.d d1, .d d2] S = .ok (.d d) S := ev_P (ds := [d1, d2]) rfl h
theorem ev_P3 {g : List D → PR} {d3 : D} (h : g [d1, d2, d3] = .ok d) : callP g [.d d1, .d d2, .d d3] S = .ok (.d d) S := ev_P (ds := [d1, d2, d3]) rfl h
/-- a def of data, called with what is data at the moment -/
theorem ev_PX {g : List D → PR} {ds : List D} (hx : gets S xs = some ds) (h : g ds = .ok d) (hn : d.noL = true) : callP g xs S = .ok (.d d) S := by
  unfold callP
  rw [hx]
  show (match g ds with
    | .ok d => if xs.all X.isD || d.noL then R.ok (X.d d) S else .bad
    | .err C fs => if xs.all X.isD || D.noLf fs then .err C fs S else .bad
    | .bad => .bad) = _
  rw [h]
  show (if xs.all X.isD || d.noL then R.ok (X.d d) S else .bad) = _
  rw [hn, Bool.or_true]
  rfl
theorem ev_Pe {g : List D → PR} {ds : List D} {C : Str} {fs : List (Str × D)} (hx : gets S xs = some ds) (h : g ds = .err C fs) (hn : D.noLf fs = true) : callP g xs S = .err C fs S := by
  unfold callP
  rw [hx]
  show (match g ds with
    | .ok d => if xs.all X.isD || d.noL then R.ok (X.d d) S else .bad
    | .err C fs => if xs.all X.isD || D.noLf fs then .err C fs S else .bad
    | .bad => .bad) = _
  rw [h]
  show (if xs.all X.isD || D.noLf fs then R.err C fs S else .bad) = _
  rw [hn, Bool.or_true]
  rfl
theorem ev_ix {j : Int} (h1 : ma e S = .ok x S1) (h2 : mb e S1 = .ok (.d (.int j)) S2) (h : ixO S2 x j = some z) : m_ix ma mb e S = .ok z S2 := by
  unfold m_ix
  rw [h1]
  show (mb e S1).bind _ = _
  rw [h2]
  show optR ((intX (.d (.int j))).bind (ixO S2 x)) S2 = _
  show optR (ixO S2 x j) S2 = _
  rw [h]
  rfl
theorem ev_attr {Cs : List Str} {f : Str} (h1 : m e S = .ok x S1) (h : attrO Cs f S1 x = some z) : m_attr Cs f m e S = .ok z S1 := by
  unfold m_attr
  rw [h1]
  show optR (attrO Cs f S1 x) S1 = _
  rw [h]
  rfl
theorem ds_ds : ∀ ds : List D, ds? (ds.map X.d) = some ds
  | [] => rfl
  | d :: ds => by
    show (match X.d d, ds? (ds.map X.d) with
      | .d v, some l => some (v :: l)
      | _, _ => none) = _
    rw [ds_ds ds]
theorem ev_tup {ds : List D} (h1 : ms e S = .ok xs S1) (hd : ds? xs = some ds) (hl : ds.length ≤ sizeLine) : m_tup ms e S = .ok (.d (.tup ds)) S1 := by
  unfold m_tup
  rw [h1]
  show dispT xs S1 = _
  unfold dispT
  rw [hd]
  show (if ds.length ≤ sizeLine then _ else _) = _
  rw [if_pos hl]
theorem ev_lst {ds : List D} (h1 : ms e S = .ok xs S1) (hd : ds? xs = some ds) (hl : ds.length ≤ sizeLine) : m_lst ms e S = .ok (.d (.lst ds)) S1 := by
  unfold m_lst
  rw [h1]
  show dispL xs S1 = _
  unfold dispL
  rw [hd]
  show (if ds.length ≤ sizeLine then _ else _) = _
  rw [if_pos hl]
theorem ev_lstN (h1 : ms e S = .ok xs S1) (hl : xs.length ≤ sizeLine) : m_lstN ms e S = .ok (.r S1.length) (S1 ++ [.lst xs]) := by
  unfold m_lstN
  rw [h1]
  show dispN xs S1 = _
  unfold dispN
  rw [if_pos hl]
theorem ev_no : m_no e S = .ok none S := rfl
theorem ev_part {j : Int} (h : m e S = .ok (.d (.int j)) S1) : m_part m e S = .ok (some j) S1 := by
  unfold m_part
  rw [h]
  rfl
theorem ev_slice {ml mh : MG (Option Int)} {lo hi : Option Int} (h1 : m e S = .ok x S1) (h2 : ml e S1 = .ok lo S2) (h3 : mh e S2 = .ok hi S3) (h : slX S3 x lo hi = some z) : m_slice m ml mh e S = .ok z S3 := by
  unfold m_slice
  rw [h1]
  show (ml e S1).bind _ = _
  rw [h2]
  show (mh e S2).bind _ = _
  rw [h3]
  show optR (slX S3 x lo hi) S3 = _
  rw [h]
  rfl
theorem ev_bm {ty : Sto → X → Bool} {g : X → List X → Sto → R X} (h1 : mo e S = .ok x S1) (ht : ty S1 x = true) (h2 : ms e S1 = .ok xs S2) (h : g x xs S2 = r) : m_bm ty g mo ms e S = r := by
  unfold m_bm
  rw [h1]
  show (if ty S1 x then (ms e S1).bind fun xs S2 => g x xs S2 else .bad) = _
  rw [ht, h2]
  exact h
theorem ev_sm1 {g : Str → X → Sto → R X} {a : Str} (h1 : mo e S = .ok (.d (.str a)) S1) (h2 : m e S1 = .ok y S2) (h : g a y S2 = r) : m_sm1 g mo m e S = r := by
  unfold m_sm1
  rw [h1]
  show (m e S1).bind _ = _
  rw [h2]
  exact h
theorem ev_meth {C f : Str} {g : List X → Sto → R X} (h1 : mo e S = .ok x S1) (ho : isOf C f S1 x = true) (h2 : ms e S1 = .ok xs S2) (h : g (x :: xs) S2 = r) : m_meth C f g mo ms e S = r := by
  unfold m_meth
  rw [h1]
  show (if isOf C f S1 x then (ms e S1).bind fun xs S2 => g (x :: xs) S2 else .bad) = _
  rw [ho, h2]
  exact h
theorem ev_cmeth {C : Str} {g : List X → Sto → R X} (h1 : mo e S = .ok (.d (.gl C)) S1) (h2 : ms e S1 = .ok xs S2) (h : g (.d (.gl C) :: xs) S2 = r) : m_cmeth C g mo ms e S = r := by
  unfold m_cmeth
  rw [h1]
  show (if decide (C = C) then (ms e S1).bind fun xs S2 => g (.d (.gl C) :: xs) S2 else .bad) = _
  rw [if_pos (decide_eq_true rfl), h2]
  exact h
theorem ev_ift (h1 : mt e S = .ok true S1) (h : ma e S1 = r) : m_if mt ma mb e S = r := by
  unfold m_if
  rw [h1]
  exact h
theorem ev_iff (h1 : mt e S = .ok false S1) (h : mb e S1 = r) : m_if mt ma mb e S = r := by
  unfold m_if
  rw [h1]
  exact h
/-! tests -/
theorem ev_tb (h : m e S = .ok (.d (.bl b)) S1) : m_tb m e S = .ok b S1 := by
  unfold m_tb
  rw [h]
  rfl
theorem ev_truth (h : m e S = .ok x S1) (ht : truthX S1 x = some b) : m_truth m e S = .ok b S1 := by
  unfold m_truth
  rw [h]
  show (match truthX S1 x with
    | some b => R.ok b S1
    | none => .bad) = _
  rw [ht]
theorem ev_notb (h : mt e S = .ok b S1) : m_notb mt e S = .ok (!b) S1 := by
  unfold m_notb
  rw [h]
  rfl
theorem ev_nott (h : mt e S = .ok true S1) : m_notb mt e S = .ok false S1 := ev_notb h
theorem ev_notf (h : mt e S = .ok false S1) : m_notb mt e S = .ok true S1 := ev_notb h
theorem ev_andt (h : mt e S = .ok true S1) (h2 : mt2 e S1 = rb) : m_andb mt mt2 e S = rb := by
  unfold m_andb
  rw [h]
  exact h2
theorem ev_andf (h : mt e S = .ok false S1) : m_andb mt mt2 e S = .ok false S1 := by
  unfold m_andb
  rw [h]
  rfl
theorem ev_ort (h : mt e S = .ok true S1) : m_orb mt mt2 e S = .ok true S1 := by
  unfold m_orb
  rw [h]
  rfl
theorem ev_orf (h : mt e S = .ok false S1) (h2 : mt2 e S1 = rb) : m_orb mt mt2 e S = rb := by
  unfold m_orb
  rw [h]
  exact h2
/-- both sides of an and, an or, that end well either way -/
theorem ev_and2 (h : mt e S = .ok b S) (h2 : b = true → mt2 e S = .ok c S) : m_andb mt mt2 e S = .ok (b && c) S := by
  cases b with
  | true => exact ev_andt h (h2 rfl)
  | false => exact ev_andf h
theorem ev_or2 (h : mt e S = .ok b S) (h2 : b = false → mt2 e S = .ok c S) : m_orb mt mt2 e S = .ok (b || c) S := by
  cases b with
  | true => exact ev_ort h
  | false => exact ev_orf h (h2 rfl)
theorem ev_bl (h : mt e S = .ok b S1) : m_bl mt e S = .ok (.d (.bl b)) S1 := by
  unfold m_bl
  rw [h]
  rfl
/-! statements -/
theorem st_seq {m1 m2 : MS} (h1 : m1 e S = .go (.nx e1) S1) (h2 : m2 e1 S1 = ro) : s_seq m1 m2 e S = ro := by
  unfold s_seq
  rw [h1]
  exact h2
theorem st_nil : s_nil e S = .go (.nx e) S := rfl
theorem st_set (h : m e S = .ok x S1) : s_set i m e S = .go (.nx (e.set i (some x))) S1 := by
  unfold s_set
  rw [h]
  rfl
theorem st_expr (h : m e S = .ok x S1) : s_expr m e S = .go (.nx e) S1 := by
  unfold s_expr
  rw [h]
  rfl
theorem st_ret (h : m e S = .ok x S1) : s_ret m e S = .go (.rt x) S1 := by
  unfold s_ret
  rw [h]
  rfl
theorem st_retP (h : m e S = .ok x S1) (hg : x.get S1 = some d) : s_retP m e S = .go (.rp d) S1 := by
  unfold s_retP
  rw [h]
  show (match x.get S1 with
    | some d => RO.go (.rp d) S1
    | none => .bad) = _
  rw [hg]
theorem st_retT {ds : List D} (h : ms e S = .ok xs S1) (hg : gets S1 xs = some ds) (hl : ds.length ≤ sizeLine) : s_retT ms e S = .go (.rp (.tup ds)) S1 := by
  unfold s_retT
  rw [h]
  show (match gets S1 xs with
    | some ds => if ds.length ≤ sizeLine then RO.go (.rp (.tup ds)) S1 else .bad
    | none => .bad) = _
  rw [hg]
  show (if ds.length ≤ sizeLine then _ else _) = _
  rw [if_pos hl]
theorem st_ift {m1 m2 : MS} (h : mt e S = .ok true S1) (h1 : m1 e S1 = ro) : s_if mt m1 m2 e S = ro := by
  unfold s_if
  rw [h]
  exact h1
theorem st_iff {m1 m2 : MS} (h : mt e S = .ok false S1) (h1 : m2 e S1 = ro) : s_if mt m1 m2 e S = ro := by
  unfold s_if
  rw [h]
  exact h1
theorem st_if {m1 m2 : MS} (h : mt e S = .ok b S1) (h1 : b = true → m1 e S1 = ro) (h2 : b = false → m2 e S1 = ro) : s_if mt m1 m2 e S = ro := by
  cases b with
  | true => exact st_ift h (h1 rfl)
  | false => exact st_iff h (h2 rfl)
theorem st_asg {t : Tg} (h : m e S = .ok x S1) (ha : t.asg S1 x e = some e1) : s_asg t m e S = .go (.nx e1) S1 := by
  unfold s_asg
  rw [h]
  show (match t.asg S1 x e with
    | some e1 => RO.go (.nx e1) S1
    | none => .bad) = _
  rw [ha]
theorem st_par {i j : Nat} (h : ms e S = .ok [x, y] S1) : s_par i j ms e S = .go (.nx ((e.set i (some x)).set j (some y))) S1 := by
  unfold s_par
  rw [h]
  rfl
theorem st_fld {Cs : List Str} {f : Str} (h1 : m e S = .ok y S1) (h2 : mo e S1 = .ok x S2) (h : fldO Cs f S2 x y = some S3) : s_fld Cs f mo m e S = .go (.nx e) S3 := by
  unfold s_fld
  rw [h1]
  show (mo e S1).so e _ = _
  rw [h2]
  show (match fldO Cs f S2 x y with
    | some S3 => RO.go (.nx e) S3
    | none => .bad) = _
  rw [h]
theorem st_sub (h1 : m e S = .ok z S1) (h2 : mo e S1 = .ok x S2) (h3 : mi e S2 = .ok y S3) (h : setO S3 x y z = some S4) : s_sub mo mi m e S = .go (.nx e) S4 := by
  unfold s_sub
  rw [h1]
  show (mo e S1).so e _ = _
  rw [h2]
  show (mi e S2).so e _ = _
  rw [h3]
  show (match setO S3 x y z with
    | some S4 => RO.go (.nx e) S4
    | none => .bad) = _
  rw [h]
theorem st_aug {f : D → D → Option D} (h1 : m_var i e S = .ok (.d d1) S) (h2 : m e S = .ok (.d d2) S1) (h : f d1 d2 = some d) : s_aug i f m e S = .go (.nx (e.set i (some (.d d)))) S1 := by
  unfold s_aug
  rw [h1]
  show (m e S).so e _ = _
  rw [h2]
  show (op2 f S1 (.d d1) (.d d2)).so e _ = _
  have : op2 f S1 (.d d1) (.d d2) = .ok (.d d) S1 := by
    show (match f d1 d2 with
      | some d => R.ok (X.d d) S1
      | none => .bad) = _
    rw [h]
  rw [this]
  rfl
theorem it_val {l : Lk} (h : m e S = .ok x S1) (hw : walkX S1 x = some (xs, l)) : i_val m e S = .ok (xs, l) S1 := by
  unfold i_val
  rw [h]
  show optR (walkX S1 x) S1 = _
  rw [hw]
  rfl
theorem st_for {t : Tg} {mt : MIt} {body : MS} {l : Lk} (h : mt e S = .ok (xs, l) S1) (h2 : forL t l body xs e S1 = ro) : s_for t mt body e S = ro := by
  unfold s_for
  rw [h]
  exact h2
theorem for_nil {t : Tg} {body : MS} {l : Lk} (h : l.ok S = true) : forL t l body [] e S = .go (.nx e) S := by
  unfold forL
  rw [if_pos h]
theorem for_nx {t : Tg} {body : MS} {l : Lk} {e2 : Ev} (h : l.ok S = true) (ha : t.asg S x e = some e1) (hb : body e1 S = .go (.nx e2) S1) (h2 : forL t l body xs e2 S1 = ro) : forL t l body (x :: xs) e S = ro := by
  unfold forL
  rw [if_pos h, ha]
  show (match body e1 S with
      | .go (.nx e2) S2 => forL t l body xs e2 S2
      | .go (.ct e2) S2 => forL t l body xs e2 S2
      | .go (.bk e2) S2 => .go (.nx e2) S2
      | r => r) = _
  rw [hb]
  exact h2
/-- a loop whose body comes back to what it began with -/
theorem for_inv {t : Tg} {body : MS} {l : Lk} (I : Ev → Sto → Prop) (hok : ∀ e S, I e S → l.ok S = true) : ∀ {xs : List X} {e : Ev} {S : Sto}, I e S → (∀ x ∈ xs, ∀ e S, I e S → ∃ e1 e2 S2, t.asg S x e = some e1 ∧ body e1 S = .go (.nx e2) S2 ∧ I e2 S2) → ∃ e2 S2, forL t l body xs e S = .go (.nx e2) S2 ∧ I e2 S2
  | [], e, S, h, _ => ⟨e, S, for_nil (hok _ _ h), h⟩
  | x :: xs, e, S, h, step => by
    obtain ⟨e1, e2, S2, h1, h2, h3⟩ := step x (by simp) e S h
    obtain ⟨e3, S3, h4, h5⟩ := for_inv I hok (xs := xs) h3 fun y hy => step y (List.mem_cons_of_mem _ hy)
    exact ⟨e3, S3, for_nx (hok _ _ h) h1 h2 h4, h5⟩
theorem ev_chT {f g : D → D → Option D} {d3 d4 : D} (h1 : ma e S = .ok x S1) (h2 : mb e S1 = .ok y S2) (hx : x.get S2 = some d1) (hy : y.get S2 = some d2) (hf : f d1 d2 = some (.bl true)) (h3 : mc e S2 = .ok z S3) (hy3 : y.get S3 = some d3) (hz : z.get S3 = some d4) (hg : g d3 d4 = some d) : m_chain f g ma mb mc e S = .ok (.d d) S3 := by
  unfold m_chain
  rw [h1]
  show (mb e S1).bind _ = _
  rw [h2]
  show (op2 f S2 x y).bind _ = _
  have o1 : op2 f S2 x y = .ok (.d (.bl true)) S2 := by
    unfold op2
    rw [hx, hy]
    show (match f d1 d2 with
      | some d => R.ok (X.d d) S2
      | none => .bad) = _
    rw [hf]
  rw [o1]
  show (mc e S2).bind _ = _
  rw [h3]
  show op2 g S3 y z = _
  unfold op2
  rw [hy3, hz]
  show (match g d3 d4 with
    | some d => R.ok (X.d d) S3
    | none => .bad) = _
  rw [hg]
theorem ev_chF {f g : D → D → Option D} (h1 : ma e S = .ok x S1) (h2 : mb e S1 = .ok y S2) (hx : x.get S2 = some d1) (hy : y.get S2 = some d2) (hf : f d1 d2 = some (.bl false)) : m_chain f g ma mb mc e S = .ok (.d (.bl false)) S2 := by
  unfold m_chain
  rw [h1]
  show (mb e S1).bind _ = _
  rw [h2]
  show (op2 f S2 x y).bind _ = _
  have o1 : op2 f S2 x y = .ok (.d (.bl false)) S2 := by
    unfold op2
    rw [hx, hy]
    show (match f d1 d2 with
      | some d => R.ok (X.d d) S2
      | none => .bad) = _
    rw [hf]
  rw [o1]
  rfl
theorem ev_not {k : Bool} (h : m e S = .ok x S1) (ht : truthX S1 x = some k) : m_not m e S = .ok (.d (.bl (!k))) S1 := ev_bl (ev_notb (ev_truth h ht))
theorem ev_andv (h : ma e S = .ok x S1) (ht : truthX S1 x = some true) (h2 : mb e S1 = r) : m_and ma mb e S = r := by
  unfold m_and
  rw [h]
  show (match truthX S1 x with
    | some true => mb e S1
    | some false => .ok x S1
    | none => .bad) = _
  rw [ht]
  exact h2
theorem ev_andvf (h : ma e S = .ok x S1) (ht : truthX S1 x = some false) : m_and ma mb e S = .ok x S1 := by
  unfold m_and
  rw [h]
  show (match truthX S1 x with
    | some true => mb e S1
    | some false => .ok x S1
    | none => .bad) = _
  rw [ht]
theorem ev_callV {C : Str} {g : List X → Sto → R X} (h : ms ((some (.d (.gl C)) :: e)) S = .ok xs S1) (h2 : g xs S1 = r) : m_callV 0 C g ms (some (.d (.gl C)) :: e) S = r := by
  have q : m_callV 0 C g ms (some (.d (.gl C)) :: e) S = if decide (C = C) then (ms (some (.d (.gl C)) :: e) S).bind g else .bad := rfl
  rw [q, if_pos (decide_eq_true rfl), h]
  exact h2
theorem st_tryXG {tab : List (Str × Bool)} {mb : MS} {C2 p : Str} {mx : Ev → SX} {o : Out} (h : mb e S = .go o S1) : s_tryX tab mb i C2 p mx e S = .go o S1 := by
  unfold s_tryX
  rw [h]
theorem st_tryXC {tab : List (Str × Bool)} {mb : MS} {C C2 p : Str} {fs : List (Str × D)} {mx : Ev → SX} {v : D} (h : mb e S = .err C fs e1 S1) (ht : tab.lookup C = some true) (hx : mx (e1.set i none) C fs = some v) (hi : i < e1.length) : s_tryX tab mb i C2 p mx e S = .err C2 [(p, v)] (e1.set i none) S1 := by
  unfold s_tryX
  rw [h]
  show (match tab.lookup C with
    | some true => (match mx (e1.set i none) C fs with
      | some f => if i < e1.length then RO.err C2 [(p, f)] (e1.set i none) S1 else .bad
      | none => .bad)
    | some false => .err C fs e1 S1
    | none => .bad) = _
  rw [ht]
  show (match mx (e1.set i none) C fs with
      | some f => if i < e1.length then RO.err C2 [(p, f)] (e1.set i none) S1 else .bad
      | none => .bad) = _
  rw [hx]
  exact if_pos hi
theorem ev_orv (h : ma e S = .ok x S1) (ht : truthX S1 x = some true) : m_or ma mb e S = .ok x S1 := by
  unfold m_or
  rw [h]
  show (match truthX S1 x with
    | some true => R.ok x S1
    | some false => mb e S1
    | none => .bad) = _
  rw [ht]
theorem ev_orvf (h : ma e S = .ok x S1) (ht : truthX S1 x = some false) (h2 : mb e S1 = r) : m_or ma mb e S = r := by
  unfold m_or
  rw [h]
  show (match truthX S1 x with
    | some true => R.ok x S1
    | some false => mb e S1
    | none => .bad) = _
  rw [ht]
  exact h2
theorem ev_orbl {p q : Bool} (h : ma e S = .ok (.d (.bl p)) S) (h2 : mb e S = .ok (.d (.bl q)) S) : m_or ma mb e S = .ok (.d (.bl (p || q))) S := by
  cases p with
  | true => exact ev_orv h rfl
  | false => exact ev_orvf h rfl h2
theorem ev_andbl {p q : Bool} (h : ma e S = .ok (.d (.bl p)) S) (h2 : mb e S = .ok (.d (.bl q)) S) : m_and ma mb e S = .ok (.d (.bl (p && q))) S := by
  cases p with
  | true => exact ev_andv h rfl h2
  | false => exact ev_andvf h rfl
theorem ev_isi {tab : List (String × Bool)} {own : List (Str × Bool)} (h : m e S = .ok x S1) (hi : isX tab own S1 x = some b) : m_isi tab own m e S = .ok (.d (.bl b)) S1 := by
  unfold m_isi
  rw [h]
  show optR ((isX tab own S1 x).map fun b => X.d (.bl b)) S1 = _
  rw [hi]
  rfl
theorem runP_nx {N : Nat} {mb : MS} {ds : List D} (h : mb (ev0 N (ds.map .d)) [] = .go (.nx e) S) : runP N mb ds = .ok .non := by
  unfold runP
  rw [h]
  rfl
theorem runP_rp {N : Nat} {mb : MS} {ds : List D} (h : mb (ev0 N (ds.map .d)) [] = .go (.rp d) S) : runP N mb ds = .ok d := by
  unfold runP
  rw [h]
  rfl
theorem runP_err {N : Nat} {mb : MS} {ds : List D} {C : Str} {fs : List (Str × D)} (h : mb (ev0 N (ds.map .d)) [] = .err C fs e S) : runP N mb ds = .err C fs := by
  unfold runP
  rw [h]
  rfl
/-! errors -/
section
variable {C p : Str} {fs : List (Str × D)} {v : D} {tab : List (Str × Bool)} {mb : MS} {j : Nat} {sx : SX}
theorem ev_consE (h : m e S = .err C fs S1) : m_cons m ms e S = .err C fs S1 := by
  unfold m_cons
  rw [h]
  rfl
theorem ev_callE {g : List X → Sto → R X} (h : ms e S = .err C fs S1) : m_call g ms e S = .err C fs S1 := by
  unfold m_call
  rw [h]
  rfl
theorem ev_subO {g : List D → PR} {fl : List (Str × D)} (h1 : ma e S = .ok (.d (.obj C fl)) S1) (h2 : mb' e S1 = .ok y S2) (h : callP g [.d (.obj C fl), y] S2 = r) : m_subO C g ma mb' e S = r := by
  unfold m_subO
  rw [h1]
  show (if decide (C = C) then (mb' e S1).bind fun y S2 => callP g [.d (.obj C fl), y] S2 else .bad) = _
  rw [if_pos (decide_eq_true rfl), h2]
  exact h
theorem st_raise (h : ms e S = .ok [.d v] S1) : s_raise C p ms e S = .err C [(p, v)] e S1 := by
  unfold s_raise
  rw [h]
  rfl
theorem st_seqE {m1 m2 : MS} (h : m1 e S = .err C fs e1 S1) : s_seq m1 m2 e S = .err C fs e1 S1 := by
  unfold s_seq
  rw [h]
  rfl
theorem st_seqR {m1 m2 : MS} {x : X} (h : m1 e S = .go (.rt x) S1) : s_seq m1 m2 e S = .go (.rt x) S1 := by
  unfold s_seq
  rw [h]
  rfl
theorem st_seqP {m1 m2 : MS} {d : D} (h : m1 e S = .go (.rp d) S1) : s_seq m1 m2 e S = .go (.rp d) S1 := by
  unfold s_seq
  rw [h]
  rfl
theorem st_exprE (h : m e S = .err C fs S1) : s_expr m e S = .err C fs e S1 := by
  unfold s_expr
  rw [h]
  rfl
theorem st_setE (h : m e S = .err C fs S1) : s_set i m e S = .err C fs e S1 := by
  unfold s_set
  rw [h]
  rfl
theorem st_retPE (h : m e S = .err C fs S1) : s_retP m e S = .err C fs e S1 := by
  unfold s_retP
  rw [h]
  rfl
theorem st_tryG {o : Out} (h : mb e S = .go o S1) : s_tryAs tab mb i j sx e S = .go o S1 := by
  unfold s_tryAs
  rw [h]
theorem st_tryC (h : mb e S = .err C fs e1 S1) (ht : tab.lookup C = some true) (hx : sx C fs = some v) (hi : i < e1.length) : s_tryAs tab mb i j sx e S = .go (.nx ((e1.set j (some (.d v))).set i none)) S1 := by
  unfold s_tryAs
  rw [h]
  show (match tab.lookup C with
    | some true => (match sx C fs with
      | some f => if i < e1.length then RO.go (.nx ((e1.set j (some (.d f))).set i none)) S1 else .bad
      | none => .bad)
    | some false => .err C fs e1 S1
    | none => .bad) = _
  rw [ht]
  show (match sx C fs with
      | some f => if i < e1.length then RO.go (.nx ((e1.set j (some (.d f))).set i none)) S1 else .bad
      | none => .bad) = _
  rw [hx]
  show (if i < e1.length then RO.go (.nx ((e1.set j (some (.d v))).set i none)) S1 else .bad) = _
  rw [if_pos hi]
end
end
/-! dicts, and what came with them -/
section
variable {e e1 : Ev} {S S1 S2 S3 S4 : Sto} {m ma mb mo mi mx : M} {ms : MG (List X)} {x y z : X} {xs : List X} {d k : D} {i : Nat} {r : R X}
theorem st_par3 {i j l : Nat} (h : ms e S = .ok [x, y, z] S1) : s_par3 i j l ms e S = .go (.nx (((e.set i (some x)).set j (some y)).set l (some z))) S1 := by
  unfold s_par3
  rw [h]
  rfl
theorem ev_din {neg b c : Bool} (h1 : mi e S = .ok y S1) (h2 : mo e S1 = .ok x S2) (h : dinB S2 y x = some b) (hc : (b ^^ neg) = c) : m_din neg mi mo e S = .ok (.d (.bl c)) S2 := by
  unfold m_din
  rw [h1]
  show (mo e S1).bind _ = _
  rw [h2]
  show optR ((dinB S2 y x).map fun b => X.d (.bl (b ^^ neg))) S2 = _
  rw [h, Option.map_some, hc]
  rfl
theorem ev_dget (h1 : mo e S = .ok x S1) (h2 : mi e S1 = .ok y S2) (h : dgetX S2 x y = r) : m_dget mo mi e S = r := by
  unfold m_dget
  rw [h1]
  show (mi e S1).bind _ = _
  rw [h2]
  exact h
theorem ev_dget1 (h1 : mo e S = .ok x S1) (hd : (dictX S1 x).isSome = true) (h2 : mi e S1 = .ok y S2) (h : (dkX S2 x y).map (fun p => (lookD p.1 p.2).getD (.d .non)) = some z) : m_dget1 mo mi e S = .ok z S2 := by
  unfold m_dget1
  rw [h1]
  show (if (dictX S1 x).isSome then (mi e S1).bind fun y S2 => optR ((dkX S2 x y).map fun p => (lookD p.1 p.2).getD (.d .non)) S2 else .bad) = _
  rw [if_pos hd, h2]
  show optR ((dkX S2 x y).map fun p => (lookD p.1 p.2).getD (.d .non)) S2 = _
  rw [h]
  rfl
theorem ev_dget2 {w : X} (h1 : mo e S = .ok x S1) (hd : (dictX S1 x).isSome = true) (h2 : mi e S1 = .ok y S2) (h3 : mx e S2 = .ok w S3) (h : (dkX S3 x y).map (fun p => (lookD p.1 p.2).getD w) = some z) : m_dget2 mo mi mx e S = .ok z S3 := by
  unfold m_dget2
  rw [h1]
  show (if (dictX S1 x).isSome then (mi e S1).bind fun y S2 => (mx e S2).bind fun z S3 => optR ((dkX S3 x y).map fun p => (lookD p.1 p.2).getD z) S3 else .bad) = _
  rw [if_pos hd, h2]
  show (mx e S2).bind _ = _
  rw [h3]
  show optR ((dkX S3 x y).map fun p => (lookD p.1 p.2).getD w) S3 = _
  rw [h]
  rfl
theorem st_dput {p : Nat × List (D × X) × D} (h1 : m e S = .ok z S1) (h2 : mo e S1 = .ok x S2) (h3 : mi e S2 = .ok y S3) (h : putX' S3 x y = some p) : s_dput mo mi m e S = .go (.nx e) (S3.set p.1 (.dic (putD p.2.1 p.2.2 z))) := by
  unfold s_dput
  rw [h1]
  show (mo e S1).so e _ = _
  rw [h2]
  show (mi e S2).so e _ = _
  rw [h3]
  show (match putX' S3 x y with
    | some p => RO.go (.nx e) (S3.set p.1 (.dic (putD p.2.1 p.2.2 z)))
    | none => .bad) = _
  rw [h]
theorem ev_rev (h1 : m e S = .ok x S1) (h : g_rev S1 x = r) : m_rev m e S = r := by
  unfold m_rev
  rw [h1]
  exact h
theorem ev_callV0 {C : Str} {g : List X → Sto → R X} (h2 : g [] S = r) : m_callV0 0 C g (some (.d (.gl C)) :: e) S = r := by
  have q : m_callV0 0 C g (some (.d (.gl C)) :: e) S = if decide (C = C) then g [] S else .bad := rfl
  rw [q, if_pos (decide_eq_true rfl)]
  exact h2
theorem ev_prop {C : Str} {fs : List (Str × D)} {g : List D → PR} (h1 : m e S = .ok (.d (.obj C fs)) S1) (h : g [.obj C fs] = .ok d) : m_prop C g m e S = .ok (.d d) S1 := by
  unfold m_prop
  rw [h1]
  show (if decide (C = C) then (match g [.obj C fs] with
    | .ok d => R.ok (X.d d) S1
    | _ => .bad) else .bad) = _
  rw [if_pos (decide_eq_true rfl), h]
theorem it_keys {q : R (List X × Lk)} (h1 : m e S = .ok x S1) (h : walkR keysOf S1 x = q) : i_keys m e S = q := by
  unfold i_keys
  rw [h1]
  exact h
theorem it_vals {q : R (List X × Lk)} (h1 : m e S = .ok x S1) (h : walkR valsOf S1 x = q) : i_vals m e S = q := by
  unfold i_vals
  rw [h1]
  exact h
theorem it_items {q : R (List X × Lk)} (h1 : m e S = .ok x S1) (h : walkR itemsOf S1 x = q) : i_items m e S = q := by
  unfold i_items
  rw [h1]
  exact h
end
end Bv
set_option Elab.async false
set_option linter.all false
set_option maxRecDepth 100000
set_option maxHeartbeats 4000000
/-! By value: dicts whose keys are tuples of ints, texts, bools, None; the readings. -/
namespace Bv
open PySem PySem.Spec L2
open PyProof.Rows hiding St
variable [HasW]
/-- a leaf of a key, as a value -/
def lfV : Leaf → V → Prop
  | .none, v => v = .non
  | .num i, v => v = .int i ∨ ∃ b, v = .bl b ∧ (if b = true then (1 : Int) else 0) = i
  | .text x, v => v = .str x
theorem lf_is {k : Leaf} {v : V} {u : Value} (h : lfV k v) (r : RelV v u) : Leaf.isOf k u = true := by
  cases k with
  | none =>
    have h : v = .non := h
    subst h
    cases (show u = Value.none from r)
    rfl
  | num i =>
    rcases (show v = .int i ∨ ∃ b, v = .bl b ∧ (if b = true then (1 : Int) else 0) = i from h) with h | ⟨b, h, e⟩
    · subst h
      obtain ⟨t, rfl⟩ := (show ∃ t, u = Value.int i t from r)
      exact decide_eq_true rfl
    · subst h
      cases (show u = Value.bool b from r)
      exact decide_eq_true e
  | text x =>
    have h : v = .str x := h
    subst h
    obtain ⟨t, rfl⟩ := (show ∃ t, u = Value.str x t from r)
    show (x == x) = true
    simp
abbrev LVs : List Leaf → List V → Prop := Paired lfV
theorem items_lf {P : Program} {w : World} : ∀ {ks : List Leaf} {vs : List V} {us : List Value}, LVs ks vs → Vals vs us → ItemsAre (leafKind P w) ks us
  | _, _, _, .nil, r => by cases r; exact .nil
  | _, _, _, .cons h t, r => by
    cases r with
    | cons a b => exact .cons (lf_is h a) (items_lf t b)
/-- a tuple that is a key -/
def TKey (K : PySem.W.Frag) (H : Hp) (b : Addr) (ks : List Leaf) : Prop := ∃ vs, SqT K H b vs ∧ LVs ks vs
abbrev TX := List Leaf × Addr × V
structure DTat (K : PySem.W.Frag) (H : Hp) (a : Addr) (xs : List TX) : Prop where
  at_ : Rd H a (TDo a xs)
  keys : ∀ q ∈ xs, TKey K H q.2.1 q.1
abbrev KTx : List TX → List (List Leaf × Addr × Value) → Prop := Paired fun p q => p.1 = q.1 ∧ p.2.1 = q.2.1 ∧ RelV p.2.2 q.2.2
def atT (xs : List TX) (k : List Leaf) : Option V := (xs.find? fun x => decide (x.1 = k)).map (·.2.2)
def putTX (xs : List TX) (k : List Leaf) (b : Addr) (v : V) : List TX := if (xs.any fun x => decide (x.1 = k)) = true then xs.map (fun x => if x.1 = k then (x.1, x.2.1, v) else x) else xs ++ [(k, b, v)]
theorem KTx.val {xs : List TX} {ys : List (List Leaf × Addr × Value)} (r : KTx xs ys) (k : List Leaf) : RelO (atT xs k) ((atKey ys k).map (·.2)) := by
  induction r with
  | nil => exact True.intro
  | @cons p q ps qs h t ih =>
    obtain ⟨h1, _, h2⟩ := h
    by_cases e : p.1 = k
    · have e' : q.1 = k := h1.symm.trans e
      have b : atKey (q :: qs) k = some q.2 := by simp [atKey, List.find?_cons, e']
      have a : atT (p :: ps) k = some p.2.2 := by simp [atT, List.find?_cons, e]
      rw [a, b]; exact h2
    · have e' : ¬ q.1 = k := fun z => e (h1.trans z)
      have b : atKey (q :: qs) k = atKey qs k := by simp [atKey, List.find?_cons, e']
      have a : atT (p :: ps) k = atT ps k := by simp [atT, List.find?_cons, e]
      rw [a, b]; exact ih
theorem KTx.any {xs : List TX} {ys : List (List Leaf × Addr × Value)} (r : KTx xs ys) (k : List Leaf) : (xs.any fun x => decide (x.1 = k)) = (atKey ys k).isSome := by
  induction r with
  | nil => rfl
  | @cons p q ps qs h t ih =>
    obtain ⟨h1, _, h2⟩ := h
    rw [List.any_cons, ih]
    by_cases e : p.1 = k
    · have e' : q.1 = k := h1.symm.trans e
      have b : atKey (q :: qs) k = some q.2 := by simp [atKey, List.find?_cons, e']
      rw [b, decide_eq_true e]; rfl
    · have e' : ¬ q.1 = k := fun z => e (h1.trans z)
      have b : atKey (q :: qs) k = atKey qs k := by simp [atKey, List.find?_cons, e']
      rw [b, decide_eq_false e]; rfl
theorem KTx.put {xs : List TX} {ys : List (List Leaf × Addr × Value)} (r : KTx xs ys) (k : List Leaf) (b : Addr) {v : V} {u : Value} (ru : RelV v u) : KTx (putTX xs k b v) (storedH ys k b u) := by
  unfold putTX storedH
  rw [r.any k]
  split
  · have g : ∀ {xs : List TX} {ys : List (List Leaf × Addr × Value)}, KTx xs ys → KTx (xs.map fun x => if x.1 = k then (x.1, x.2.1, v) else x) (ys.map (putAt k u)) := by
      intro xs ys r
      induction r with
      | nil => exact .nil
      | @cons p q ps qs h t ih =>
        obtain ⟨h1, h2, h3⟩ := h
        rw [List.map_cons, List.map_cons]
        refine .cons ?_ ih
        unfold putAt
        by_cases e : p.1 = k
        · rw [if_pos e, if_pos (h1.symm.trans e)]; exact ⟨h1, h2, ru⟩
        · rw [if_neg e, if_neg (fun z => e (h1.trans z))]; exact ⟨h1, h2, h3⟩
    exact g r
  · exact Paired.append r (.cons ⟨rfl, rfl, ru⟩ .nil)
theorem putTX_len (xs : List TX) (k : List Leaf) (b : Addr) (v : V) : (putTX xs k b v).length ≤ xs.length + 1 := by
  unfold putTX
  split <;> simp
theorem entry_is {P : Program} {w : World} (hw : w = HasW.w) (x : List Leaf × Addr × Value) : entryOfKey (tupleKind (leafKind P w)) x = (⟨lHash x.1, .ref x.2.1, x.2.2⟩ : DictEntry) := by
  subst hw
  rfl
section
variable {X : Cx} {pins : List (Addr × Obj)} {σ : L2.St} {H : Hp} {s : Shared} {a b : Addr} {y v : V} {u r : Value} {A : Around} {E : Value → Shared → Prop} {xs : List TX} {k : List Leaf}
theorem tkey_is (I : Inv X pins σ H s) (t : TKey X.K H b k) : (tupleKind (leafKind X.prog X.w)).is s.heap k b := by
  obtain ⟨vs, q, l⟩ := t
  obtain ⟨its, rv, ⟨o, ho, hc, n, hd⟩, _⟩ := I.tuple q
  exact ⟨o, its.toArray, n, ho, hc, hd, by simpa using items_lf l rv⟩
theorem dtx_of (hw : X.w = HasW.w) (I : Inv X pins σ H s) (d : DTat X.K H a xs) : (a == sysModules) = false ∧ ∃ ys, KTx xs ys ∧ s.heap.DictOfH (tupleKind (leafKind X.prog X.w)) a ys := by
  have ok : ObjOk X.prog X.w H s.heap a (TDo a xs) := d.at_.ok I.hok
  obtain ⟨⟨hd, ys, rel, o, es, ep, h1, h2, h3, h4, h5⟩, _⟩ := ok
  refine ⟨hd, ys, rel, o, es, ep, h1, h2, h3, ?_, fun x hx => ?_, h5⟩
  · rw [h4]
    exact List.map_congr_left fun x _ => (entry_is hw x).symm
  · have all : ∀ {l : List TX} {m : List (List Leaf × Addr × Value)}, KTx l m → (∀ q ∈ l, TKey X.K H q.2.1 q.1) → ∀ x ∈ m, (tupleKind (leafKind X.prog X.w)).is s.heap x.1 x.2.1 := by
      intro l m q
      induction q with
      | nil => intro _ x hx; exact nomatch hx
      | @cons p q ps qs hq t ih =>
        intro hk x hx
        rcases List.mem_cons.mp hx with e | hx
        · subst e
          rw [← hq.1, ← hq.2.1]
          exact tkey_is I (hk p (List.mem_cons_self ..))
        · exact ih (fun z hz => hk z (List.mem_cons_of_mem _ hz)) x hx
    exact all rel d.keys x hx
theorem t_getItem {Q : Value → Shared → Prop} (hw : X.w = HasW.w) (hu : A.units + 1 < cLine) (I : Inv X pins σ H s) (d : DTat X.K H a xs) (t : TKey X.K H b k) (l : atT xs k = some v) (h : ∀ w' s', Inv X pins σ H s' → RelV v w' → Q w' s') :
    wpAny (model X.prog X.w) A (getItem (.ref a) (.ref b)) Q E s := by
  obtain ⟨hd, ys, rel, dd⟩ := dtx_of hw I d
  obtain ⟨w', hw', rw'⟩ := RelO.some_of (v := v) (o := (atKey ys k).map (·.2)) (by rw [← l]; exact rel.val k)
  obtain ⟨p, hp, hp2⟩ := Option.map_eq_some_iff.mp hw'
  refine wpAny_getItem_heap (tupleKind_room_in1 hu) (tkey_is I t) dd hp ?_
  rw [hp2]
  exact h w' _ (I.tok _) rw'
theorem t_in {Q : Value → Shared → Prop} (hw : X.w = HasW.w) (hu : A.units + 1 < cLine) (I : Inv X pins σ H s) (d : DTat X.K H a xs) (t : TKey X.K H b k) (h : ∀ s', Inv X pins σ H s' → Q (.bool (atT xs k).isSome) s') :
    wpAny (model X.prog X.w) A (compareOp .In (.ref b) (.ref a)) Q E s := by
  obtain ⟨hd, ys, rel, dd⟩ := dtx_of hw I d
  refine wpAny_in_heap (tupleKind_room_in1 hu) (tkey_is I t) hd dd ?_
  have q := (rel.val k).isSome_eq
  rw [Option.isSome_map] at q
  rw [← q]
  exact h _ (I.tok _)
theorem t_notIn {Q : Value → Shared → Prop} (hw : X.w = HasW.w) (hu : A.units + 1 < cLine) (I : Inv X pins σ H s) (d : DTat X.K H a xs) (t : TKey X.K H b k) (h : ∀ s', Inv X pins σ H s' → Q (.bool (!(atT xs k).isSome)) s') :
    wpAny (model X.prog X.w) A (compareOp .NotIn (.ref b) (.ref a)) Q E s := by
  obtain ⟨hd, ys, rel, dd⟩ := dtx_of hw I d
  refine wpAny_notIn_heap (tupleKind_room_in1 hu) (tkey_is I t) hd dd ?_
  have q := (rel.val k).isSome_eq
  rw [Option.isSome_map] at q
  rw [← q]
  exact h _ (I.tok _)
theorem t_get1 {Q : Value → Shared → Prop} (hw : X.w = HasW.w) (hu : A.units + 1 < cLine) (I : Inv X pins σ H s) (d : DTat X.K H a xs) (t : TKey X.K H b k) (h : ∀ w' s', Inv X pins σ H s' → RelV ((atT xs k).getD .non) w' → Q w' s') :
    wpAny (model X.prog X.w) A (call (.builtin "dict.get") [.ref a, .ref b]) Q E s := by
  obtain ⟨hd, ys, rel, dd⟩ := dtx_of hw I d
  exact call_meetsIn PySem.F.slot_dict_get dd.typeIs PySem.F.entry_dict_get (PySem.F.args_dict_get_2 _ _) (meetsH_dict_get (tupleKind (leafKind X.prog X.w)) a b hd) ⟨tupleKind_room_in1 hu, k, ys, tkey_is I t, dd, h _ _ (I.tok _) ((rel.val k).getD rfl)⟩
theorem t_get2 {d2 : V} {Q : Value → Shared → Prop} (hw : X.w = HasW.w) (hu : A.units + 1 < cLine) (I : Inv X pins σ H s) (d : DTat X.K H a xs) (t : TKey X.K H b k) (rd : RelV d2 r) (h : ∀ w' s', Inv X pins σ H s' → RelV ((atT xs k).getD d2) w' → Q w' s') :
    wpAny (model X.prog X.w) A (call (.builtin "dict.get") [.ref a, .ref b, r]) Q E s := by
  obtain ⟨hd, ys, rel, dd⟩ := dtx_of hw I d
  exact call_meetsIn PySem.F.slot_dict_get dd.typeIs PySem.F.entry_dict_get (PySem.F.args_dict_get_3 _ _ _) (meetsH_dict_get_default (tupleKind (leafKind X.prog X.w)) a b hd r) ⟨tupleKind_room_in1 hu, k, ys, tkey_is I t, dd, h _ _ (I.tok _) ((rel.val k).getD rd)⟩
theorem tdo_new {H' : Hp} {h' : Heap} {ys : List (List Leaf × Addr × Value)} (hw : X.w = HasW.w) (hd : (a == sysModules) = false) (rel : KTx xs ys) (dd : h'.DictOfH (tupleKind (leafKind X.prog X.w)) a ys) : ObjOk X.prog X.w H' h' a (TDo a xs) := by
  obtain ⟨o, es, ep, h1, h2, h3, h4, _, h5⟩ := dd
  have e4 : es.toList = ys.map (fun x => (⟨lHash x.1, .ref x.2.1, x.2.2⟩ : DictEntry)) := by
    rw [h4]
    exact List.map_congr_left fun x _ => entry_is hw x
  exact ⟨⟨hd, ys, rel, o, es, ep, h1, h2, h3, e4, h5⟩, ⟨o, h1⟩, fun g1 g2 ⟨hd, ys, rel, o, es, ep, h1, h2, h3, h4, h5⟩ st => ⟨hd, ys, rel, o, es, ep, st o h1, h2, h3, h4, h5⟩⟩
theorem t_setItem {Q : Unit → Shared → Prop} (hw : X.w = HasW.w) (hu : A.units + 1 < cLine) (I : Inv X pins σ H s) (e : H a = some (TDo a xs)) (hk : ∀ q ∈ xs, TKey X.K H q.2.1 q.1) (t : TKey X.K H b k) (hl : xs.length < sizeLine) (rv : RelV v r)
    (h : ∀ s', Inv X pins σ (upd H a (TDo a (putTX xs k b v))) s' → Q () s') : wpAny (model X.prog X.w) A (setItem (.ref a) (.ref b) r) Q E s := by
  obtain ⟨hd, ys, rel, dd⟩ := dtx_of hw I ⟨.inl e, hk⟩
  have hz : ys.length ≤ sizeLine := by rw [← Paired.length rel]; omega
  refine wpAny_setItem_heap (hsz := hz) (tupleKind_room_in1 hu) (tkey_is I t) dd fun h' dd' hs => h _ ?_
  have he : ∃ q, h'.get? a = some q := let ⟨q, _, _, hq, _⟩ := dd'; ⟨q, hq⟩
  exact d_write I (by rw [e]; exact True.intro) hs he (tdo_new hw hd (rel.put k b rv) dd')
end
/-! ### readings and rules -/
def tTGet (K : PySem.W.Frag) (td ty : TE) : TE := fun σ H Q => td σ H fun x H1 => ty σ H1 fun y H2 => ∃ a b xs k v, x = .ref a ∧ y = .ref b ∧ DTat K H2 a xs ∧ TKey K H2 b k ∧ atT xs k = some v ∧ Q v H2
def tTIn (K : PySem.W.Frag) (neg : Bool) (ty td : TE) : TE := fun σ H Q => ty σ H fun y H1 => td σ H1 fun x H2 => ∃ a b xs k, x = .ref a ∧ y = .ref b ∧ DTat K H2 a xs ∧ TKey K H2 b k ∧ Q (.bl ((atT xs k).isSome ^^ neg)) H2
def sTPut (K : PySem.W.Frag) (td ty tv : TE) : TS := fun D σ H => tv σ H fun v H1 => td σ H1 fun x H2 => ty σ H2 fun y H3 => ∃ a b xs k, x = .ref a ∧ y = .ref b ∧ H3 a = some (TDo a xs) ∧ (∀ q ∈ xs, TKey K H3 q.2.1 q.1) ∧ TKey K H3 b k ∧ xs.length < sizeLine ∧ D.nx σ (upd H3 a (TDo a (putTX xs k b v)))
def tTGet1 (K : PySem.W.Frag) (td ty : TE) : TE := fun σ H Q => td σ H fun x H1 => ∃ a, x = .ref a ∧ (∃ xs, DTat K H1 a xs) ∧ ty σ H1 fun y H2 => ∃ b xs k, y = .ref b ∧ DTat K H2 a xs ∧ TKey K H2 b k ∧ Q ((atT xs k).getD .non) H2
def tTGet2 (K : PySem.W.Frag) (td ty tx : TE) : TE := fun σ H Q => td σ H fun x H1 => ∃ a, x = .ref a ∧ (∃ xs, DTat K H1 a xs) ∧ ty σ H1 fun y H2 => tx σ H2 fun z H3 => ∃ b xs k, y = .ref b ∧ DTat K H3 a xs ∧ TKey K H3 b k ∧ Q ((atT xs k).getD z) H3
def tTNew : TE := fun _ H Q => ∀ p, H p = none → Q (.ref p) (upd H p (TDo p []))
/-- {k: v} -/
def tTOne (K : PySem.W.Frag) (tk tv : TE) : TE := fun σ H Q => ∀ p, H p = none → tk σ (upd H p (TDo p [])) fun y H1 => tv σ H1 fun v H2 => ∃ b k, y = .ref b ∧ H2 p = some (TDo p []) ∧ TKey K H2 b k ∧ Q (.ref p) (upd H2 p (TDo p [(k, b, v)]))
section
variable {X : Cx} {o i e f value : Expr} {pos pos' tpos apos cpos : Pos} {td ty tv tx : TE}
theorem dt_facts {pins : List (Addr × Obj)} {σ : L2.St} {H : Hp} {s : Shared} {a : Addr} {xs : List TX} (hw : X.w = HasW.w) (I : Inv X pins σ H s) (d : DTat X.K H a xs) : s.TypeIs (.ref a) "dict" ∧ (∀ b, Value.ref a = .ref b → ∃ ob, s.heap.get? b = some ob ∧ ob.dict = none) := by
  obtain ⟨_, ys, rel, dd⟩ := dtx_of hw I d
  refine ⟨dd.typeIs, fun b q => ?_⟩
  cases q
  obtain ⟨ob, _, _, h1, h2, _⟩ := dd
  exact ⟨ob, h1, h2.2.1⟩
theorem pe_tget (hw : X.w = HasW.w) (hu : X.A.units + 1 < cLine) (ho : PE X o td) (hi : PE X i ty) (hs : NoSl i) : PE X (.Subscript o i pos) (tTGet X.K td ty) := by
  refine ⟨fun pins s σ H Q I h => ?_⟩
  refine subD_of PySem.F.slot_dict_getitem.lookup hs (thn (ho.run pins s σ H _ I h) fun u s1 ⟨x, H1, I1, rx, q1⟩ => thn (hi.run pins s1 σ H1 _ I1 q1) fun iv s2 ⟨y, H2, I2, ry, a, b, xs, k, v, ex, ey, d, t, l, q2⟩ => ?_)
  subst ex ey
  obtain rfl : u = Value.ref a := rx
  obtain rfl : iv = Value.ref b := ry
  exact ⟨(dt_facts hw I2 d).1, t_getItem hw hu I2 d t l fun w' s3 I3 rw' => ⟨v, H2, I3, rw', q2⟩⟩
theorem pc_tin (hw : X.w = HasW.w) (hu : X.A.units + 1 < cLine) (hi : PE X i ty) (ho : PE X o td) : PC X .In i o (tTIn X.K false ty td) := by
  refine ⟨fun pins s σ H Q I h => ?_⟩
  refine thn (hi.run pins s σ H _ I h) fun iv s1 ⟨y, H1, I1, ry, q1⟩ => thn (ho.run pins s1 σ H1 _ I1 q1) fun u s2 ⟨x, H2, I2, rx, a, b, xs, k, ex, ey, d, t, q2⟩ => ?_
  subst ex ey
  obtain rfl : u = Value.ref a := rx
  obtain rfl : iv = Value.ref b := ry
  rw [Bool.xor_false] at q2
  exact t_in hw hu I2 d t fun s3 I3 => ⟨.bl _, H2, I3, rfl, q2⟩
theorem pc_tnotin (hw : X.w = HasW.w) (hu : X.A.units + 1 < cLine) (hi : PE X i ty) (ho : PE X o td) : PC X .NotIn i o (tTIn X.K true ty td) := by
  refine ⟨fun pins s σ H Q I h => ?_⟩
  refine thn (hi.run pins s σ H _ I h) fun iv s1 ⟨y, H1, I1, ry, q1⟩ => thn (ho.run pins s1 σ H1 _ I1 q1) fun u s2 ⟨x, H2, I2, rx, a, b, xs, k, ex, ey, d, t, q2⟩ => ?_
  subst ex ey
  obtain rfl : u = Value.ref a := rx
  obtain rfl : iv = Value.ref b := ry
  rw [Bool.xor_true] at q2
  exact t_notIn hw hu I2 d t fun s3 I3 => ⟨.bl _, H2, I3, rfl, q2⟩
theorem ps_tput (hw : X.w = HasW.w) (hu : X.A.units + 1 < cLine) (ho : PE X o td) (hi : PE X i ty) (hv : PE X value tv) (hs : swapsWith value (some (.Subscript o i pos')) pos.line X.env = pure false) :
    PS X (.Assign [.Subscript o i pos'] value pos) (sTPut X.K td ty tv) := by
  refine ⟨fun pins s σ H D I h => ?_⟩
  refine wpAny_Assign_Subscript (thn (hv.run pins s σ H _ I h) fun r s1 ⟨v, H1, I1, rv, q1⟩ => thn (ho.run pins s1 σ H1 _ I1 q1) fun u s2 ⟨x, H2, I2, rx, q2⟩ => thn (hi.run pins s2 σ H2 _ I2 q2) fun iv s3 ⟨y, H3, I3, ry, a, b, xs, k, ex, ey, ea, hk, t, hl, q3⟩ => ?_) hs
  subst ex ey
  obtain rfl : u = Value.ref a := rx
  obtain rfl : iv = Value.ref b := ry
  exact t_setItem hw hu I3 ea hk t hl rv fun s4 I4 => ⟨σ, _, I4, q3⟩
theorem pe_tget1 (hw : X.w = HasW.w) (hu : X.A.units + 1 < cLine) (ho : PE X o td) (he : PE X e ty) (m : M1 X o "get" apos e cpos) : PE X (.Call (.Attribute o "get" apos) [e] [] cpos) (tTGet1 X.K td ty) := by
  refine ⟨fun pins s σ H Q I h => ?_⟩
  refine wpAny_Call_method m.base m.few m.line PySem.F.plainAttrs_dict PySem.F.slot_dict_get PySem.F.type_dict_get (thn (ho.run pins s σ H _ I h) fun u s1 ⟨x, H1, I1, rx, a, ex, ⟨xs0, d⟩, q1⟩ => ?_)
  subst ex
  obtain rfl : u = Value.ref a := rx
  obtain ⟨t1, t2⟩ := dt_facts hw I1 d
  refine ⟨t1, t2, ?_⟩
  rw [m.trees]
  refine Calls.callWith_builtin rfl (Calls.evalArgs_plain (Calls.spliced_cons (thn (he.run pins s1 σ H1 _ I1 q1) fun iv s2 ⟨y, H2, I2, ry, b, xs, k, ey, d2, t, q2⟩ => Calls.spliced_nil ?_)))
  subst ey
  obtain rfl : iv = Value.ref b := ry
  exact t_get1 hw hu I2 d2 t fun w' s3 I3 rw' => ⟨_, H2, I3, rw', q2⟩
theorem pe_tget2 (hw : X.w = HasW.w) (hu : X.A.units + 1 < cLine) (ho : PE X o td) (he : PE X e ty) (hf : PE X f tx) (m : M2 X o "get" apos e f cpos) : PE X (.Call (.Attribute o "get" apos) [e, f] [] cpos) (tTGet2 X.K td ty tx) := by
  refine ⟨fun pins s σ H Q I h => ?_⟩
  refine wpAny_Call_method m.base m.few m.line PySem.F.plainAttrs_dict PySem.F.slot_dict_get PySem.F.type_dict_get (thn (ho.run pins s σ H _ I h) fun u s1 ⟨x, H1, I1, rx, a, ex, ⟨xs0, d⟩, q1⟩ => ?_)
  subst ex
  obtain rfl : u = Value.ref a := rx
  obtain ⟨t1, t2⟩ := dt_facts hw I1 d
  refine ⟨t1, t2, ?_⟩
  rw [m.trees]
  refine Calls.callWith_builtin rfl (Calls.evalArgs_plain (Calls.spliced_cons (thn (he.run pins s1 σ H1 _ I1 q1) fun iv s2 ⟨y, H2, I2, ry, q2⟩ =>
    Calls.spliced_cons (thn (hf.run pins s2 σ H2 _ I2 q2) fun fv s3 ⟨z, H3, I3, rz, b, xs, k, ey, d3, t, q3⟩ => Calls.spliced_nil ?_))))
  subst ey
  obtain rfl : iv = Value.ref b := ry
  exact t_get2 hw hu I3 d3 t rz fun w' s4 I4 rw' => ⟨_, H3, I4, rw', q3⟩
theorem tdo_empty {H : Hp} {P : Program} {w : World} (h : Heap) (hb : sysModules < h.objs.size) : ObjOk P w H (h.push { cls := .type "dict", data := .dict #[] }) h.objs.size (TDo h.objs.size []) :=
  ⟨⟨beq_eq_false_iff_ne.mpr (Ne.symm (Nat.ne_of_lt hb)), [], .nil, _, #[], 0, Heap.get?_push_size _ rfl, ⟨rfl, rfl, rfl⟩, rfl, rfl, List.nodup_nil⟩, ⟨_, Heap.get?_push_size _ rfl⟩, fun g1 g2 ⟨hd, ys, rel, o, es, ep, h1, h2, h3, h4, h5⟩ st => ⟨hd, ys, rel, o, es, ep, st o h1, h2, h3, h4, h5⟩⟩
theorem pe_tnew : PE X (.Dict [] [] pos) tTNew := ⟨fun pins s σ H Q I h =>
  wpAny_Dict_empty ⟨.ref s.heap.objs.size, _, I.laid (a := s.heap.objs.size) (o := TDo s.heap.objs.size []) (t' := s.toks) (fun _ _ q => Heap.get?_push_of_some _ q) (Nat.le_refl _) (tdo_empty s.heap I.big), rfl, h _ (I.hok.fresh (Nat.le_refl _))⟩⟩
theorem pe_tone {kx : Expr} {tk : TE} (hw : X.w = HasW.w) (hu : X.A.units + 1 < cLine) (hk : PE X kx tk) (hv : PE X value tv) : PE X (.Dict [some kx] [value] pos) (tTOne X.K tk tv) := by
  refine ⟨fun pins s σ H Q I q => ?_⟩
  have hn := I.hok.fresh (Nat.le_refl s.heap.objs.size)
  have I1 := I.laid (a := s.heap.objs.size) (o := TDo s.heap.objs.size []) (h' := s.heap.push { cls := .type "dict", data := .dict #[] }) (t' := s.toks) (fun _ _ q => Heap.get?_push_of_some _ q) (Nat.le_refl _) (tdo_empty s.heap I.big)
  refine wpAny_Dict_any rfl rfl (by simp) (by simp) (pairTrees_cons_walk (thn (hk.run pins _ σ _ _ I1 (q _ hn)) fun u s1 ⟨y, H1, J1, ry, q1⟩ => thn (hv.run pins s1 σ H1 _ J1 q1) fun w2 s2 ⟨v, H2, I2, rv, b, k, ey, e, t, q2⟩ => pairTrees_nil_walk ?_))
  subst ey
  obtain rfl : u = Value.ref b := ry
  obtain ⟨hd, ys, rel, dd⟩ := dtx_of hw I2 ⟨.inl e, fun _ h => nomatch h⟩
  cases rel
  unfold storeAll
  rw [List.forIn_cons]
  refine wpAny_bind (wpAny_bind (wpAny_dictSet_heap (hsz := Nat.zero_le _) (knd := tupleKind (leafKind X.prog X.w)) (show X.A.units < cLine by omega) (tkey_is I2 t) dd fun h' dd' hs => wpAny_pure ?_))
  dsimp only
  rw [List.forIn_nil]
  refine wpAny_pure ⟨.ref s.heap.objs.size, _, ?_, rfl, q2⟩
  have he : ∃ q, h'.get? s.heap.objs.size = some q := let ⟨q, _, _, hq, _⟩ := dd'; ⟨q, hq⟩
  exact d_write I2 (by rw [e]; exact True.intro) hs he (tdo_new hw hd (.cons ⟨rfl, rfl, rv⟩ .nil) dd')
end
end Bv
set_option Elab.async false
set_option linter.all false
set_option maxRecDepth 100000
set_option maxHeartbeats 4000000
/-! By value: dicts whose keys are tuples: d[k], k in d, d.get, d[k] = v, {}, {k: v}. -/
namespace Bv
open PySem PySem.Spec L2
open PyProof.Rows hiding St
variable [HasW]
section
variable {α : Type}
def lookT (kvs : List (D × α)) (q : List Leaf) : Option α := (kvs.find? fun p => decide (p.1.tkey? = some q)).map (·.2)
def putT (kvs : List (D × α)) (k : D) (q : List Leaf) (v : α) : List (D × α) := if (kvs.any fun p => decide (p.1.tkey? = some q)) = true then kvs.map (fun p => if p.1.tkey? = some q then (p.1, v) else p) else kvs ++ [(k, v)]
end
/-- a dict of the store whose keys are tuples -/
def tdX (S : Sto) : X → Option (List (D × X))
  | .d _ => none
  | .r n => match S[n]? with
    | some (.tdc kvs) => some kvs
    | _ => none
def tkX (S : Sto) (x y : X) : Option (List (D × X) × D × List Leaf) := (tdX S x).bind fun kvs => match y with
  | .d k => (k.tkey?).map fun q => (kvs, k, q)
  | .r _ => none
abbrev KVT (K : PySem.W.Frag) (W : Wd) (ρ : List Addr) (H : Hp) : List (D × X) → List TX → Prop := Paired fun (p : D × X) (q : TX) => p.1.tkey? = some q.1 ∧ AV K W H p.1 (.ref q.2.1) ∧ AX K W ρ H p.2 q.2.2
theorem lvs_of {K : PySem.W.Frag} {W : Wd} {H : Hp} : ∀ {ds : List D} {vs : List V} {ks : List Leaf}, AVs K W H ds vs → leafs? ds = some ks → LVs ks vs
  | _, _, _, .nil, e => by cases e; exact .nil
  | d :: ds, v :: vs, ks, .cons h t, e => by
    have e : (match d.leaf?, leafs? ds with
      | some k, some l => some (k :: l)
      | _, _ => none) = some ks := e
    cases q : d.leaf? with
    | none => rw [q] at e; cases e
    | some k =>
      cases q2 : leafs? ds with
      | none => rw [q, q2] at e; cases e
      | some l =>
        rw [q, q2] at e
        cases e
        refine .cons ?_ (lvs_of t q2)
        cases h with
        | non => cases q; rfl
        | bl b => cases q; exact .inr ⟨b, rfl, rfl⟩
        | int i => cases q; exact .inl rfl
        | str _ => cases q; rfl
        | _ => cases q
theorem tkey_av {K : PySem.W.Frag} {W : Wd} {H : Hp} {k : D} {q : List Leaf} {v : V} (h : k.tkey? = some q) (a : AV K W H k v) : ∃ b, v = .ref b ∧ TKey K H b q := by
  cases k with
  | tup ds =>
    cases a with
    | tup t hs => exact ⟨_, rfl, _, t.sq, lvs_of hs h⟩
  | _ => cases h
section
variable {K : PySem.W.Frag} {W W' : Wd} {ρ ρ' : List Addr} {H H' : Hp} {kvs : List (D × X)} {xs : List TX} {q : List Leaf}
theorem KVT.mv (m : Mv W H W' H') (p : ρ <+: ρ') (h : KVT K W ρ H kvs xs) : KVT K W' ρ' H' kvs xs := Paired.mapP h fun _ _ z => ⟨z.1, z.2.1.mv m, z.2.2.mv m p⟩
theorem KVT.keys (h : KVT K W ρ H kvs xs) : ∀ t ∈ xs, TKey K H t.2.1 t.1 := by
  induction h with
  | nil => intro t ht; exact nomatch ht
  | @cons p x ps ys h1 _ ih =>
    intro t ht
    rcases List.mem_cons.mp ht with e | ht
    · subst e
      obtain ⟨b, e, tk⟩ := tkey_av h1.1 h1.2.1
      cases e
      exact tk
    · exact ih t ht
theorem tk_dec {p : D × X} {x : TX} (h : p.1.tkey? = some x.1) : decide (p.1.tkey? = some q) = decide (x.1 = q) := by
  rw [h]
  by_cases e : x.1 = q
  · rw [decide_eq_true e, decide_eq_true (by rw [e])]
  · rw [decide_eq_false e, decide_eq_false fun z => e (Option.some.inj z)]
theorem KVT.look (h : KVT K W ρ H kvs xs) (q : List Leaf) : (∃ d v, lookT kvs q = some d ∧ atT xs q = some v ∧ AX K W ρ H d v) ∨ (lookT kvs q = none ∧ atT xs q = none) := by
  induction h with
  | nil => exact .inr ⟨rfl, rfl⟩
  | @cons p x ps ys h1 _ ih =>
    have e := tk_dec (q := q) h1.1
    unfold lookT atT at *
    rw [List.find?_cons, List.find?_cons, e]
    cases c : decide (x.1 = q) with
    | true => exact .inl ⟨_, _, rfl, rfl, h1.2.2⟩
    | false => exact ih
theorem KVT.put {k : D} {b : Addr} {d : X} {v : V} (h : KVT K W ρ H kvs xs) (hk : k.tkey? = some q) (ak : AV K W H k (.ref b)) (av : AX K W ρ H d v) : KVT K W ρ H (putT kvs k q d) (putTX xs q b v) := by
  have ha : (kvs.any fun p => decide (p.1.tkey? = some q)) = (xs.any fun x => decide (x.1 = q)) := by
    induction h with
    | nil => rfl
    | @cons p x ps ys h1 _ ih => rw [List.any_cons, List.any_cons, ih, tk_dec h1.1]
  unfold putT putTX
  rw [ha]
  split
  · have g : ∀ {kvs : List (D × X)} {xs : List TX}, KVT K W ρ H kvs xs → KVT K W ρ H (kvs.map fun p => if p.1.tkey? = some q then (p.1, d) else p) (xs.map fun x => if x.1 = q then (x.1, x.2.1, v) else x) := by
      intro kvs xs h
      induction h with
      | nil => exact .nil
      | @cons p x ps ys h1 _ ih =>
        rw [List.map_cons, List.map_cons]
        refine .cons ?_ ih
        have e := tk_dec (q := q) h1.1
        by_cases c : x.1 = q
        · rw [if_pos c, if_pos (of_decide_eq_true (e.trans (decide_eq_true c)))]; exact ⟨h1.1, h1.2.1, av⟩
        · rw [if_neg c, if_neg (of_decide_eq_false (e.trans (decide_eq_false c)))]; exact h1
    exact g h
  · exact Paired.append h (.cons ⟨hk, ak, av⟩ .nil)
end
theorem tkX_inv {S : Sto} {x y : X} {p : List (D × X) × D × List Leaf} (h : tkX S x y = some p) : ∃ n, x = .r n ∧ S[n]? = some (.tdc p.1) ∧ y = .d p.2.1 ∧ p.2.1.tkey? = some p.2.2 := by
  obtain ⟨kvs, h1, h2⟩ := Option.bind_eq_some_iff.mp h
  cases y with
  | r _ => cases h2
  | d k =>
    obtain ⟨q, hq, e⟩ := Option.map_eq_some_iff.mp (show (k.tkey?).map (fun q => (kvs, k, q)) = some p from h2)
    subst e
    cases x with
    | d _ => cases h1
    | r n =>
      refine ⟨n, rfl, ?_, rfl, hq⟩
      unfold tdX at h1
      cases q2 : S[n]? with
      | none => simp only [q2] at h1; cases h1
      | some o =>
        simp only [q2] at h1
        cases o with
        | tdc kvs' => cases h1; rfl
        | _ => cases h1
theorem tk_at {K : PySem.W.Frag} {Z : Wd} {ρ : List Addr} {S : Sto} {H : Hp} {x y : Bv.X} {v u : V} {p : List (D × Bv.X) × D × List Leaf} (st : Sta K Z ρ S H) (a : AX K (Wn Z ρ) ρ H x v) (b : AX K (Wn Z ρ) ρ H y u) (h : tkX S x y = some p) :
    ∃ n c d xs, x = .r n ∧ ρ[n]? = some c ∧ S[n]? = some (.tdc p.1) ∧ v = .ref c ∧ u = .ref d ∧ H c = some (TDo c xs) ∧ KVT K (Wn Z ρ) ρ H p.1 xs ∧ TKey K H d p.2.2 ∧ AV K (Wn Z ρ) H p.2.1 (.ref d) ∧ p.2.1.tkey? = some p.2.2 := by
  obtain ⟨n, rfl, hS, rfl, hq⟩ := tkX_inv h
  cases a with
  | r e =>
    rename_i c
    obtain ⟨xs, h1, kv⟩ := st.ob n _ _ hS e
    cases b with
    | d b =>
      obtain ⟨d, rfl, tk⟩ := tkey_av hq b
      exact ⟨n, c, d, xs, rfl, e, hS, rfl, rfl, h1, kv, tk, b, hq⟩
def m_tget (mo mi : M) : M := fun e S => (mo e S).bind fun x S1 => (mi e S1).bind fun y S2 => optR ((tkX S2 x y).bind fun p => lookT p.1 p.2.2) S2
def m_tin (neg : Bool) (mi mo : M) : M := fun e S => (mi e S).bind fun y S1 => (mo e S1).bind fun x S2 => optR ((tkX S2 x y).map fun p => .d (.bl ((lookT p.1 p.2.2).isSome ^^ neg))) S2
def m_tget1 (mo mi : M) : M := fun e S => (mo e S).bind fun x S1 => if (tdX S1 x).isSome then (mi e S1).bind fun y S2 => optR ((tkX S2 x y).map fun p => (lookT p.1 p.2.2).getD (.d .non)) S2 else .bad
def m_tget2 (mo mi mx : M) : M := fun e S => (mo e S).bind fun x S1 => if (tdX S1 x).isSome then (mi e S1).bind fun y S2 => (mx e S2).bind fun z S3 => optR ((tkX S3 x y).map fun p => (lookT p.1 p.2.2).getD z) S3 else .bad
def m_tnewN : M := fun _ S => .ok (.r S.length) (S ++ [.tdc []])
def oneX (y v : X) (S : Sto) : R X := match y with
  | .d k => if k.tkey?.isSome then .ok (.r S.length) (S ++ [.tdc [(k, v)]]) else .bad
  | .r _ => .bad
def m_toneN (mk mv : M) : M := fun e S => (mk e S).ne.bind fun y S1 => (mv e S1).ne.bind fun v S2 => oneX y v S2
def tputX (S : Sto) (x y : X) : Option (Nat × List (D × X) × D × List Leaf) := match x with
  | .r n => (tkX S x y).bind fun p => if decide (p.1.length < sizeLine) then some (n, p) else none
  | .d _ => none
def s_tput (mo mi mv : M) : MS := fun e S => (mv e S).so e fun z S1 => (mo e S1).so e fun x S2 => (mi e S2).so e fun y S3 => match tputX S3 x y with
  | some p => .go (.nx e) (S3.set p.1 (.tdc (putT p.2.1 p.2.2.1 p.2.2.2 z)))
  | none => .bad
section
variable {X : Cx} {Wx : WX} {pos pos' apos cpos : Pos} {o i e f value kx : Expr} {mo mi mx mv mk : M}
theorem me_tget (hw : X.w = HasW.w) (hu : X.A.units + 1 < cLine) (ho : ME X Wx o mo) (hi : ME X Wx i mi) (hs : NoSl i := by intro _ _; rfl) : ME X Wx (.Subscript o i pos) (m_tget mo mi) :=
  PE.of (pe_tget hw hu ho hi hs) fun σ H Q ⟨Z, ρ, e, S, st, ev, p⟩ => tt_bind (rel := AX X.K) st ev p fun ρ1 H1 v x S1 st1 g1 ev1 a1 p1 => tt_bind (rel := AX X.K) st1 ev1 p1 fun ρ2 H2 u y S2 st2 g2 ev2 a2 p2 => by
    have ax := a1.mv (g2.mv st1) g2.pre
    obtain ⟨d, hl, p3⟩ := (show Post X.K Z ρ2 H2 Wx σ Q (optR ((tkX S2 x y).bind fun p => lookT p.1 p.2.2) S2) from p2).opt
    obtain ⟨p, h1, h2⟩ := Option.bind_eq_some_iff.mp hl
    obtain ⟨n, c, b, xs, rfl, _, _, rfl, rfl, hc, kv, tk, _, _⟩ := tk_at st2 ax a2 h1
    rcases kv.look p.2.2 with ⟨d2, w, e1, e2, aw⟩ | ⟨e1, _⟩
    · rw [h2] at e1; cases e1
      exact ⟨c, b, xs, p.2.2, w, rfl, rfl, ⟨.inl hc, kv.keys⟩, tk, e2, PostG.ret0 p3 st2 aw⟩
    · rw [h2] at e1; cases e1
theorem tin_run {neg : Bool} {σ : L2.St} {H : Hp} {Q : VK} (h : RE X.K Wx (m_tin neg mi mo) σ H Q) : tTIn X.K neg (RE X.K Wx mi) (RE X.K Wx mo) σ H Q := by
  obtain ⟨Z, ρ, e, S, st, ev, p⟩ := h
  refine tt_bind (rel := AX X.K) st ev p fun ρ1 H1 u y S1 st1 g1 ev1 a1 p1 => tt_bind (rel := AX X.K) st1 ev1 p1 fun ρ2 H2 v x S2 st2 g2 ev2 a2 p2 => ?_
  have ay := a1.mv (g2.mv st1) g2.pre
  obtain ⟨d, hl, p3⟩ := (show Post X.K Z ρ2 H2 Wx σ Q (optR ((tkX S2 x y).map fun p => .d (.bl ((lookT p.1 p.2.2).isSome ^^ neg))) S2) from p2).opt
  obtain ⟨p, h1, rfl⟩ := Option.map_eq_some_iff.mp hl
  obtain ⟨n, c, b, xs, rfl, _, _, rfl, rfl, hc, kv, tk, _, _⟩ := tk_at st2 a2 ay h1
  have e : (lookT p.1 p.2.2).isSome = (atT xs p.2.2).isSome := by rcases kv.look p.2.2 with ⟨d2, w, e1, e2, _⟩ | ⟨e1, e2⟩ <;> rw [e1, e2] <;> rfl
  rw [e] at p3
  exact ⟨c, b, xs, p.2.2, rfl, rfl, ⟨.inl hc, kv.keys⟩, tk, PostG.ret0 p3 st2 (.d (.bl _))⟩
theorem pc_mtin (hw : X.w = HasW.w) (hu : X.A.units + 1 < cLine) (hi : ME X Wx i mi) (ho : ME X Wx o mo) : PC X .In i o (RE X.K Wx (m_tin false mi mo)) := ⟨fun pins s σ H Q I h => (pc_tin hw hu hi ho).run pins s σ H Q I (tin_run h)⟩
theorem pc_mtnin (hw : X.w = HasW.w) (hu : X.A.units + 1 < cLine) (hi : ME X Wx i mi) (ho : ME X Wx o mo) : PC X .NotIn i o (RE X.K Wx (m_tin true mi mo)) := ⟨fun pins s σ H Q I h => (pc_tnotin hw hu hi ho).run pins s σ H Q I (tin_run h)⟩
theorem me_tin (hw : X.w = HasW.w) (hu : X.A.units + 1 < cLine) (hi : ME X Wx i mi) (ho : ME X Wx o mo) (hb : behindInMarks .In o = false := by rfl) : ME X Wx (.Compare i [.In] [o] pos) (m_tin false mi mo) := pe_cmp (pc_mtin hw hu hi ho) hb
theorem me_tnin (hw : X.w = HasW.w) (hu : X.A.units + 1 < cLine) (hi : ME X Wx i mi) (ho : ME X Wx o mo) (hb : behindInMarks .NotIn o = false := by rfl) : ME X Wx (.Compare i [.NotIn] [o] pos) (m_tin true mi mo) := pe_cmp (pc_mtnin hw hu hi ho) hb
theorem mt_tin (hw : X.w = HasW.w) (hu : X.A.units + 1 < cLine) (hi : ME X Wx i mi) (ho : ME X Wx o mo) (hb : behindInMarks .In o = false := by rfl) : MT X Wx (.Compare i [.In] [o] pos) (m_tb (m_tin false mi mo)) := mt_of (pc_mtin hw hu hi ho) hb
theorem mt_tnin (hw : X.w = HasW.w) (hu : X.A.units + 1 < cLine) (hi : ME X Wx i mi) (ho : ME X Wx o mo) (hb : behindInMarks .NotIn o = false := by rfl) : MT X Wx (.Compare i [.NotIn] [o] pos) (m_tb (m_tin true mi mo)) := mt_of (pc_mtnin hw hu hi ho) hb
theorem tdX_at {S : Sto} {x : Bv.X} {kvs : List (D × Bv.X)} (h : tdX S x = some kvs) : ∃ n, x = .r n ∧ S[n]? = some (.tdc kvs) := by
  cases x with
  | d _ => exact nomatch h
  | r n =>
    refine ⟨n, rfl, ?_⟩
    unfold tdX at h
    cases q2 : S[n]? with
    | none => simp only [q2] at h; cases h
    | some o =>
      simp only [q2] at h
      cases o with
      | tdc kvs' => cases h; rfl
      | _ => cases h
theorem tdX_inv {Z : Wd} {ρ : List Addr} {S : Sto} {H : Hp} {K : PySem.W.Frag} {x : Bv.X} {v : V} (st : Sta K Z ρ S H) (a : AX K (Wn Z ρ) ρ H x v) (h : (tdX S x).isSome = true) : ∃ c xs, v = .ref c ∧ DTat K H c xs := by
  obtain ⟨kvs, h⟩ := Option.isSome_iff_exists.mp h
  obtain ⟨n, rfl, q⟩ := tdX_at h
  cases a with
  | r e =>
    obtain ⟨xs, h1, kv⟩ := st.ob n _ _ q e
    exact ⟨_, xs, rfl, .inl h1, KVT.keys kv⟩
theorem me_tget1 (hw : X.w = HasW.w) (hu : X.A.units + 1 < cLine) (ho : ME X Wx o mo) (hi : ME X Wx e mi) (m : M1 X o "get" apos e cpos := by exact ⟨by rfl, by rfl, by rfl, by rfl⟩) : ME X Wx (.Call (.Attribute o "get" apos) [e] [] cpos) (m_tget1 mo mi) :=
  PE.of (pe_tget1 hw hu ho hi m) fun σ H Q ⟨Z, ρ, e, S, st, ev, p⟩ => tt_bind (rel := AX X.K) st ev p fun ρ1 H1 v x S1 st1 g1 ev1 a1 p1 => by
    have p1 : Post X.K Z ρ1 H1 Wx σ Q (if (tdX S1 x).isSome then (mi e S1).bind fun y S2 => optR ((tkX S2 x y).map fun p => (lookT p.1 p.2.2).getD (.d .non)) S2 else .bad) := p1
    by_cases c : (tdX S1 x).isSome = true
    case neg => rw [if_neg c] at p1; exact p1.elim
    rw [if_pos c] at p1
    obtain ⟨c1, xs1, rfl, d1⟩ := tdX_inv st1 a1 c
    refine ⟨c1, rfl, ⟨xs1, d1⟩, tt_bind (rel := AX X.K) st1 ev1 p1 fun ρ2 H2 u y S2 st2 g2 ev2 a2 p2 => ?_⟩
    have ax := a1.mv (g2.mv st1) g2.pre
    obtain ⟨d, hl, p3⟩ := (show Post X.K Z ρ2 H2 Wx σ Q (optR ((tkX S2 x y).map fun p => (lookT p.1 p.2.2).getD (.d .non)) S2) from p2).opt
    obtain ⟨p, h1, rfl⟩ := Option.map_eq_some_iff.mp hl
    obtain ⟨n, c2, b, xs, rfl, _, _, e0, rfl, hc, kv, tk, _, _⟩ := tk_at st2 ax a2 h1
    cases e0
    refine ⟨b, xs, p.2.2, rfl, ⟨.inl hc, kv.keys⟩, tk, ?_⟩
    rcases kv.look p.2.2 with ⟨d2, w, e1, e2, aw⟩ | ⟨e1, e2⟩
    · rw [e1] at p3; rw [e2]; exact PostG.ret0 p3 st2 aw
    · rw [e1] at p3; rw [e2]; exact PostG.ret0 p3 st2 (.d .non)
theorem me_tget2 (hw : X.w = HasW.w) (hu : X.A.units + 1 < cLine) (ho : ME X Wx o mo) (hi : ME X Wx e mi) (hx : ME X Wx f mx) (m : M2 X o "get" apos e f cpos := by exact ⟨by rfl, by rfl, by rfl, by rfl⟩) : ME X Wx (.Call (.Attribute o "get" apos) [e, f] [] cpos) (m_tget2 mo mi mx) :=
  PE.of (pe_tget2 hw hu ho hi hx m) fun σ H Q ⟨Z, ρ, e, S, st, ev, p⟩ => tt_bind (rel := AX X.K) st ev p fun ρ1 H1 v x S1 st1 g1 ev1 a1 p1 => by
    have p1 : Post X.K Z ρ1 H1 Wx σ Q (if (tdX S1 x).isSome then (mi e S1).bind fun y S2 => (mx e S2).bind fun z S3 => optR ((tkX S3 x y).map fun p => (lookT p.1 p.2.2).getD z) S3 else .bad) := p1
    by_cases c : (tdX S1 x).isSome = true
    case neg => rw [if_neg c] at p1; exact p1.elim
    rw [if_pos c] at p1
    obtain ⟨c1, xs1, rfl, d1⟩ := tdX_inv st1 a1 c
    refine ⟨c1, rfl, ⟨xs1, d1⟩, tt_bind (rel := AX X.K) st1 ev1 p1 fun ρ2 H2 u y S2 st2 g2 ev2 a2 p2 => tt_bind (rel := AX X.K) st2 ev2 p2 fun ρ3 H3 t z S3 st3 g3 ev3 a3 p3 => ?_⟩
    have ax := (a1.mv (g2.mv st1) g2.pre).mv (g3.mv st2) g3.pre
    have ay := a2.mv (g3.mv st2) g3.pre
    obtain ⟨d, hl, p4⟩ := (show Post X.K Z ρ3 H3 Wx σ Q (optR ((tkX S3 x y).map fun p => (lookT p.1 p.2.2).getD z) S3) from p3).opt
    obtain ⟨p, h1, rfl⟩ := Option.map_eq_some_iff.mp hl
    obtain ⟨n, c2, b, xs, rfl, _, _, e0, rfl, hc, kv, tk, _, _⟩ := tk_at st3 ax ay h1
    cases e0
    refine ⟨b, xs, p.2.2, rfl, ⟨.inl hc, kv.keys⟩, tk, ?_⟩
    rcases kv.look p.2.2 with ⟨d2, w, e1, e2, aw⟩ | ⟨e1, e2⟩
    · rw [e1] at p4; rw [e2]; exact PostG.ret0 p4 st3 aw
    · rw [e1] at p4; rw [e2]; exact PostG.ret0 p4 st3 a3
theorem me_tnewN : ME X Wx (.Dict [] [] pos) m_tnewN := PE.of pe_tnew fun σ H Q ⟨Z, ρ, e, S, st, ev, p⟩ => fun a ha => by
  have k := upd_keep (o := TDo a []) ha
  obtain ⟨s1, g1⟩ := st.push (o' := .tdc []) ha k ⟨[], upd_same, .nil⟩
  exact p _ _ _ s1 g1 (.r (by rw [st.len]; simp))
theorem mp_tput (hw : X.w = HasW.w) (hu : X.A.units + 1 < cLine) (ho : ME X Wx o mo) (hi : ME X Wx i mi) (hv : ME X Wx value mv) (hs : swapsWith value (some (.Subscript o i pos')) pos.line X.env = pure false := by rfl) : MP X Wx (.Assign [.Subscript o i pos'] value pos) (s_tput mo mi mv) :=
  PS.of (ps_tput hw hu ho hi hv hs) fun D σ H ⟨Z, ρ, e, S, st, ev, q⟩ => by
    refine so_bind (rel := AX X.K) st ev q fun ρ1 H1 w z S1 s1 g1 ev1 a1 q1 => so_bind (rel := AX X.K) s1 ev1 q1 fun ρ2 H2 v x S2 s2 g2 ev2 a2 q2 => so_bind (rel := AX X.K) s2 ev2 q2 fun ρ3 H3 u y S3 s3 g3 ev3 a3 q3 => ?_
    have az := (a1.mv (g2.mv s1) g2.pre).mv (g3.mv s2) g3.pre
    have ax := a2.mv (g3.mv s2) g3.pre
    have q3 : PostS X.K Z ρ3 H3 Wx D (match tputX S3 x y with
      | some p => .go (.nx e) (S3.set p.1 (.tdc (putT p.2.1 p.2.2.1 p.2.2.2 z)))
      | none => .bad) := q3
    cases h : tputX S3 x y with
    | none => rw [h] at q3; exact q3.elim
    | some p =>
      rw [h] at q3
      have q9 : PostS X.K Z ρ3 H3 Wx D (.go (.nx e) (S3.set p.1 (.tdc (putT p.2.1 p.2.2.1 p.2.2.2 z)))) := q3
      cases x with
      | d _ => cases h
      | r n =>
        obtain ⟨p2, h1, h2⟩ := Option.bind_eq_some_iff.mp (show (tkX S3 (.r n) y).bind (fun p => if decide (p.1.length < sizeLine) then some (n, p) else none) = some p from h)
        obtain ⟨h3, h4⟩ := ite_some h2
        cases h4
        obtain ⟨n', c, b, xs, e0, ha, hS, rfl, rfl, hc, kv, tk, ak, hk⟩ := tk_at s3 ax a3 h1
        cases e0
        have kv2 := kv.put hk ak az
        have inρ : c ∈ ρ3 := List.mem_of_getElem? ha
        have m : Mv (Wn Z ρ3) H3 (Wn Z ρ3) (upd H3 c (TDo c (putTX xs p2.2.2 b w))) := fun b o hb z => ⟨hb, by rw [upd_ne (fun y => hb (.inr (by rw [y]; exact inρ)))]; exact z⟩
        obtain ⟨s4, g4⟩ := s3.put (o' := .tdc (putT p2.1 p2.2.1 p2.2.2 z)) (u := TDo c (putTX xs p2.2.2 b w)) ha (fun _ _ z => by rw [hc] at z; cases z) ⟨_, upd_same, KVT.mv m (List.prefix_refl _) kv2⟩
        exact ⟨c, b, xs, p2.2.2, rfl, rfl, hc, kv.keys, tk, by rw [← Paired.length kv]; exact of_decide_eq_true h3, q9 ρ3 _ _ s4 g4 (ev3.mv (g4.mv s3) (List.prefix_refl _))⟩
theorem me_toneN (hw : X.w = HasW.w) (hu : X.A.units + 1 < cLine) (hk : ME X Wx kx mk) (hv : ME X Wx value mv) : ME X Wx (.Dict [some kx] [value] pos) (m_toneN mk mv) :=
  PE.of (pe_tone hw hu hk hv) fun σ H Q ⟨Z, ρ, e, S, st, ev, p⟩ => fun a ha => by
    have na : ¬ Wn Z ρ a := st.fresh ha
    have m0 : Mv (Wn Z ρ) H (Wn (fun c => Z c ∨ c = a) ρ) (upd H a (TDo a [])) := fun c o hc q => by
      have ne : c ≠ a := fun z => by rw [z, ha] at q; cases q
      exact ⟨fun z => z.elim (fun z => z.elim (fun z => hc (.inl z)) ne) fun z => hc (.inr z), by rw [upd_ne ne]; exact q⟩
    have k0 := upd_keep (o := TDo a []) ha
    have st0 : Sta X.K (fun c => Z c ∨ c = a) ρ S (upd H a (TDo a [])) := ⟨st.nd, fun c hc => by
      rcases hc with hc | rfl
      · obtain ⟨h1, o, h2⟩ := st.z c hc
        exact ⟨h1, o, k0 c o h2⟩
      · exact ⟨fun z => na (.inr z), _, upd_same⟩, st.len, fun n o c e1 e2 => AO.mv m0 (List.prefix_refl _) (k0 c) (st.ob n o c e1 e2)⟩
    refine ⟨_, ρ, e, S, st0, ev.mv m0 (List.prefix_refl _), ?_⟩
    have p : Post X.K Z ρ H Wx σ Q ((mk e S).ne.bind fun y S1 => (mv e S1).ne.bind fun v S2 => oneX y v S2) := p
    cases hm : mk e S with
    | err C fs S1 => rw [hm] at p; exact p.elim
    | bad => rw [hm] at p; exact p.elim
    | ok y S1 =>
      rw [hm] at p
      have p : Post X.K Z ρ H Wx σ Q ((mv e S1).ne.bind fun v S2 => oneX y v S2) := p
      intro ρ1 H1 yv s1 g1 a1
      obtain ⟨n1, h1a⟩ := g1.keep a _ (fun z => na (.inr z)) upd_same
      refine ⟨_, ρ1, e, S1, s1, (ev.mv m0 (List.prefix_refl _)).mv (g1.mv st0) g1.pre, ?_⟩
      cases hm2 : mv e S1 with
      | err C fs S2 => rw [hm2] at p; exact p.elim
      | bad => rw [hm2] at p; exact p.elim
      | ok v S2 =>
        rw [hm2] at p
        have p : Post X.K Z ρ H Wx σ Q (oneX y v S2) := p
        intro ρ2 H2 w s2 g2 a2
        obtain ⟨n2, h2a⟩ := g2.keep a _ n1 h1a
        cases y with
        | r _ => exact p.elim
        | d k =>
          have p : Post X.K Z ρ H Wx σ Q (if k.tkey?.isSome then .ok (.r S2.length) (S2 ++ [.tdc [(k, v)]]) else .bad) := p
          by_cases c : k.tkey?.isSome = true
          case neg => rw [if_neg c] at p; exact p.elim
          rw [if_pos c] at p
          obtain ⟨q, hq⟩ := Option.isSome_iff_exists.mp c
          have a1' := a1.mv (g2.mv s1) g2.pre
          cases a1' with
          | d ak =>
            obtain ⟨b, rfl, tk⟩ := tkey_av hq ak
            refine ⟨b, q, rfl, h2a, tk, ?_⟩
            have nZ : ∀ c, Z c → c ≠ a := fun c hc z => by
              obtain ⟨_, o, h2⟩ := st.z c hc
              rw [z, ha] at h2; cases h2
            have m2 : Mv (Wn (fun c => Z c ∨ c = a) ρ2) H2 (Wn Z (ρ2 ++ [a])) (upd H2 a (TDo a [(q, b, w)])) := fun c o hc z => by
              have ne : c ≠ a := fun y => hc (.inl (.inr y))
              refine ⟨fun y => y.elim (fun y => hc (.inl (.inl y))) fun y => ?_, by rw [upd_ne ne]; exact z⟩
              rcases List.mem_append.mp y with y | y
              · exact hc (.inr y)
              · exact ne (by simpa using y)
            have sN : Sta X.K Z (ρ2 ++ [a]) (S2 ++ [.tdc [(k, v)]]) (upd H2 a (TDo a [(q, b, w)])) := by
              refine ⟨?_, fun c hc => ⟨fun z => ?_, ?_⟩, by rw [List.length_append, List.length_append, s2.len]; rfl, fun n o c e1 e2 => ?_⟩
              · rw [List.nodup_append]
                exact ⟨s2.nd, by simp, fun x hx y hy z => by
                  have : y = a := by simpa using hy
                  subst this; subst z; exact n2 hx⟩
              · rcases List.mem_append.mp z with z | z
                · exact (s2.z c (.inl hc)).1 z
                · exact nZ c hc (by simpa using z)
              · obtain ⟨o, h2⟩ := (s2.z c (.inl hc)).2
                exact ⟨o, by rw [upd_ne (nZ c hc)]; exact h2⟩
              · by_cases hn : n < ρ2.length
                · rw [List.getElem?_append_left hn] at e2
                  rw [List.getElem?_append_left (by rw [s2.len]; exact hn)] at e1
                  have ne : c ≠ a := fun z => n2 (by rw [← z]; exact List.mem_of_getElem? e2)
                  exact AO.mv m2 (List.prefix_append _ _) (fun u z => by rw [upd_ne ne]; exact z) (s2.ob n o c e1 e2)
                · rw [List.getElem?_append_right (by omega)] at e2
                  rw [List.getElem?_append_right (by rw [s2.len]; omega)] at e1
                  have hz : n - ρ2.length = 0 := by
                    have := (List.getElem?_eq_some_iff.mp e2).1
                    simp at this; omega
                  rw [hz] at e2
                  rw [s2.len, hz] at e1
                  cases e1; cases e2
                  exact ⟨_, upd_same, .cons ⟨hq, ak.mv m2, a2.mv m2 (List.prefix_append _ _)⟩ .nil⟩
            have gN : Go ρ H (ρ2 ++ [a]) (upd H2 a (TDo a [(q, b, w)])) := by
              refine ⟨(g1.pre.trans g2.pre).trans (List.prefix_append _ _), fun c o hc z => ?_, fun c ob u z => ?_⟩
              · have ne : c ≠ a := fun y => by rw [y, ha] at z; cases z
                obtain ⟨h3, h4⟩ := g1.keep c o hc (k0 c o z)
                obtain ⟨h5, h6⟩ := g2.keep c o h3 h4
                exact ⟨fun y => by
                  rcases List.mem_append.mp y with y | y
                  · exact h5 y
                  · exact ne (by simpa using y), by rw [upd_ne ne]; exact h6⟩
              · have ne : c ≠ a := fun y => by rw [y, ha] at z; cases z
                rw [upd_ne ne]
                exact g2.fz c ob u (g1.fz c ob u (k0 c _ z))
            exact p _ _ _ sN gN (.r (by rw [s2.len]; simp))
end
end Bv
set_option Elab.async false
set_option linter.all false
set_option maxRecDepth 100000
set_option maxHeartbeats 4000000
/-! By value: sets of texts (any keys by value): made, filled, sorted. -/
namespace Bv
open PySem PySem.Spec L2
open PyProof.Rows hiding St
variable [HasW]
theorem paired_perm {α β : Type} {R : α → β → Prop} {l l' : List α} (p : l'.Perm l) : ∀ {ks : List β}, Paired R l ks → ∃ ks', ks'.Perm ks ∧ Paired R l' ks' := by
  induction p with
  | nil => intro ks h; cases h; exact ⟨[], .nil, .nil⟩
  | cons a _ ih =>
    intro ks h
    cases h with
    | cons h t =>
      obtain ⟨ks', p, q⟩ := ih t
      exact ⟨_, p.cons _, .cons h q⟩
  | swap a b l =>
    intro ks h
    cases h with
    | cons h t =>
      cases t with
      | cons h2 t => exact ⟨_, List.Perm.swap _ _ _, .cons h2 (.cons h t)⟩
  | trans _ _ ih1 ih2 =>
    intro ks h
    obtain ⟨k1, p1, q1⟩ := ih2 h
    obtain ⟨k2, p2, q2⟩ := ih1 q1
    exact ⟨k2, p2.trans p1, q2⟩
section
variable {P : Program} {w : World} {κ : Type} [DecidableEq κ] {knd : PySem.KeyKind P w κ} {A : Around} {E : Value → Shared → Prop} {s : Shared} {a : Addr} {xs : List κ} {k : κ} {x : Value}
def GoodK (knd : PySem.KeyKind P w κ) (e : Int × Value) (k : κ) : Prop := knd.is k e.2 = true ∧ e.1 = knd.hash k ∧ e.2.scannable = true
structure TabOk (knd : PySem.KeyKind P w κ) (es : Array (Int × Value)) (t : SetTable) (ks xs : List κ) : Prop where
  good : Paired (GoodK knd) es.toList ks
  perm : ks.Perm xs
  nd : xs.Nodup
  few : es.size < scanBound
  fits : t.fits es.size = true
  ris : Ris t.place.toList
  led : w.params.followText "set-order" = true ∨ t.led = true
/-- the set at a: its members, each once -/
def SetK (knd : PySem.KeyKind P w κ) (h : Heap) (a : Addr) (xs : List κ) : Prop := ∃ o es ep t ks, h.get? a = some o ∧ o.ExactSet ∧ o.data = .set es ep t ∧ TabOk knd es t ks xs
theorem good_el : ∀ {l : List (Int × Value)} {ks : List κ}, Paired (GoodK knd) l ks → ElemsOf knd l
  | _, _, .nil => fun _ h => nomatch h
  | _, _, .cons h t => fun e he => by
    rcases List.mem_cons.mp he with z | z
    · subst z; exact ⟨⟨_, h.1, h.2.1⟩, h.2.2⟩
    · exact good_el t e z
theorem good_in : ∀ {l : List (Int × Value)} {ks : List κ}, Paired (GoodK knd) l ks → ∀ j, (∃ e ∈ l, knd.is j e.2 = true) ↔ j ∈ ks
  | _, _, .nil => fun j => ⟨fun ⟨_, h, _⟩ => (nomatch h), fun h => (nomatch h)⟩
  | e0 :: l, k0 :: ks, .cons h t => fun j => by
    rw [List.mem_cons, ← good_in t j]
    constructor
    · rintro ⟨e, he, q⟩
      rcases List.mem_cons.mp he with z | z
      · subst z; exact .inl (knd.inj _ _ _ q h.1)
      · exact .inr ⟨e, z, q⟩
    · rintro (z | ⟨e, he, q⟩)
      · subst z; exact ⟨e0, List.mem_cons_self .., h.1⟩
      · exact ⟨e, List.mem_cons_of_mem _ he, q⟩
theorem SetK.at_ {h h' : Heap} (R : SetK knd h a xs) (st : ∀ o, h.get? a = some o → h'.get? a = some o) : SetK knd h' a xs := let ⟨o, es, ep, t, ks, ho, r⟩ := R; ⟨o, es, ep, t, ks, st o ho, r⟩
theorem setK_fresh {h : Heap} : SetK knd (h.push { cls := .type "set", dict := none, data := .set #[] 0 (.fresh 0 0 (!w.params.followText "set-order")) }) h.objs.size [] := by
  refine ⟨_, #[], 0, _, [], Heap.get?_push_size _ rfl, ⟨rfl, rfl, rfl⟩, rfl, .nil, .nil, .nil, by decide, by rfl, .nil, ?_⟩
  show _ ∨ (!w.params.followText "set-order") = true
  cases w.params.followText "set-order" with
  | true => exact .inl rfl
  | false => exact .inr rfl
theorem putTab {o : Obj} {h : Heap} {es es' : Array (Int × Value)} {ep : Nat} {t t' : SetTable} (ho : h.get? a = some o) (hd : o.data = .set es ep t) : (h.update a (Obj.putSet es' t')).get? a = some { o with data := .set es' (ep + 1) t' } := by
  have z := Heap.get?_update_self (Obj.putSet es' t') ho (by rw [putSet_of es' t' hd]; rfl)
  rwa [putSet_of es' t' hd] at z
/-- the new table is laid, again if it is too full -/
theorem setK_tail {g : Bool → Sem Unit} (hg : ∀ (b : Bool) (s₁ : Shared) (Q' : Unit → Shared → Prop), Q' () s₁ → wpAny (model P w) A (g b) Q' E s₁) {o : Obj} {es es1 : Array (Int × Value)} {ep : Nat} {t t2 : SetTable} {ks ys : List κ} {wasDummy : Bool} {R : Option Bool → Shared → Prop}
    (ho : s.heap.get? a = some o) (hex : o.ExactSet) (hd : o.data = .set es ep t) (T : TabOk knd es1 t2 ks ys) (hR : ∀ h', Heap.SameBut a s.heap h' → SetK knd h' a ys → R (some true) { s with heap := h' }) :
    wpAny (model P w) A (do
        storeSet a es1 t2
        if (!wasDummy && t2.tooFull) = true then do
            g (relayAll t2 es1 (SetTable.grown es1.size)).2.2
            storeSet a (relayAll t2 es1 (SetTable.grown es1.size)).1 (relayAll t2 es1 (SetTable.grown es1.size)).2.1
            pure (some true)
          else pure (some true)) R E s := by
  have o1 := putTab (es' := es1) (t' := t2) ho hd
  have b1 := Heap.SameBut.update s.heap a (Obj.putSet es1 t2)
  refine wpAny_bind (wpAny_storeSet_of ho hd ?_ (fits_of_scanBound T.few))
  by_cases full : (!wasDummy && t2.tooFull) = true
  · rw [if_pos full]
    have p2 := relayAll_perm t2 es1 (SetTable.grown es1.size)
    have f2 := relayAll_fits t2 es1 (SetTable.grown es1.size)
    have r2 := relayAll_ris t2 es1 (SetTable.grown es1.size)
    have l2 := relayAll_led t2 es1 (SetTable.grown es1.size)
    generalize relayAll t2 es1 (SetTable.grown es1.size) = Z at p2 f2 r2 l2 ⊢
    obtain ⟨es2, t3, gv⟩ := Z
    dsimp only at p2 f2 r2 l2 ⊢
    have sz : es2.size = es1.size := by rw [← Array.length_toList, p2.length_eq, Array.length_toList]
    obtain ⟨ks2, pk, gd⟩ := paired_perm p2 T.good
    have few2 : es2.size < scanBound := by rw [sz]; exact T.few
    refine wpAny_bind (hg _ _ _ (wpAny_bind (wpAny_storeSet_of o1 rfl ?_ (fits_of_scanBound few2))))
    exact wpAny_pure (hR _ (b1.trans (Heap.SameBut.update _ a _)) ⟨_, es2, _, t3, ks2, putTab (es' := es2) (t' := t3) o1 rfl, hex, rfl, gd, pk.trans T.perm, T.nd, few2, f2, r2, T.led.imp id fun z => by rw [l2]; exact z⟩)
  · rw [if_neg full]
    exact wpAny_pure (hR _ b1 ⟨_, es1, _, t2, ks, o1, hex, rfl, T⟩)
theorem setK_add {Q : Bool → Shared → Prop} (hk : knd.is k x = true) (hsc : x.scannable = true) (R : SetK knd s.heap a xs) (room : xs.length + 1 < scanBound)
    (hQ : ∀ h' b, Heap.SameBut a s.heap h' → SetK knd h' a (if k ∈ xs then xs else xs ++ [k]) → Q b { s with heap := h' }) : wpAny (model P w) A (setAddHashed a x (knd.hash k)) Q E s := by
  obtain ⟨o, es, ep, t, ks, ho, hex, hd, T⟩ := R
  have el := good_el T.good
  have sz : es.size = xs.length := by rw [← Array.length_toList, Paired.length T.good, T.perm.length_eq]
  unfold setAddHashed setAddHashedIn
  refine wpAny_holding (wpAny_bind (wpAny_setState_of ho hd T.fits ?_))
  dsimp only
  rw [byScan_of hsc T.few el]
  simp only [↓reduceIte]
  unfold setAddByScan
  refine wpAny_bind (wpAny_bind (wpAny_rule (wpAny_bind (wpAny_setScan_of hk ho hd T.fits el ?_))))
  cases fi : List.findIdx? (fun e => knd.is k e.2) es.toList with
  | some j =>
    dsimp only
    obtain ⟨hj, pj, _⟩ := List.findIdx?_eq_some_iff_getElem.mp fi
    have inx : k ∈ xs := T.perm.mem_iff.mp ((good_in T.good k).mp ⟨_, List.getElem_mem hj, pj⟩)
    have z := hQ s.heap false (Heap.SameBut.refl a s.heap) ⟨o, es, ep, t, ks, ho, hex, hd, by rw [if_pos inx]; exact T⟩
    exact wpAny_pure (wpAny_pure z)
  | none =>
    dsimp only
    have out : k ∉ ks := fun z => by
      obtain ⟨e, he, q⟩ := (good_in T.good k).mpr z
      have c := List.findIdx?_eq_none_iff.mp fi e he
      rw [q] at c
      cases c
    have outx : k ∉ xs := fun z => out (T.perm.mem_iff.mpr z)
    have pm := layNew_perm t es (knd.hash k) x
    have f1 := layNew_fits t es (knd.hash k) x
    have r1 := layNew_ris t es (knd.hash k) x T.ris
    have l1 := layNew_led t es (knd.hash k) x
    generalize layNew t es (knd.hash k) x = Z at pm f1 r1 l1 ⊢
    obtain ⟨es1, t1, wd, gave⟩ := Z
    dsimp only at pm f1 r1 l1 ⊢
    rw [Array.toList_push] at pm
    obtain ⟨ks1, pk, gd⟩ := paired_perm pm (Paired.append T.good (.cons (show GoodK knd (knd.hash k, x) k from ⟨hk, rfl, hsc⟩) .nil))
    have px : ks1.Perm (xs ++ [k]) := pk.trans (T.perm.append_right [k])
    have nx : (xs ++ [k]).Nodup := (List.perm_append_singleton k xs).nodup_iff.mpr (List.nodup_cons.mpr ⟨outx, T.nd⟩)
    have few1 : es1.size < scanBound := by
      rw [← Array.length_toList, Paired.length gd, px.length_eq, List.length_append]
      exact room
    have led1 : w.params.followText "set-order" = true ∨ t1.led = true := T.led.imp id fun z => by rw [l1]; exact z
    have fin : ∀ h', Heap.SameBut a s.heap h' → SetK knd h' a (xs ++ [k]) → Q true { s with heap := h' } := fun h' sb r => hQ h' true sb (by rw [if_neg outx]; exact r)
    have gw : ∀ (b : Bool) {s₁ : Shared} {Q' : Unit → Shared → Prop}, Q' () s₁ → wpAny (model P w) A (match b with | true => rule "set.scan.the-table-gave-way" | false => pure ()) Q' E s₁ := fun b s₁ Q' q => by
      cases b with
      | true => exact wpAny_rule q
      | false => exact wpAny_pure q
    refine wpAny_bind (gw _ ?_)
    split
    · refine wpAny_bind ?_
      rw [hashByValue_scannable 8 hsc]
      refine wpAny_pure ?_
      refine setK_tail (ks := ks1) (ys := xs ++ [k]) ?_ ho hex hd ⟨gd, px, nx, few1, ?_, ?_, ?_⟩ ?_
      · intro b s₁ Q' q
        cases b <;> first | exact wpAny_pure q | exact wpAny_rule q
      · first | (split <;> first | exact f1 | exact SetTable.fits_plain_off f1) | exact f1
      · first | (split <;> exact r1) | exact r1
      · first | (split <;> exact led1) | exact led1
      · intro h' sb r; dsimp only; exact wpAny_pure (fin h' sb r)
    · refine wpAny_bind (wpAny_pure ?_)
      simp only [↓reduceIte]
      refine setK_tail (ks := ks1) (ys := xs ++ [k]) ?_ ho hex hd ⟨gd, px, nx, few1, f1, r1, led1⟩ ?_
      · intro b s₁ Q' q
        cases b <;> first | exact wpAny_pure q | exact wpAny_rule q
      · intro h' sb r; dsimp only; exact wpAny_pure (fin h' sb r)
end
/-! ### of texts -/
abbrev SetS (P : Program) (w : World) (h : Heap) (a : Addr) (xs : List Str) : Prop := SetK (PySem.strKind P w) h a xs
theorem saw_step (xs : List Str) (k : Str) : (if k ∈ xs then xs else xs ++ [k]) = sawStep xs k := by
  unfold sawStep
  by_cases c : k ∈ xs
  · rw [if_pos c, if_pos (List.contains_iff_mem.mpr c)]
  · rw [if_neg c, if_neg (fun z => c (List.contains_iff_mem.mp z))]
section
variable {P : Program} {w : World} {A : Around} {E : Value → Shared → Prop} {s : Shared} {a : Addr} {xs : List Str}
/-- s.add(x) -/
theorem setS_add {x : Str} {tk : Tok} {Q : Value → Shared → Prop} (R : SetS P w s.heap a xs) (room : xs.length + 1 < scanBound) (hQ : ∀ h', Heap.SameBut a s.heap h' → SetS P w h' a (sawStep xs x) → Q .none { s with heap := h', toks := s.toks + 1 }) :
    wpAny (model P w) A (call (.builtin "set.add") [.ref a, .str x tk]) Q E s := by
  have ty : s.TypeIs (.ref a) "set" := by
    obtain ⟨o, es, ep, t, ks, ho, hex, _⟩ := R
    exact ⟨o, ho, hex.1⟩
  refine wpAny_call_entry PySem.F.slot_set_add ty PySem.F.entry_set_add ?_ (PySem.F.args_set_add_2 _ _)
  unfold Builtin.«set.add» Builtin.Frozenset.oneOther
  simp only [List.isEmpty_nil, bind_assoc]
  unfold Builtin.Frozenset.addrOf setAdd
  refine wpAny_bind (wpAny_pure ?_)
  try dsimp only
  refine wpAny_bind (wpAny_pure ?_)
  try dsimp only
  refine wpAny_bind (wpAny_holding (wpAny_bind ((PySem.strKind P w).pyHash (k := x) (strKind_is _ _ _ _) ?_)))
  refine setK_add (knd := PySem.strKind P w) (s := { s with toks := s.toks + 1 }) (strKind_is _ _ _ _) rfl R room fun h' b sb r => ?_
  rw [saw_step] at r
  show wpAny _ _ (ret Value.none) _ _ _
  exact wpAny_pure ⟨_, rfl, hQ h' sb r⟩
theorem good_strs : ∀ {l : List (Int × Value)} {ks : List Str}, Paired (GoodK (PySem.strKind P w)) l ks → StrsAre (l.map (·.2)) ks
  | _, _, .nil => .nil
  | e :: l, k :: ks, .cons h t => by
    obtain ⟨tk, q⟩ := Value.isStrOf_shape (show Value.isStrOf k e.2 = true from h.1)
    rw [List.map_cons, q]
    exact .cons k tk (good_strs t)
theorem strs_perm {us vs : List Value} (p : us.Perm vs) : ∀ {ss : List Str}, StrsAre vs ss → ∃ ss', ss'.Perm ss ∧ StrsAre us ss' := by
  induction p with
  | nil => intro ss h; cases h; exact ⟨[], .nil, .nil⟩
  | cons a _ ih =>
    intro ss h
    cases h with
    | cons x t h =>
      obtain ⟨ss', p, q⟩ := ih h
      exact ⟨_, p.cons _, .cons x t q⟩
  | swap a b l =>
    intro ss h
    cases h with
    | cons x t h =>
      cases h with
      | cons y t2 h => exact ⟨_, List.Perm.swap _ _ _, .cons y t2 (.cons x t h)⟩
  | trans _ _ ih1 ih2 =>
    intro ss h
    obtain ⟨k1, p1, q1⟩ := ih2 h
    obtain ⟨k2, p2, q2⟩ := ih1 q1
    exact ⟨k2, p2.trans p1, q2⟩
/-- sorted(s) -/
theorem sorted_setS {Q : Value → Shared → Prop} (R : SetS P w s.heap a xs) (hh : A.handled = none)
    (hQ : ∀ s' p (out : Array Value) (c : Nat) (ss : List Str), (∀ b o, s.heap.get? b = some o → s'.heap.get? b = some o) → s'.gens = s.gens → s'.os = s.os → s.heap.objs.size ≤ p →
      s'.heap.get? p = some (seqObj "list" out c) → StrsAre out.toList ss → ss.Perm xs → sortedS ss = true → Q (.ref p) s') :
    wpAny (model P w) A (call (.builtin "sorted") [.ref a]) Q E s := by
  obtain ⟨o, es, ep, t, ks, ho, hex, hd, T⟩ := R
  have few := T.few
  unfold scanBound at few
  refine Calls.call_function_entry PyProof.Rows.kind_sorted PyProof.Rows.plain_sorted PyProof.Rows.entry_sorted (PyProof.Rows.args_sorted1 _) ?_
  unfold Builtin.«sorted»
  refine wpAny_bind (m := checkCount "sorted" 1 1 _) (wpAny_pure ?_)
  refine wpAny_bind (collect_set (A := A.in1) hh ⟨o, ho, hex.1, hd⟩ T.fits T.few T.ris T.led fun s1 vs k1 hz g1 o1 pm => ?_)
  obtain ⟨ss, ps, sa⟩ := strs_perm pm (good_strs T.good)
  have vl : vs.length ≤ sizeLine := by rw [pm.length_eq, List.length_map, Array.length_toList, sizeLine_eq]; omega
  refine wpAny_bind (wpAny_newList ?_ vl)
  have oL : (s1.heap.push (seqObj "list" vs.toArray 0)).get? s1.heap.objs.size = some (seqObj "list" vs.toArray 0) := Heap.get?_push_size _ rfl
  refine wpAny_bind (wpAny_holding (wpAny_call_entry PyProof.Rows.slot_list_sort ⟨_, oL, rfl⟩ PyProof.Rows.entry_list_sort (PyProof.Rows.list_sort_treeKAny PyProof.Rows.strKind_oneLt oL sa.keysOf (fun v₁ v₂ rest e => PyProof.Rows.keyKind_strs (by rw [← e]; exact sa)) vl fun st' hp hs => ⟨_, rfl, ?_⟩) (PyProof.Rows.args_list_sort _)))
  obtain ⟨ss', h1, h2, h3⟩ := PyProof.Rows.sorted_out_str sa hp hs
  obtain ⟨c, hc⟩ := PyProof.Rows.sortedHeap_at (vs := vs) (out := (PyProof.Rows.arrOf st').map (·.2)) oL
  refine wpAny_pure ⟨_, rfl, hQ _ s1.heap.objs.size _ c ss' (fun b u e => ?_) g1 o1 hz hc h1 (h2.trans (ps.trans T.perm)) h3⟩
  have q := k1 b u e
  have lt := Heap.lt_size q
  show (PyProof.Rows.sortedHeap (s1.heap.push (seqObj "list" vs.toArray 0)) s1.heap.objs.size vs _).get? b = some u
  rw [PyProof.Rows.sortedHeap_old (Nat.ne_of_lt lt) (by rw [PyProof.Rows.size_push']; exact Nat.lt_succ_of_lt lt)]
  exact Heap.get?_push_of_some _ q
end
end Bv
set_option Elab.async false
set_option linter.all false
set_option maxRecDepth 100000
set_option maxHeartbeats 4000000
/-! By value: sets of texts in the layer's heap, sorted. -/
namespace Bv
open PySem PySem.Spec L2
open PyProof.Rows hiding St
variable [HasW]
/-! ### in the layer's heap -/
def SetSO (P : Program) (w : World) (a : Addr) (xs : List Str) : HO := .ext fun h => SetS P w h a xs
theorem setSO_new {P : Program} {w : World} {H : Hp} {h : Heap} {a : Addr} {xs : List Str} (R : SetS P w h a xs) : ObjOk P w H h a (SetSO P w a xs) :=
  ⟨R, let ⟨o, _, _, _, _, ho, _⟩ := R; ⟨o, ho⟩, fun _ _ p k => SetK.at_ p k⟩
section
variable {X : Cx}
theorem setSO_get {pins : List (Addr × Obj)} {σ : L2.St} {H : Hp} {s : Shared} {a : Addr} {xs : List Str} (I : Inv X pins σ H s) (ha : H a = some (SetSO X.prog X.w a xs)) : SetS X.prog X.w s.heap a xs := (I.hok a _ ha).1
def rSortedSS (P : Program) (w : World) : List V → Hp → VK → Prop := fun vs H Q => ∃ (a : Addr) (xs : List Str), vs = [V.ref a] ∧ H a = some (SetSO P w a xs) ∧ ∀ p, H p = none → Q (.ref p) (upd H p (.lst ((sortS xs).map V.str)))
theorem cr_sortedSS (hc : X.calm = true) : CallR X (.builtin "sorted") (rSortedSS X.prog X.w) := by
  intro pins s σ H vs us Q I r h
  obtain ⟨a, xs, rfl, ha, q⟩ := h
  have R := setSO_get I ha
  rw [Vals.ref1 r]
  refine sorted_setS R (I.ok.hd hc) fun s' p out c ss k g ho hp hg hi pm hs => ?_
  rw [eq_sortS pm hs] at hi
  have hlen : ((sortS xs).map V.str).length ≤ sizeLine := by
    rw [List.length_map, (sortS_perm xs).length_eq, sizeLine_eq]
    obtain ⟨o, es, ep, t, ks, _, _, _, T⟩ := R
    have few := T.few
    unfold scanBound at few
    have e : es.size = xs.length := by rw [← Array.length_toList, Paired.length T.good, T.perm.length_eq]
    omega
  have J : Inv X pins σ (upd H p (.lst ((sortS xs).map V.str))) { s with heap := s'.heap, gens := s'.gens, drawn := s'.drawn, toks := s'.toks } :=
    I.call (ch := []) (Un.laid k hp (I.hok.fresh hp)) (I.hok.laid k hp ⟨hlen, out.toList, c, vals_of_strs hi, hg⟩) (by rw [g]; exact I.bare) (fun _ z => nomatch z)
  have e : s' = { s with heap := s'.heap, gens := s'.gens, drawn := s'.drawn, toks := s'.toks } := by
    obtain ⟨h1, h2, h3, h4, h5⟩ := s'
    obtain rfl : h5 = s.os := ho
    rfl
  rw [e]
  exact ⟨.ref p, _, J, rfl, q p (I.hok.fresh hp)⟩
end
end Bv
set_option Elab.async false
set_option linter.all false
set_option maxRecDepth 100000
set_option maxHeartbeats 4000000
/-! By value: sorted({text for ..}). -/
namespace Bv
open PySem PySem.Spec L2
open PyProof.Rows hiding St
variable [HasW]
/-- {elt for target in iter if ..}, elt a text: D the new set -/
def tScS (P : Program) (w : World) (wi : TI) (g : TG) (tt : TT) (te : TE) (vs : List Nat) : TE := fun σ H Q => wi σ H fun J H1 => ∀ D, H1 D = none → ∃ W : Nat → Nat → Hp → Prop, (∃ m, W 0 m (upd H1 D (SetSO P w D []))) ∧ ∀ i m H, W i m H →
  (J.stop i H ∧ Q (.ref D) H) ∨ (J.go i H ∧ ∃ Nx : Hp → Prop, (∀ H', Nx H' → ∃ m', m' < m ∧ W (i + 1) m' H') ∧ ∀ x H', J.yld i H x H' → g x (wipe σ vs) H' fun σ2 H2 => wipe σ2 vs = wipe σ vs ∧ tt σ2 H2 fun b H3 =>
    if b = true then te σ2 H3 fun y H4 => ∃ (c : Str) (xs : List Str), y = .str c ∧ H4 D = some (SetSO P w D xs) ∧ xs.length + 1 < scanBound ∧ Nx (upd H4 D (SetSO P w D (sawStep xs c))) else Nx H3)
section
variable {X : Cx}
theorem addS_ok {pins : List (Addr × Obj)} {σ : L2.St} {H : Hp} {s : Shared} {E : Value → Shared → Prop} {D : Addr} {xs : List Str} {c : Str} {tk : Tok} {Q : Value → Shared → Prop} (I : Inv X pins σ H s) (hD : H D = some (SetSO X.prog X.w D xs)) (room : xs.length + 1 < scanBound)
    (h : ∀ s', Inv X pins σ (upd H D (SetSO X.prog X.w D (sawStep xs c))) s' → Q .none s') : wpAny (model X.prog X.w) X.A (call (.builtin "set.add") [.ref D, .str c tk]) Q E s :=
  setS_add (setSO_get I hD) room fun h' sb new => h _ (I.write (e := D) (t' := s.toks + 1) (by rw [hD]; exact True.intro) (.inl rfl) (fun b u hb hu => (sb.2 b hb).trans hu) (let ⟨o, _, _, _, _, ho, _⟩ := new; ⟨o, ho⟩) (setSO_new new))
theorem pe_scS {elt tg iter : Expr} {ifs : List Expr} {scope : Scope} {own : List (Str × Nat)} {pos : Pos} {wi : TI} {g : TG} {tt : TT} {te : TE} (hc : X.calm = true) (hN : X.N.Nodup) (hi : PI X tg iter wi) (ok : BlkOk X.N X.env.scope scope own)
    (hg : ∀ (s : Shared) (H : Hp) (C : Addr) (cl : List (Str × Addr)) (fp : List Addr), PG (X.blk s H scope (compEnvC scope cl C X.env) fp) tg g) (ht : ∀ (s : Shared) (H : Hp) (C : Addr) (cl : List (Str × Addr)) (fp : List Addr), PTs (X.blk s H scope (compEnvC scope cl C X.env) fp) ifs tt)
    (he : ∀ (s : Shared) (H : Hp) (C : Addr) (cl : List (Str × Addr)) (fp : List Addr), PE (X.blk s H scope (compEnvC scope cl C X.env) fp) elt te) (hs : ∀ x, foldedSetIterable iter X.env x = pure x := by intro _; rfl) :
    PE X (.SetComp elt [⟨tg, iter, ifs, 0⟩] scope pos) (tScS X.prog X.w wi g tt te (own.map (·.2))) := by
  refine ⟨fun pins s σ H Q I h => ?_⟩
  rw [PpSet.eval_SetComp]
  have free : ∀ y ∈ scope.names, y.2 = .free → ∃ c, X.env.cells.lookup y.1 = some c := fun y hy e => (ok.free y hy e).elim (fun k => I.ok.has _ (.inl k)) fun k => I.ok.has _ (.inr k)
  refine wpAny_comprehension_free (use := none) rfl hs (closure_ok free) ok.kind (fun y hy e => by rw [ok.uniq y hy, e]) (thn (hi.run pins s σ H _ I h) fun xv sa hx => thn hx fun itv sb ⟨it, fp, tn, J, Hb, e, Ib, T, stb, fb, q⟩ => ?_)
  subst e
  refine PpSet.newSet_ok (newEnv_comp ?_)
  generalize hD : sb.heap.objs.size = D
  obtain ⟨W, ⟨m0, w0⟩, turn⟩ := q D (Ib.hok.fresh (Nat.le_of_eq hD))
  generalize hsc : ({ sb with heap := sb.heap.push { cls := .type "set", dict := none, data := .set #[] 0 (.fresh 0 0 (!X.w.params.followText "set-order")) } } : Shared) = sc
  have hcp : sc.heap = sb.heap.push { cls := .type "set", dict := none, data := .set #[] 0 (.fresh 0 0 (!X.w.params.followText "set-order")) } := by rw [← hsc]
  have up : ∀ b o, sb.heap.get? b = some o → sc.heap.get? b = some o := fun b o e => by rw [hcp]; exact Heap.get?_push_of_some _ e
  generalize hHc : upd Hb D (SetSO X.prog X.w D []) = Hc at w0
  have Ic : Inv X pins σ Hc sc := by
    rw [← hHc, ← hsc]
    refine Ib.laid (t' := sb.toks) (fun b o e => Heap.get?_push_of_some _ e) (Nat.le_of_eq hD) ?_
    rw [← hD]
    exact setSO_new (setK_fresh (knd := PySem.strKind X.prog X.w))
  have fc : ∀ b ∈ fp, FpOk X pins Hc b ∧ b < sc.heap.objs.size := fun b hb => by
    obtain ⟨o, e, _⟩ := T.obj _ _ stb b hb
    have lt := Heap.lt_size e
    refine ⟨⟨?_, (fb b hb).2⟩, by rw [hcp, Heap.size_push]; exact Nat.lt_succ_of_lt lt⟩
    rw [← hHc, upd_ne (by rw [← hD]; exact Nat.ne_of_lt lt)]
    exact (fb b hb).1
  have stc : tn 0 sc.heap := T.keep _ _ _ stb fun b _ o e => up b o e
  have Id := block_start Ic ok hN fc
  have pg := hg sc Hc sc.heap.objs.size (cellsFrom (sc.heap.objs.size + 1) scope.names (cloFrom X.env.cells scope.names [])) fp
  have pt := ht sc Hc sc.heap.objs.size (cellsFrom (sc.heap.objs.size + 1) scope.names (cloFrom X.env.cells scope.names [])) fp
  have pe := he sc Hc sc.heap.objs.size (cellsFrom (sc.heap.objs.size + 1) scope.names (cloFrom X.env.cells scope.names [])) fp
  generalize hce : compEnvC scope (cellsFrom (sc.heap.objs.size + 1) scope.names (cloFrom X.env.cells scope.names [])) sc.heap.objs.size X.env = ce at Id pg pt pe
  have cL : ce.locals = sc.heap.objs.size := by subst hce; rfl
  generalize hsd : ({ sc with heap := pushCells (sc.heap.push { cls := .type "dict", data := .dict #[] }) scope.names } : Shared) = sd at Id
  have std : tn 0 sd.heap := T.keep _ _ _ stc fun b _ o e => by rw [← hsd]; exact pushCells_keeps _ _ _ _ (Heap.get?_push_of_some _ e)
  have stat : ∀ {τ : L2.St} {G : Hp} {r : Shared}, Inv (X.blk sc Hc scope ce fp) [] τ G r → (∀ b ∈ fp, G b = none) → ∀ b ∈ fp, FpOk (X.blk sc Hc scope ce fp) [] G b := fun {τ G r} J2 hn b hb =>
    ⟨hn b hb, (J2.ok.exf b hb).1, J2.ok.exfs b hb, .inl hb, fun x c e => (J2.ok.exf b hb).2 x c e, fun p hp => nomatch (show p ∈ ([] : List (Addr × Obj)) from hp)⟩
  have loop : codeAny (model X.prog X.w) X.A (.compLoop (.SetComp elt [⟨tg, iter, ifs, 0⟩] scope pos) 0 (.ref it) (.ref D) ce) (compPost (model X.prog X.w) X.A X.xe none (EP X pins σ Q) (.ref D) sc.heap.objs.size) sd := by
    refine PpSet.compLoopS_any (fun n r => ∃ i G, Inv (X.blk sc Hc scope ce fp) [] (wipe σ (own.map (·.2))) G r ∧ tn i r.heap ∧ (∀ b ∈ fp, G b = none) ∧ W i n G) ?_ m0 ⟨0, Hc, Id, std, fun b hb => (fc b hb).1.1, w0⟩
    rintro n s5 ⟨i, H5, I5, st5, n5, w5⟩
    rcases turn i n H5 w5 with ⟨stop, qq⟩ | ⟨go, Nx, hNx, step⟩
    · refine thnF (T.done (X.blk sc Hc scope ce fp) rfl rfl rfl hc i [] s5 _ H5 (fun _ _ => False) I5 (stat I5 n5) st5 stop) fun r s6 ⟨hr, I6⟩ => ?_
      subst hr
      have I7 : Inv X pins σ H5 s6 := Ic.call' (ch := fp) I6.os I6.base I6.hok I6.bare fun b hb => ⟨(fc b hb).1.2.2.2.1, (fc b hb).1.2.1, (fc b hb).1.2.2.2.2.1, (fc b hb).1.2.2.2.2.2⟩
      have nC : H5 sc.heap.objs.size = none := by
        have z : H5 ce.locals = none := I6.free
        rwa [cL] at z
      obtain ⟨m, hn, _⟩ := I6.loc
      have hn : s6.heap.Ns ce.locals m := hn
      rw [cL] at hn
      obtain ⟨f0, f1, f2, f3, f4, f5⟩ := Ic.fpOk (Nat.le_refl _) nC
      exact ⟨m, hn, fun h'' sb' => ⟨.ref D, H5, I7.turned (t' := s6.toks) (fun b o hb e => (sb'.2 b hb).trans e) f0 f1 f3 f4 f5, rfl, qq⟩⟩
    · refine thnF (T.item (X.blk sc Hc scope ce fp) rfl rfl rfl hc i [] s5 _ H5 (fun _ _ => False) I5 (stat I5 n5) st5 go) fun r s6 ⟨u, hr, h6⟩ => ?_
      subst hr
      refine thnF h6 fun _ s7 ⟨x, H7, I7, r7, y7, st7, n7⟩ => ?_
      refine thnF (pg.run _ s7 _ H7 x u _ (I7.pinned (stat I7 n7) (T.obj _ _ st7)) r7 (step x H7 y7)) fun _ s8 ⟨σ8, H8, I8, hw8, q8⟩ => thnF (pt.run _ s8 σ8 H8 _ I8 q8) fun b s9 ⟨H9, I9, q9⟩ => ?_
      have fin : ∀ {r : Shared} {G : Hp}, Inv (X.blk sc Hc scope ce fp) ([] ++ pinsAt fp s7.heap) σ8 G r → Nx G → ∃ m, m < n ∧ ∃ i G, Inv (X.blk sc Hc scope ce fp) [] (wipe σ (own.map (·.2))) G r ∧ tn i r.heap ∧ (∀ b ∈ fp, G b = none) ∧ W i m G := fun {r G} J2 nx => by
        obtain ⟨m', hm, w'⟩ := hNx G nx
        have pin : ∀ b ∈ fp, ∀ o, s7.heap.get? b = some o → r.heap.get? b = some o ∧ G b = none := fun b hb o e =>
          have z := J2.pin (b, o) (List.mem_append_right _ (List.mem_append_right _ (mem_pinsAt hb e)))
          ⟨z.1, z.2.1⟩
        refine ⟨m', hm, i + 1, G, (J2.unpinned (pins := [])).weak (by rw [← hw8, wipe_length]) (fun j v e => ?_), T.keep _ _ _ st7 fun b hb o e => (pin b hb o e).1, fun b hb => ?_, w'⟩
        · rw [← hw8] at e
          exact (wipe_some e).1
        · obtain ⟨o, e, _⟩ := T.obj _ _ st7 b hb
          exact (pin b hb o e).2
      cases b with
      | false =>
        simp only [Bool.false_eq_true, if_false] at q9 ⊢
        exact fin I9 q9
      | true =>
        simp only [if_true] at q9 ⊢
        refine thnF (pe.run _ s9 σ8 H9 _ I9 q9) fun z s10 ⟨yv, H10, I10, r10, c, xs, ey, hD10, room, nx⟩ => ?_
        subst ey
        obtain ⟨tk, rfl⟩ := (show ∃ t, z = Value.str c t from r10)
        exact addS_ok (X := X.blk sc Hc scope ce fp) I10 hD10 room fun s11 I11 => fin I11 nx
  have fini := PpSet.codeAny_compStart_set loop (T.self X.A 0 _ _ _ std loop)
  rw [← hce] at fini
  exact fini
end
end Bv
set_option Elab.async false
set_option linter.all false
set_option maxRecDepth 100000
set_option maxHeartbeats 4000000
/-! By value: sorted({text for ..}), its function. -/
namespace Bv
open PySem PySem.Spec L2
open PyProof.Rows hiding St
variable [HasW]
def strsD? : List D → Option (List Str)
  | [] => some []
  | .str z :: r => (strsD? r).map (z :: ·)
  | _ :: _ => none
theorem strsD_inv : ∀ {ds : List D} {zs : List Str}, strsD? ds = some zs → ds = zs.map D.str
  | [], _, h => by cases h; rfl
  | d :: r, zs, h => by
    cases d with
    | str z =>
      obtain ⟨l, hl, rfl⟩ := Option.map_eq_some_iff.mp (show (strsD? r).map (z :: ·) = some zs from h)
      rw [List.map_cons, strsD_inv hl]
    | _ => cases h
theorem strsD_map : ∀ zs : List Str, strsD? (zs.map D.str) = some zs
  | [] => rfl
  | z :: r => by
    show (strsD? (r.map D.str)).map (z :: ·) = _
    rw [strsD_map r]
    rfl
def finS (ds : List D) (S : Sto) : R X := match strsD? ds with
  | some zs => if decide (zs.length + 1 < scanBound) then .ok (.d (.lst ((sortS (sawn zs)).map .str))) S else .bad
  | none => .bad
def m_scsort (t : Tg) (mi : MIt) (mt : MG Bool) (me : M) (vs : List Nat) : M := fun e S => (mi e S).bind fun p S1 => (lcL t p.2 mt me (wipeE e vs) p.1 S1).bind finS
theorem sawn_mem : ∀ {xs acc : List Str} {z : Str}, z ∈ xs.foldl sawStep acc → z ∈ acc ∨ z ∈ xs
  | [], acc, z, h => .inl h
  | x :: r, acc, z, h => by
    rcases sawn_mem (xs := r) (acc := sawStep acc x) h with h | h
    · unfold sawStep at h
      split at h
      · exact .inl h
      · rcases List.mem_append.mp h with h | h
        · exact .inl h
        · exact .inr (by rw [List.mem_singleton.mp h]; exact List.mem_cons_self ..)
    · exact .inr (List.mem_cons_of_mem _ h)
theorem sc_it {P : Program} {w0 : World} {J : It} {n : Nat} {G : Hp → Prop} {Y : Nat → Hp → V → Hp → Prop} (w : Walk J n G Y) {g : TG} {tt : TT} {te : TE} {vs : List Nat} {σ : L2.St} {H1 : Hp} {D : Addr} {Qd : Hp → Prop} (Pv : Nat → Hp → Prop) (h0 : Pv 0 (upd H1 D (SetSO P w0 D []))) (hG : ∀ i H, i ≤ n → Pv i H → G H)
    (hs : ∀ i x H H', i < n → Pv i H → Y i H x H' → g x (wipe σ vs) H' fun σ2 H2 => wipe σ2 vs = wipe σ vs ∧ tt σ2 H2 fun b H3 =>
      if b = true then te σ2 H3 fun y H4 => ∃ (c : Str) (xs : List Str), y = .str c ∧ H4 D = some (SetSO P w0 D xs) ∧ xs.length + 1 < scanBound ∧ Pv (i + 1) (upd H4 D (SetSO P w0 D (sawStep xs c))) else Pv (i + 1) H3) (hd : ∀ H, Pv n H → Qd H) :
    ∃ W : Nat → Nat → Hp → Prop, (∃ m, W 0 m (upd H1 D (SetSO P w0 D []))) ∧ ∀ i m H, W i m H →
      (J.stop i H ∧ Qd H) ∨ (J.go i H ∧ ∃ Nx : Hp → Prop, (∀ H', Nx H' → ∃ m', m' < m ∧ W (i + 1) m' H') ∧ ∀ x H', J.yld i H x H' → g x (wipe σ vs) H' fun σ2 H2 => wipe σ2 vs = wipe σ vs ∧ tt σ2 H2 fun b H3 =>
        if b = true then te σ2 H3 fun y H4 => ∃ (c : Str) (xs : List Str), y = .str c ∧ H4 D = some (SetSO P w0 D xs) ∧ xs.length + 1 < scanBound ∧ Nx (upd H4 D (SetSO P w0 D (sawStep xs c))) else Nx H3) := by
  refine ⟨fun i m H => i + m = n ∧ Pv i H, ⟨n, Nat.zero_add n, h0⟩, fun i m H ⟨e, p⟩ => ?_⟩
  have q := hG i H (by omega) p
  cases m with
  | zero =>
    obtain rfl : i = n := e
    exact .inl ⟨w.stops H q, hd H p⟩
  | succ m => exact .inr ⟨w.goes i H (by omega) q, Pv (i + 1), fun H' p' => ⟨m, Nat.lt_succ_self m, by omega, p'⟩, fun x H' y => hs i x H H' (by omega) p (w.yields i H x H' (by omega) q y)⟩
section
variable {X : Cx} {Wx : WX} {pos p : Pos} {tg iter elt c : Expr} {ifs : List Expr} {mi : MIt} {mt : MG Bool} {me : M} {t : Tg} {vs : List Nat}
theorem sc_run (hs : ∀ i ∈ t.slots, i ∈ vs) {σ : L2.St} {H : Hp} {Q : VK} (h : RE X.K Wx (m_scsort t mi mt me vs) σ H Q) : tScS X.prog X.w (RG (Srv X.K) X.K Wx mi) (TGt X.K t) (RB X.K WX0 mt) (RE X.K WX0 me) vs σ H fun v H1 => rSortedSS X.prog X.w [v] H1 Q := by
  obtain ⟨Z, ρ, e, S, st, ev, p⟩ := h
  refine tt_bind (rel := Srv X.K) st ev p fun ρ1 H1 J p0 S1 st1 g1 ev1 srv p1 => ?_
  obtain ⟨ys, l⟩ := p0
  obtain ⟨G, Y, w, sv⟩ := srv
  intro D0 hD
  have p1 : Post X.K Z ρ1 H1 Wx σ Q ((lcL t l mt me (wipeE e vs) ys S1).bind finS) := p1
  have sv : ∀ (Z2 : Wd) (ρ2 : List Addr) (S2 : Sto) (H2 : Hp), Sta X.K Z2 ρ2 S2 H2 → Mv (Wn Z ρ1) H1 (Wn Z2 ρ2) H2 → ρ1 <+: ρ2 → (∀ a ob u, H1 a = some (.frz ob u) → H2 a = some (.frz ob u)) → l.ok S2 = true → G H2 ∧
    ∀ i x H3, Y i H2 x H3 → Same H2 H3 ∧ ∃ y, ys[i]? = some y ∧ AX X.K (Wn Z2 ρ2) ρ2 H3 y x := sv
  have w : Walk J ys.length G Y := w
  have evw := ev1.wipe vs
  -- what others may write: the new list too
  let Z' : Wd := fun a => Z a ∨ a = D0
  let Pv : Nat → Hp → Prop := fun i H => ∃ (ρ : List Addr) (S : Sto) (acc : List Str), Sta X.K Z' ρ S H ∧ ρ1 <+: ρ ∧ (∀ a o, a ∉ ρ1 → H1 a = some o → a ∉ ρ ∧ H a = some o) ∧ (∀ a ob u, H1 a = some (.frz ob u) → H a = some (.frz ob u)) ∧ H D0 = some (SetSO X.prog X.w D0 (sawn acc)) ∧ (∀ z ∈ acc, PyData.strOk z = true) ∧
    EvOk X.K (Wn Z' ρ) ρ H (wipeE e vs) (wipe σ vs) ∧ Post X.K Z ρ1 H1 Wx σ Q ((lcL t l mt me (wipeE e vs) (ys.drop i) S).bind fun ds S' => finS (acc.map D.str ++ ds) S')
  have mvOf : ∀ {ρ : List Addr} {S : Sto} {H : Hp}, Sta X.K Z' ρ S H → (∀ a o, a ∉ ρ1 → H1 a = some o → a ∉ ρ ∧ H a = some o) → Mv (Wn Z ρ1) H1 (Wn Z' ρ) H := fun {ρ S H} s k a o hn hq => by
    have h1 : a ∉ ρ1 := fun z => hn (.inr z)
    obtain ⟨h2, h3⟩ := k a o h1 hq
    refine ⟨fun z => ?_, h3⟩
    rcases z with (z | z) | z
    · exact hn (.inl z)
    · rw [z, hD] at hq; cases hq
    · exact h2 z
  have okOf : ∀ {xs : List Bv.X} {S : Sto} {acc : List Str}, Post X.K Z ρ1 H1 Wx σ Q ((lcL t l mt me (wipeE e vs) xs S).bind fun ds S' => finS (acc.map D.str ++ ds) S') → l.ok S = true := fun {xs S acc} q => by
    cases z : l.ok S with
    | true => rfl
    | false => cases xs <;> (simp only [lcL, z] at q; exact q.elim)
  refine sc_it w Pv ?_ ?_ ?_ ?_
  · -- the start
    have k := upd_keep (o := SetSO X.prog X.w D0 []) hD
    have s0 := st1.grow k
    have hnw : ¬ Wn Z ρ1 D0 := st1.fresh hD
    have m0 : Mv (Wn Z ρ1) H1 (Wn Z' ρ1) (upd H1 D0 (SetSO X.prog X.w D0 [])) := fun a o hn hq => ⟨fun z => by
      rcases z with (z | z) | z
      · exact hn (.inl z)
      · rw [z, hD] at hq; cases hq
      · exact hn (.inr z), k a o hq⟩
    refine ⟨ρ1, S1, [], ⟨st1.nd, fun a z => ?_, st1.len, fun n o a e1 e2 => AO.mv m0 (List.prefix_refl _) (fun u q => k _ _ q) (st1.ob n o a e1 e2)⟩, List.prefix_refl _, fun a o hn hq => ⟨hn, k a o hq⟩, fun a _ _ q => k a _ q, upd_same, (fun _ h => nomatch h), evw.mv m0 (List.prefix_refl _), ?_⟩
    · rcases z with z | z
      · exact ⟨(st1.z a z).1, let ⟨o, q⟩ := (st1.z a z).2; ⟨o, k a o q⟩⟩
      · exact ⟨fun z2 => hnw (.inr (by rw [← z]; exact z2)), ⟨_, by rw [z]; exact upd_same⟩⟩
    · rw [List.drop_zero]
      exact p1
  · rintro i H2 _ ⟨ρ2, S2, acc, st2, pr2, k2, f2, d2, a2, ev2, q2⟩
    exact (sv Z' ρ2 S2 H2 st2 (mvOf st2 k2) pr2 f2 (okOf q2)).1
  · rintro i x H2 H3 hi ⟨ρ2, S2, acc, st2, pr2, k2, f2, d2, a2, ev2, q2⟩ hy
    have hk := okOf q2
    obtain ⟨k, y, e3, a⟩ := (sv Z' ρ2 S2 H2 st2 (mvOf st2 k2) pr2 f2 hk).2 i x H3 hy
    have st3 := st2.grow k
    have m23 : Mv (Wn Z' ρ2) H2 (Wn Z' ρ2) H3 := same_mv k
    have ev3 := ev2.mv m23 (List.prefix_refl _)
    rw [drop_get e3] at q2
    simp only [lcL, hk, if_true] at q2
    cases q4 : t.asg S2 y (wipeE e vs) with
    | none => rw [q4] at q2; exact q2.elim
    | some e4 =>
      rw [q4] at q2
      refine ⟨Z', ρ2, wipeE e vs, S2, y, e4, st3, ev3, a, q4, fun σ5 ev5 w5 => ⟨?_, ?_⟩⟩
      · rw [w5 vs hs, wipe_twice]
      have q2 : Post X.K Z ρ1 H1 Wx σ Q (((mt e4 S2).ne.bind fun b S1 => if b then (me e4 S1).ne.bind fun y S2 => (match y with
          | .d d => (lcL t l mt me (wipeE e vs) (ys.drop (i + 1)) S2).bind fun ds S3 => .ok (d :: ds) S3
          | .r _ => .bad) else lcL t l mt me (wipeE e vs) (ys.drop (i + 1)) S1).bind fun ds S' => finS (acc.map D.str ++ ds) S') := q2
      cases q5 : (mt e4 S2).ne with
      | err _ _ _ => cases q6 : mt e4 S2 <;> rw [q6] at q5 <;> cases q5
      | bad => rw [q5] at q2; exact q2.elim
      | ok b S6 =>
        rw [q5] at q2
        refine ne_post (rel := relB) st3 ev5 q5 fun ρ6 H6 v st6 g6 ev6 r6 => ?_
        cases (show b = v from r6)
        have pr6 : ρ1 <+: ρ6 := pr2.trans g6.pre
        have nD : D0 ∉ ρ2 := (st2.z D0 (.inr rfl)).1
        obtain ⟨nD6, d6⟩ := g6.keep D0 _ nD (k _ _ d2)
        have k6 : ∀ a o, a ∉ ρ1 → H1 a = some o → a ∉ ρ6 ∧ H6 a = some o := fun a o h1 h2 => by
          obtain ⟨h3, h4⟩ := k2 a o h1 h2
          exact g6.keep a o h3 (k _ _ h4)
        have m36 := g6.mv st3
        have ev6' : EvOk X.K (Wn Z' ρ6) ρ6 H6 (wipeE e vs) (wipe σ vs) := ev3.mv m36 g6.pre
        cases b with
        | false =>
          rw [if_neg Bool.false_ne_true]
          exact ⟨ρ6, S6, acc, st6, pr6, k6, fun a ob u q => g6.fz a ob u (k _ _ (f2 a ob u q)), d6, a2, ev6', q2⟩
        | true =>
          rw [if_pos rfl]
          have q2 : Post X.K Z ρ1 H1 Wx σ Q (((me e4 S6).ne.bind fun y S2 => (match y with
            | .d d => (lcL t l mt me (wipeE e vs) (ys.drop (i + 1)) S2).bind fun ds S3 => .ok (d :: ds) S3
            | .r _ => .bad)).bind fun ds S' => finS (acc.map D.str ++ ds) S') := q2
          cases q7 : (me e4 S6).ne with
          | err _ _ _ => cases q6 : me e4 S6 <;> rw [q6] at q7 <;> cases q7
          | bad => rw [q7] at q2; exact q2.elim
          | ok z S7 =>
            rw [q7] at q2
            refine ne_post (rel := AX X.K) st6 ev6 q7 fun ρ7 H7 v st7 g7 ev7 r7 => ?_
            cases z with
            | r _ => exact q2.elim
            | d d =>
              have q2 : Post X.K Z ρ1 H1 Wx σ Q (((lcL t l mt me (wipeE e vs) (ys.drop (i + 1)) S7).bind fun ds S3 => .ok (d :: ds) S3).bind fun ds S' => finS (acc.map D.str ++ ds) S') := q2
              rw [R.bind_assoc] at q2
              have nD6' : D0 ∉ ρ6 := nD6
              obtain ⟨nD7, d7⟩ := g7.keep D0 _ nD6' d6
              have m67 := g7.mv st6
              have k7 : ∀ a o, a ∉ ρ1 → H1 a = some o → a ∉ ρ7 ∧ H7 a = some o := fun a o h1 h2 => by
                obtain ⟨h3, h4⟩ := k6 a o h1 h2
                exact g7.keep a o h3 h4
              cases r7 with
              | d r7 =>
                obtain ⟨c, rfl, few⟩ : ∃ c, d = .str c ∧ (sawn acc).length + 1 < scanBound := by
                  cases q8 : lcL t l mt me (wipeE e vs) (ys.drop (i + 1)) S7 with
                  | bad => rw [q8] at q2; exact q2.elim
                  | err C fs S8 => exact absurd q8 lcL_err
                  | ok ds S8 =>
                    rw [q8] at q2
                    have q2 : Post X.K Z ρ1 H1 Wx σ Q (finS (acc.map D.str ++ d :: ds) S8) := q2
                    unfold finS at q2
                    cases q9 : strsD? (acc.map D.str ++ d :: ds) with
                    | none => rw [q9] at q2; exact q2.elim
                    | some zs =>
                      rw [q9] at q2
                      have q2 : Post X.K Z ρ1 H1 Wx σ Q (if decide (zs.length + 1 < scanBound) then .ok (.d (.lst ((sortS (sawn zs)).map .str))) S8 else .bad) := q2
                      by_cases hl : zs.length + 1 < scanBound
                      · have e0 := strsD_inv q9
                        have e1 := congrArg List.length e0
                        rw [List.length_append, List.length_map, List.length_map, List.length_cons] at e1
                        have le := sawn_le acc []
                        simp only [List.length_nil, Nat.zero_add] at le
                        have e2 := congrArg (fun l => l[acc.length]?) e0
                        simp only [List.getElem?_map] at e2
                        rw [List.getElem?_append_right (by simp)] at e2
                        simp only [List.length_map, Nat.sub_self, List.getElem?_cons_zero] at e2
                        cases e3 : zs[acc.length]? with
                        | none => rw [e3] at e2; cases e2
                        | some c =>
                          rw [e3] at e2
                          exact ⟨c, Option.some.inj e2, by unfold sawn; omega⟩
                      · rw [if_neg (by simpa using hl)] at q2; exact q2.elim
                have hv : v = .str c := by cases r7; rfl
                have hz : PyData.strOk c = true := by cases r7; assumption
                have wD : Wn Z' ρ7 D0 := .inl (.inr rfl)
                have m8 : Mv (Wn Z' ρ7) H7 (Wn Z' ρ7) (upd H7 D0 (SetSO X.prog X.w D0 (sawStep (sawn acc) c))) := fun a o hn hq => ⟨hn, by rw [upd_ne (fun z => hn (by rw [z]; exact wD))]; exact hq⟩
                have neD : ∀ b, b ∈ ρ7 → b ≠ D0 := fun b hb z => nD7 (by rw [← z]; exact hb)
                have es : sawn (acc ++ [c]) = sawStep (sawn acc) c := by unfold sawn; rw [List.foldl_append]; rfl
                refine ⟨c, sawn acc, hv, d7, few, ρ7, S7, acc ++ [c], ⟨st7.nd, fun a z => ⟨(st7.z a z).1, ?_⟩, st7.len, fun n o a e1 e2 => AO.mv m8 (List.prefix_refl _) (fun u q => by rw [upd_ne (neD a (List.mem_of_getElem? e2))]; exact q) (st7.ob n o a e1 e2)⟩, pr6.trans g7.pre, fun a o h1 h2 => ?_, fun a ob u q => by rw [upd_ne (fun z => by rw [z, hD] at q; cases q)]; exact g7.fz a ob u (g6.fz a ob u (k _ _ (f2 a ob u q))), by rw [es]; exact upd_same, fun z hm => (List.mem_append.mp hm).elim (a2 z) fun hm => by rw [List.mem_singleton.mp hm]; exact hz, (ev6'.mv m67 g7.pre).mv m8 (List.prefix_refl _), ?_⟩
                · by_cases hz : a = D0
                  · exact ⟨_, by rw [hz]; exact upd_same⟩
                  · obtain ⟨o, q⟩ := (st7.z a z).2
                    exact ⟨o, by rw [upd_ne hz]; exact q⟩
                · obtain ⟨h3, h4⟩ := k7 a o h1 h2
                  exact ⟨h3, by rw [upd_ne (fun z => by rw [z, hD] at h2; cases h2)]; exact h4⟩
                · have e9 : (fun (ds : List D) (S' : Sto) => finS ((acc ++ [c]).map D.str ++ ds) S') = fun ds S' => finS (acc.map D.str ++ (D.str c :: ds)) S' := by
                    funext ds S'
                    rw [List.map_append, List.append_assoc]; rfl
                  show Post X.K Z ρ1 H1 Wx σ Q ((lcL t l mt me (wipeE e vs) (ys.drop (i + 1)) S7).bind fun ds S' => finS ((acc ++ [c]).map D.str ++ ds) S')
                  rw [e9]
                  exact q2
  · rintro H2 ⟨ρ2, S2, acc, st2, pr2, k2, f2, d2, a2, ev2, q2⟩
    have hk := okOf q2
    rw [List.drop_length] at q2
    simp only [lcL, hk, if_true] at q2
    have q2 : Post X.K Z ρ1 H1 Wx σ Q (finS (acc.map D.str ++ []) S2) := q2
    rw [List.append_nil] at q2
    unfold finS at q2
    rw [strsD_map] at q2
    have q2 : Post X.K Z ρ1 H1 Wx σ Q (if decide (acc.length + 1 < scanBound) then .ok (.d (.lst ((sortS (sawn acc)).map .str))) S2 else .bad) := q2
    by_cases hl : acc.length + 1 < scanBound
    · rw [if_pos (by simpa using hl)] at q2
      have m : Mv (Wn Z' ρ2) H2 (Wn Z ρ2) H2 := fun a o hn hq => ⟨fun z => hn (z.elim (fun z => .inl (.inl z)) .inr), hq⟩
      have stf : Sta X.K Z ρ2 S2 H2 := ⟨st2.nd, fun a z => st2.z a (.inl z), st2.len, fun n o a e1 e2 => AO.mv m (List.prefix_refl _) (fun u q => q) (st2.ob n o a e1 e2)⟩
      refine ⟨D0, sawn acc, rfl, d2, fun p hp => ?_⟩
      have kp := upd_keep (o := HO.lst ((sortS (sawn acc)).map V.str)) hp
      exact q2 ρ2 _ (.ref p) (stf.grow kp) (Go.trans ⟨pr2, k2, f2⟩ (Go.grow kp)) (.d (new_lst (fun z hz => stf.thereW hz) hp (avs_strA fun z hz => by
        rcases sawn_mem ((sortS_perm _).mem_iff.mp hz) with h | h
        · exact nomatch h
        · exact a2 z h)))
    · rw [if_neg (by simpa using hl)] at q2; exact q2.elim
theorem me_scsort {scope : Scope} {own : List (Str × Nat)} {pos2 : Pos} (hc : X.calm = true) (hN : X.N.Nodup) (hgl : Gl X "sorted") (hm : X.mg "sorted" = none) (hi : MI X Wx tg iter mi) (ok : BlkOk X.N X.env.scope scope own) (hsl : ∀ i ∈ t.slots, i ∈ own.map (·.2))
    (hg : ∀ (s : Shared) (H : Hp) (C : Addr) (cl : List (Str × Addr)) (fp : List Addr), PG (X.blk s H scope (compEnvC scope cl C X.env) fp) tg (TGt X.K t)) (ht : ∀ (s : Shared) (H : Hp) (C : Addr) (cl : List (Str × Addr)) (fp : List Addr), MTs (X.blk s H scope (compEnvC scope cl C X.env) fp) WX0 ifs mt)
    (he : ∀ (s : Shared) (H : Hp) (C : Addr) (cl : List (Str × Addr)) (fp : List Addr), ME (X.blk s H scope (compEnvC scope cl C X.env) fp) WX0 elt me) (hs : ∀ x, foldedSetIterable iter X.env x = pure x := by intro _; rfl)
    (nb : starEach [.SetComp elt [⟨tg, iter, ifs, 0⟩] scope pos] X.env = (false, eval (.SetComp elt [⟨tg, iter, ifs, 0⟩] scope pos) X.env) :: starEach [] X.env := by rfl) :
    ME X Wx (.Call (.Name "sorted" p) [.SetComp elt [⟨tg, iter, ifs, 0⟩] scope pos] [] pos2) (m_scsort t mi mt me (own.map (·.2))) :=
  PE.of (pe_callB (cr_sortedSS hc) hgl hm (by rfl) (pa_cons (pe_scS hc hN hi ok hg ht he hs) pa_nil nb) (by decide) (by decide) nb (by rfl)) fun _ _ _ h => sc_run hsl h
end
end Bv
set_option Elab.async false
set_option linter.all false
set_option maxRecDepth 100000
set_option maxHeartbeats 4000000
/-! By value: defs called with their last arguments left out. -/
namespace Bv
open PySem PySem.Spec L2
open PyProof.Rows hiding St
section
variable [HasW] {X : Cx} {Wx : WX} {k j n : Nat} {f : Addr} {dxs : List D}
theorem Here.callED {g : List Bv.X → Sto → R Bv.X} (h : Here X Wx k) (c : KeptD X.prog X.w X.K X.mg X.base j f (spE X.K (n + dxs.length) g) dxs) (hj : j ≤ k := by decide) : CalX X Wx (.ref f) n (withD dxs g) := by
  obtain ⟨fd, ps, dvs, ds, F, b, d⟩ := c.ex
  have e := AVs.len_d d
  have q := cal_E h.tk h.gu F (h.room.mono hj) b d (by rw [e]; omega)
  rw [e, Nat.add_sub_cancel] at q
  exact q
theorem Here.callPD {g : List D → PR} (h : Here X Wx k) (c : KeptD X.prog X.w X.K X.mg X.base j f (spP X.K (n + dxs.length) g) dxs) (hj : j ≤ k := by decide) : CalX X Wx (.ref f) n (withD dxs (Bv.callP g)) := by
  obtain ⟨fd, ps, dvs, ds, F, b, d⟩ := c.ex
  have e := AVs.len_d d
  have q := cal_P h.tk h.gu F (h.room.mono hj) b d (by rw [e]; omega)
  rw [e, Nat.add_sub_cancel] at q
  exact q
end
end Bv
set_option Elab.async false
set_option linter.all false
set_option maxRecDepth 100000
set_option maxHeartbeats 4000000
/-! x, y, .. = a, b, .. by a tuple that is taken apart at once: what it holds may be of the store. -/
namespace Bv
open PySem PySem.Spec L2
open PyProof.Rows hiding St
variable [HasW]
def s_asgT (ts : List Tg) (ms : MG (List Bv.X)) : MS := fun e S => (ms e S).so e fun xs S1 => if xs.length ≤ sizeLine then (match Tg.asgs S1 ts xs e with
  | some e1 => .go (.nx e1) S1
  | none => .bad) else .bad
section
variable {X : Cx} {Wx : WX} {pos pt p2 : Pos} {es tgs : List Expr} {k1 k2} {ms : MG (List Bv.X)} {ts : List Tg}
theorem mp_asgT (hc : X.calm = true) (ha : MA X Wx es ms) (hg : PGs X tgs (TGs' X.K ts)) (hn : (assignEach tgs X.env).length = ts.length := by rfl) (hst : (assignEach tgs X.env).findIdx? (·.1) = none := by rfl)
    (hs : swapsWithSole [.Tuple tgs k1 pt] (.Tuple es k2 p2) pos.line X.env = pure false := by rfl) (hw : swappedStores [.Tuple tgs k1 pt] (.Tuple es k2 p2) X.env = pure none := by rfl)
    (h1 : (assignEach [.Tuple tgs k1 pt] X.env).map (·.2) = [assign (.Tuple tgs k1 pt) X.env] := by rfl) :
    MP X Wx (.Assign [.Tuple tgs k1 pt] (.Tuple es k2 p2) pos) (s_asgT ts ms) := PS.of (ps_asg (pe_tup ha) (pg_tup hc hg hn hst) hs hw h1) fun D σ H ⟨Z, ρ, e, S, st, ev, p⟩ =>
  so_bind (rel := AXs X.K) st ev p fun ρ1 H1 vs xs S1 s1 g1 ev1 a1 q1 => by
    have q1 : PostS X.K Z ρ1 H1 Wx D (if xs.length ≤ sizeLine then (match Tg.asgs S1 ts xs e with
      | some e1 => .go (.nx e1) S1
      | none => .bad) else .bad) := q1
    by_cases hl : xs.length ≤ sizeLine
    · rw [if_pos hl] at q1
      cases q : Tg.asgs S1 ts xs e with
      | none => rw [q] at q1; exact q1.elim
      | some e1 =>
        rw [q] at q1
        refine ⟨by rw [← Paired.length a1]; exact hl, fun l hp => ?_⟩
        have k := upd_keep (o := HO.tup vs) hp
        exact ⟨l, vs, rfl, .inl (.inl upd_same), by rw [← Paired.length a1]; exact asgs_len q, Z, ρ1, e, S1, xs, e1, s1.grow k, ev1.mv (same_mv k) (List.prefix_refl _), AXs.mv (same_mv k) (List.prefix_refl _) a1, q, fun σ' ev' _ => q1 ρ1 _ σ' (s1.grow k) (Go.grow k) ev'⟩
    · rw [if_neg hl] at q1; exact q1.elim
end
end Bv
set_option Elab.async false
set_option linter.all false
set_option maxRecDepth 100000
set_option maxHeartbeats 4000000
/-! The head in parts: what is asked behind the top, part by part (each a run of its own: the kernel's memory is that of one run). -/
namespace Bv
open PySem PySem.Spec L2
open PyProof.Rows hiding St
section
open PySem.W PySem.Calls
theorem runEq_of {r : PySem.W.OpenRow} {q : Program} {H : PySem.W.Hook} {ob : PySem.W.SharedT → H.α} {M : Nat} {loose : List PySem.Str} {w : World}
    (h1 : ∀ os : OsState, (HandSHeadRun.endF (HandSHeadRun.stepQ (HandSHeadRun.denQ HandSHeadRun.tabQ) r.prog w) M r.prog w os).map (fun s => HandSHeadRun.looksF r.prog (boot_heap w.params) s.abs) = some true)
    (h2 : ∀ os : OsState, (HandSHeadRun.endF (HandSHeadRun.stepQ (HandSHeadRun.denQ HandSHeadRun.tabQ) r.prog w) M r.prog w os).map (fun s => HandSHeadRun.seenQ q loose (importedModules r.prog.main.body) (fun s => xlAt q [] s && recOk r.toRowW.records s) s.abs) = some (openGood q loose))
    (h3 : ∀ os : OsState, (HandSHeadRun.endF (HandSHeadRun.stepQ (HandSHeadRun.denQ HandSHeadRun.tabQ) r.prog w) M r.prog w os).map ob = some (H.val w)) : HandSHeadRun.RunEq r q H ob M loose w := fun os => by
  have g1 := h1 os
  have g2 := h2 os
  have g3 := h3 os
  cases e : HandSHeadRun.endF (HandSHeadRun.stepQ (HandSHeadRun.denQ HandSHeadRun.tabQ) r.prog w) M r.prog w os with
  | none => rw [e] at g1; cases g1
  | some s =>
    rw [e, Option.map_some] at g1 g2 g3
    rw [Option.map_some]
    injection g1 with g1
    injection g2 with g2
    injection g3 with g3
    rw [g1, g2, g3]
end
theorem obs_app {ts1 ts2 : List (PySem.W.Frag → Bool)} {ds1 ds2 : List DefB} {xs : List ErrB} {K : PySem.W.Frag} (h1 : obsX ts1 ds1 [] K = valX ds1 []) (h2 : obsX ts2 ds2 xs K = valX ds2 xs) : obsX (ts1 ++ ts2) (ds1 ++ ds2) xs K = valX (ds1 ++ ds2) xs := by
  unfold obsX valX at *
  simp only [Prod.mk.injEq] at h1 h2 ⊢
  obtain ⟨a1, b1⟩ := h1
  obtain ⟨a2, b2⟩ := h2
  rw [Bool.and_eq_true] at a1 a2
  refine ⟨?_, ?_⟩
  · rw [List.all_append, List.all_append, a1.1, a1.2, a2.1, a2.2]
    rfl
  · rw [List.map_nil, List.map_nil, List.append_nil, List.append_nil] at b1
    rw [List.map_append, List.map_append, List.append_assoc, List.append_assoc, b2, b1]
/-- a part of what is asked, and the rest -/
theorem obs_part {o : Option PySem.W.SharedT} {n a p : Nat} {ts : List (PySem.W.Frag → Bool)} {ds : List DefB} {xs : List ErrB}
    (h1 : o.map (fun s => obsXG n (ts.take a) (ds.take p) [] (HandSHeadRun.getT s)) = some (valX (ds.take p) []))
    (h2 : o.map (fun s => obsXG n (ts.drop a) (ds.drop p) xs (HandSHeadRun.getT s)) = some (valX (ds.drop p) xs)) : o.map (fun s => obsXG n ts ds xs (HandSHeadRun.getT s)) = some (valX ds xs) := by
  cases o with
  | none => cases h1
  | some s =>
    rw [Option.map_some] at h1 h2 ⊢
    injection h1 with h1
    injection h2 with h2
    have := obs_app (K := He.frG (HandSHeadRun.getT s) (He.asD (HandSHeadRun.getT s) n ++ [cStatics])) h1 h2
    rw [List.take_append_drop, List.take_append_drop] at this
    exact congrArg some this
end Bv
set_option Elab.async false
set_option linter.all false
set_option maxRecDepth 100000
set_option maxHeartbeats 4000000
/-! By value: a display of a dict with two texts as keys, a new dict of the store. -/
namespace Bv
open PySem PySem.Spec L2
open PyProof.Rows hiding St
variable [HasW]
/-- a thing that was laid ahead of its parts, and is filled behind them -/
theorem Sta.fill {K : PySem.W.Frag} {Z : Wd} {ρ ρ2 : List Addr} {S S2 : Sto} {H H2 : Hp} {a : Addr} {u0 u : HO} {o' : O} (st : Sta K Z ρ S H) (ha : H a = none) (g : Go ρ (upd H a u0) ρ2 H2) (s2 : Sta K (fun c => Z c ∨ c = a) ρ2 S2 H2)
    (new : Mv (Wn (fun c => Z c ∨ c = a) ρ2) H2 (Wn Z (ρ2 ++ [a])) (upd H2 a u) → AO K (Wn Z (ρ2 ++ [a])) (ρ2 ++ [a]) (upd H2 a u) o' a) : Sta K Z (ρ2 ++ [a]) (S2 ++ [o']) (upd H2 a u) ∧ Go ρ H (ρ2 ++ [a]) (upd H2 a u) := by
  have n2 : a ∉ ρ2 := (s2.z a (.inr rfl)).1
  have k0 := upd_keep (o := u0) ha
  have nZ : ∀ c, Z c → c ≠ a := fun c hc z => by
    obtain ⟨_, o, h2⟩ := st.z c hc
    rw [z, ha] at h2; cases h2
  have m2 : Mv (Wn (fun c => Z c ∨ c = a) ρ2) H2 (Wn Z (ρ2 ++ [a])) (upd H2 a u) := fun c o hc z => by
    have ne : c ≠ a := fun y => hc (.inl (.inr y))
    refine ⟨fun y => y.elim (fun y => hc (.inl (.inl y))) fun y => ?_, by rw [upd_ne ne]; exact z⟩
    rcases List.mem_append.mp y with y | y
    · exact hc (.inr y)
    · exact ne (by simpa using y)
  refine ⟨⟨?_, fun c hc => ⟨fun z => ?_, ?_⟩, by rw [List.length_append, List.length_append, s2.len]; rfl, fun n o c e1 e2 => ?_⟩, (g.pre).trans (List.prefix_append _ _), fun c o hc z => ?_, fun c ob w z => ?_⟩
  · rw [List.nodup_append]
    exact ⟨s2.nd, by simp, fun x hx y hy z => by
      have : y = a := by simpa using hy
      subst this; subst z; exact n2 hx⟩
  · rcases List.mem_append.mp z with z | z
    · exact (s2.z c (.inl hc)).1 z
    · exact nZ c hc (by simpa using z)
  · obtain ⟨o, h2⟩ := (s2.z c (.inl hc)).2
    exact ⟨o, by rw [upd_ne (nZ c hc)]; exact h2⟩
  · by_cases hn : n < ρ2.length
    · rw [List.getElem?_append_left hn] at e2
      rw [List.getElem?_append_left (by rw [s2.len]; exact hn)] at e1
      have ne : c ≠ a := fun z => n2 (by rw [← z]; exact List.mem_of_getElem? e2)
      exact AO.mv m2 (List.prefix_append _ _) (fun u z => by rw [upd_ne ne]; exact z) (s2.ob n o c e1 e2)
    · rw [List.getElem?_append_right (by omega)] at e2
      rw [List.getElem?_append_right (by rw [s2.len]; omega)] at e1
      have hz : n - ρ2.length = 0 := by
        have := (List.getElem?_eq_some_iff.mp e2).1
        simp at this; omega
      rw [hz] at e2
      rw [s2.len, hz] at e1
      cases e1; cases e2
      exact new m2
  · have ne : c ≠ a := fun y => by rw [y, ha] at z; cases z
    obtain ⟨h5, h6⟩ := g.keep c o hc (k0 c o z)
    exact ⟨fun y => by
      rcases List.mem_append.mp y with y | y
      · exact h5 y
      · exact ne (by simpa using y), by rw [upd_ne ne]; exact h6⟩
  · have ne : c ≠ a := fun y => by rw [y, ha] at z; cases z
    rw [upd_ne ne]
    exact g.fz c ob w (k0 c _ z)
/-- a thing is laid that is nobody's -/
theorem Sta.ahead {K : PySem.W.Frag} {Z : Wd} {ρ : List Addr} {S : Sto} {H : Hp} {a : Addr} {u0 : HO} (st : Sta K Z ρ S H) (ha : H a = none) : Sta K (fun c => Z c ∨ c = a) ρ S (upd H a u0) ∧ Mv (Wn Z ρ) H (Wn (fun c => Z c ∨ c = a) ρ) (upd H a u0) := by
  have na : ¬ Wn Z ρ a := st.fresh ha
  have m0 : Mv (Wn Z ρ) H (Wn (fun c => Z c ∨ c = a) ρ) (upd H a u0) := fun c o hc q => by
    have ne : c ≠ a := fun z => by rw [z, ha] at q; cases q
    exact ⟨fun z => z.elim (fun z => z.elim (fun z => hc (.inl z)) ne) fun z => hc (.inr z), by rw [upd_ne ne]; exact q⟩
  have k0 := upd_keep (o := u0) ha
  exact ⟨⟨st.nd, fun c hc => by
    rcases hc with hc | rfl
    · obtain ⟨h1, o, h2⟩ := st.z c hc
      exact ⟨h1, o, k0 c o h2⟩
    · exact ⟨fun z => na (.inr z), _, upd_same⟩, st.len, fun n o c e1 e2 => AO.mv m0 (List.prefix_refl _) (k0 c) (st.ob n o c e1 e2)⟩, m0⟩
def disp2 (k1 k2 : Str) (x y : X) : List (D × X) := putD (putD [] (.str k1) x) (.str k2) y
def m_disp2 (k1 k2 : Str) (m1 m2 : M) : M := fun e S => (m1 e S).ne.bind fun x S1 => (m2 e S1).ne.bind fun y S2 => .ok (.r S2.length) (S2 ++ [.dic (disp2 k1 k2 x y)])
section
variable {X : Cx} {Wx : WX} {pos p1 p2 : Pos} {n1 n2 : Nat} {k1 k2 : Str} {v1 v2 : Expr} {m1 m2 : M}
theorem me_disp2 (q1 : ME X Wx (.Constant (.str k1) n1 p1) (m_c (.str k1))) (q2 : ME X Wx (.Constant (.str k2) n2 p2) (m_c (.str k2))) (h1 : ME X Wx v1 m1) (h2 : ME X Wx v2 m2) : ME X Wx (.Dict [some (.Constant (.str k1) n1 p1), some (.Constant (.str k2) n2 p2)] [v1, v2] pos) (m_disp2 k1 k2 m1 m2) :=
  PE.of (pe_disp (pps_cons q1 h1 (pps_cons q2 h2 pps_nil)) rfl rfl (by simp) (by simp)) fun σ H Q ⟨Z, ρ, e, S, st, ev, p⟩ => fun a ha => by
    obtain ⟨st0, m0⟩ := st.ahead (u0 := .dK []) ha
    have ev0 := ev.mv m0 (List.prefix_refl _)
    refine ⟨_, ρ, e, S, st0, ev0, ?_⟩
    intro ρ0 H0 kv1 s0 g0 ak1
    have kv1e : kv1 = .str k1 := by cases ak1 with | d z => cases z; rfl
    have ev00 := ev0.mv (g0.mv st0) g0.pre
    refine ⟨_, ρ0, e, S, s0, ev00, ?_⟩
    have p : Post X.K Z ρ H Wx σ Q ((m1 e S).ne.bind fun x S1 => (m2 e S1).ne.bind fun y S2 => .ok (.r S2.length) (S2 ++ [.dic (disp2 k1 k2 x y)])) := p
    cases hm : m1 e S with
    | err C fs S1 => rw [hm] at p; exact p.elim
    | bad => rw [hm] at p; exact p.elim
    | ok x S1 =>
      rw [hm] at p
      have p : Post X.K Z ρ H Wx σ Q ((m2 e S1).ne.bind fun y S2 => .ok (.r S2.length) (S2 ++ [.dic (disp2 k1 k2 x y)])) := p
      intro ρ1 H1 xv s1 g1 a1
      have ev1 := ev00.mv (g1.mv s0) g1.pre
      refine ⟨_, ρ1, e, S1, s1, ev1, ?_⟩
      intro ρ1' H1' kv2 s1' g1' ak2
      have kv2e : kv2 = .str k2 := by cases ak2 with | d z => cases z; rfl
      have ev2 := ev1.mv (g1'.mv s1) g1'.pre
      refine ⟨_, ρ1', e, S1, s1', ev2, ?_⟩
      cases hm2 : m2 e S1 with
      | err C fs S2 => rw [hm2] at p; exact p.elim
      | bad => rw [hm2] at p; exact p.elim
      | ok y S2 =>
        rw [hm2] at p
        have p : Post X.K Z ρ H Wx σ Q (.ok (.r S2.length) (S2 ++ [.dic (disp2 k1 k2 x y)])) := p
        intro ρ2 H2 yv s2 g2 a2
        have gg := ((g0.trans g1).trans g1').trans g2
        have na : a ∉ ρ := fun z => st.fresh ha (.inr z)
        have hH2 : H2 a = some (.dK []) := (gg.keep a _ na upd_same).2
        refine ⟨hH2, [(.inr k1, xv), (.inr k2, yv)], by rw [kv1e, kv2e]; rfl, by simp, ?_⟩
        have a1' := (a1.mv (g1'.mv s1) g1'.pre).mv (g2.mv s1') g2.pre
        have kv : KVR (AX X.K (Wn (fun c => Z c ∨ c = a) ρ2) ρ2 H2) (disp2 k1 k2 x y) (mergeK [] [(.inr k1, xv), (.inr k2, yv)]) := KVR.put rfl a2 (KVR.put rfl a1' .nil)
        obtain ⟨sN, gN⟩ := st.fill (u := .dK (mergeK [] [(.inr k1, xv), (.inr k2, yv)])) (o' := .dic (disp2 k1 k2 x y)) ha gg s2 fun m2 => ⟨_, upd_same, KVR.mv m2 (List.prefix_append _ _) kv⟩
        exact p _ _ _ sN gN (.r (by rw [s2.len]; simp))
end
end Bv
set_option Elab.async false
set_option linter.all false
set_option maxRecDepth 100000
set_option maxHeartbeats 4000000
/-! By value: f-strings of texts, ints, bools; the spec 02. -/
namespace Bv
open PySem PySem.Spec L2
open PyProof.Rows hiding St
/-- two digits at least -/
def pad2 (i : Int) : Str := if i < 10 then ("0" : Str) ++ (toString i : String) else (toString i : String)
section
open Builtin Builtin.Int
theorem meets02 (n : Fin 100) (t u : Tok) : Meets («int.__format__» ⟨[.int (n.val : Int) t, .str "02" u], []⟩) (fun _ R s => ∀ t' k, R (.ok (.ret (.str (pad2 (n.val : Int)) t'))) { s with toks := k }) := by
  apply PySem.W.KPc.meets_of
  intro _ _ _ _ _ _ hq
  unfold Builtin.«int.__format__»
  refine wpAny_bind (wpAny_of_eq (a := (_, Value.str "02" u)) rfl ?_); refine wpAny_bind (wpAny_of_eq (a := (n.val : Int)) rfl ?_); kxf_if
  refine wpAny_bind (wpAny_typeNameOf (T := "str") (typeIs_str _ ("02" : Str) u) (by decide) fun _ => ?_); refine wpAny_bind (wpAny_of_eq (a := some ("02" : Str)) rfl ?_); kxf_if; kxf_if
  refine wpAny_bind (wpAny_typeNameOfCut_int ?_); repeat kxf_if
  have hl : (n.val : Int).natAbs.log2 < 1920 := by
    have h1 : (n.val : Int).natAbs < 2 ^ 1920 := Nat.lt_of_lt_of_le (m := 100) (by have := n.isLt; omega) (by decide +kernel)
    by_cases h0 : (n.val : Int).natAbs = 0
    · rw [h0]; decide
    · exact (Nat.log2_lt h0).mpr h1
  refine wpAny_bind (wpAny_of_eq (PySem.overDigitLimit_small hl) ?_); repeat kxf_if
  refine PySem.W.KXf.ret_text (T := pad2 (n.val : Int)) ?_ ?_ hq
  · clear hq hl; revert n; decide +kernel
  · clear hq hl; revert n; decide +kernel
end

section
variable {prog : Program} {w : World} {A : Around} {E : Value → Shared → Prop} {s : Shared} {t : Tok}
theorem field02 {i : Int} {Q : Value → Shared → Prop} (h0 : 0 ≤ i) (h1 : i < 100) (h : ∀ t' k, Q (.str (pad2 i) t') { s with toks := k }) : wpAny (model prog w) A (formatField (.int i t) "02") Q E s := by
  have hm : ∀ u, Meets (Builtin.«int.__format__» ⟨[.int i t, .str "02" u], []⟩) (fun _ R s => ∀ t' k, R (.ok (.ret (.str (pad2 i) t'))) { s with toks := k }) := fun u => by
    obtain ⟨n, rfl⟩ := Int.eq_ofNat_of_zero_le h0
    exact meets02 ⟨n, by omega⟩ t u
  exact PySem.W.KXf.field_int rfl (by decide) (by decide) hm h
end
variable [HasW]
/-- {x}: a text, an int or a bool, as a text -/
def tFmtA (te : TE) : TE := fun σ H Q => te σ H fun x H1 => (∃ y : Str, x = .str y ∧ y.length ≤ sizeLine ∧ Q (.str y) H1) ∨ (∃ i : Int, x = .int i ∧ i.natAbs.log2 < 1920 ∧ Q (.str (toString i)) H1) ∨ ∃ b : Bool, x = .bl b ∧ Q (.str (if b then "True" else "False" : String)) H1
def tFmt02 (te : TE) : TE := fun σ H Q => te σ H fun x H1 => ∃ i : Int, x = .int i ∧ 0 ≤ i ∧ i < 100 ∧ Q (.str (pad2 i)) H1
section
variable {X : Cx} {Wx : WX} {e : Expr} {te : TE} {pos p1 p2 : Pos} {n : Nat} {m : M}
theorem pe_fmtA (he : PE X e te) : PE X (.FormattedValue e (-1) none pos) (tFmtA te) := ⟨fun pins s σ H Q I h => by
  refine wpAny_FormattedValue_plain (thn (he.run pins s σ H _ I h) fun v s1 ⟨x, H1, I1, r1, q⟩ => ?_)
  rcases q with ⟨y, rfl, hz, q⟩ | ⟨i, rfl, hz, q⟩ | ⟨b, rfl, q⟩
  · obtain ⟨t, rfl⟩ := r1; exact wpAny_formatField_str ⟨.str y, H1, I1, ⟨t, rfl⟩, q⟩ ⟨.str y, H1, I1.tok _, ⟨_, rfl⟩, q⟩ hz
  · obtain ⟨t, rfl⟩ := r1; exact wpAny_formatField_int hz ⟨.str (toString i), H1, I1.tok _, ⟨_, rfl⟩, q⟩
  · obtain rfl : v = .bool b := r1; exact wpAny_formatField_bool ⟨.str (if b then "True" else "False" : String), H1, I1.tok _, ⟨_, by cases b <;> rfl⟩, q⟩⟩
theorem pe_fmt02 (he : PE X e te) : PE X (.FormattedValue e (-1) (some (.JoinedStr [.Constant (.str "02") n p1] p2)) pos) (tFmt02 te) := ⟨fun pins s σ H Q I h => by
  refine wpAny_FormattedValue_spec (thn (he.run pins s σ H _ I h) fun v s1 ⟨x, H1, I1, r1, i, hx, h0, h1, q⟩ => ?_)
  subst hx
  obtain ⟨t, rfl⟩ := r1
  exact wpAny_JoinedStr_one (wpAny_Constant_str ⟨"02", _, rfl, field02 h0 h1 fun t' k => ⟨.str (pad2 i), H1, (I1.tok _).tok k, ⟨_, rfl⟩, q⟩⟩)⟩
def fmtX : Bv.X → Option D
  | .d (.str y) => if decide (y.length ≤ sizeLine) then some (.str y) else none
  | .d (.int i) => if decide (i.natAbs.log2 < 1920) && PyData.strOk (toString i : String) then some (.str (toString i : String)) else none
  | .d (.bl b) => some (.str (if b then "True" else "False" : String))
  | _ => none
def fmt02X : Bv.X → Option D
  | .d (.int i) => if decide (0 ≤ i) && decide (i < 100) && PyData.strOk (pad2 i) then some (.str (pad2 i)) else none
  | _ => none
def m_fmt (m : M) : M := fun e S => (m e S).bind fun x S1 => optR ((fmtX x).map .d) S1
def m_fmt02 (m : M) : M := fun e S => (m e S).bind fun x S1 => optR ((fmt02X x).map .d) S1
theorem me_fmt (h : ME X Wx e m) : ME X Wx (.FormattedValue e (-1) none pos) (m_fmt m) := PE.of (pe_fmtA h) fun σ H Q ⟨Z, ρ, e, S, st, ev, p⟩ => tt_bind (rel := AX X.K) st ev p fun ρ1 H1 v x S1 s1 g1 ev1 a1 p1 => by
  obtain ⟨d0, hd0, p2⟩ := PostG.opt p1
  obtain ⟨d, hd, rfl⟩ := Option.map_eq_some_iff.mp hd0
  clear hd0
  cases a1 with
  | r _ => cases hd
  | d a =>
    cases a with
    | str hz =>
      obtain ⟨c, hd⟩ := ite_some hd
      cases hd
      exact .inl ⟨_, rfl, of_decide_eq_true c, PostG.ret0 p2 s1 (.d (.str hz))⟩
    | int i =>
      obtain ⟨c, hd⟩ := ite_some hd
      cases hd
      obtain ⟨c1, c2⟩ := Bool.and_eq_true_iff.mp c
      exact .inr (.inl ⟨_, rfl, of_decide_eq_true c1, PostG.ret0 p2 s1 (.d (.str c2))⟩)
    | bl b => cases hd; exact .inr (.inr ⟨b, rfl, PostG.ret0 p2 s1 (.d (.str (by cases b <;> decide +kernel)))⟩)
    | _ => cases hd
theorem me_fmt02 (h : ME X Wx e m) : ME X Wx (.FormattedValue e (-1) (some (.JoinedStr [.Constant (.str "02") n p1] p2)) pos) (m_fmt02 m) := PE.of (pe_fmt02 h) fun σ H Q ⟨Z, ρ, e, S, st, ev, p⟩ => tt_bind (rel := AX X.K) st ev p fun ρ1 H1 v x S1 s1 g1 ev1 a1 p1 => by
  obtain ⟨d0, hd0, p2⟩ := PostG.opt p1
  obtain ⟨d, hd, rfl⟩ := Option.map_eq_some_iff.mp hd0
  clear hd0
  cases a1 with
  | r _ => cases hd
  | d a =>
    cases a with
    | int i =>
      obtain ⟨c, hd⟩ := ite_some hd
      cases hd
      obtain ⟨c, c3⟩ := Bool.and_eq_true_iff.mp c
      obtain ⟨c1, c2⟩ := Bool.and_eq_true_iff.mp c
      exact ⟨_, rfl, of_decide_eq_true c1, of_decide_eq_true c2, PostG.ret0 p2 s1 (.d (.str c3))⟩
    | _ => cases hd
/-! ### texts one behind the other -/
def jsX (acc : Str) : Bv.X → Option Str
  | .d (.str y) => if decide ((acc ++ y).length ≤ sizeLine) then some (acc ++ y) else none
  | _ => none
def m_js (acc : Str) : List M → M
  | [] => fun _ S => if PyData.strOk acc then .ok (.d (.str acc)) S else .bad
  | m :: ms => fun e S => (m e S).bind fun x S1 => match jsX acc x with
    | some y => m_js y ms e S1
    | none => .bad
inductive MJ (X : Cx) (Wx : WX) : List Expr → List M → Prop where
  | nil : MJ X Wx [] []
  | cons {e : Expr} {m : M} {es : List Expr} {ms : List M} (h : ME X Wx e m) (r : MJ X Wx es ms) : MJ X Wx (e :: es) (m :: ms)
theorem MJ.pj {es : List Expr} {ms : List M} (h : MJ X Wx es ms) : PJ X es (ms.map fun m => RE X.K Wx m) := by
  induction h with
  | nil => exact .nil
  | cons h _ ih => exact .cons h ih
theorem js_run {K : PySem.W.Frag} {σ : L2.St} {Q : VK} : ∀ {ms : List M} {acc : Str} {H : Hp}, RE K Wx (m_js acc ms) σ H Q → tJs (ms.map fun m => RE K Wx m) acc σ H fun out H1 => Q (.str out) H1
  | [], acc, H, ⟨Z, ρ, e, S, st, ev, p⟩ => by
    have p : Post K Z ρ H Wx σ Q (if PyData.strOk acc then .ok (.d (.str acc)) S else .bad) := p
    by_cases c : PyData.strOk acc = true
    · rw [if_pos c] at p; exact PostG.ret0 p st (.d (.str c))
    · rw [if_neg c] at p; exact p.elim
  | m :: ms, acc, H, ⟨Z, ρ, e, S, st, ev, p⟩ => tt_bind (rel := AX K) st ev p fun ρ1 H1 v x S1 s1 g1 ev1 a1 p1 => by
    have p1 : Post K Z ρ1 H1 Wx σ Q (match jsX acc x with
      | some y => m_js y ms e S1
      | none => .bad) := p1
    cases q : jsX acc x with
    | none => rw [q] at p1; exact p1.elim
    | some y =>
      rw [q] at p1
      cases a1 with
      | r _ => cases q
      | d a =>
        cases a with
        | str hz =>
          obtain ⟨c, q⟩ := ite_some q
          cases q
          exact ⟨_, rfl, of_decide_eq_true c, js_run ⟨Z, ρ1, e, S1, s1, ev1, p1⟩⟩
        | _ => cases q
theorem me_js {v1 v2 : Expr} {rest : List Expr} {ms : List M} (h : MJ X Wx (v1 :: v2 :: rest) ms) : ME X Wx (.JoinedStr (v1 :: v2 :: rest) pos) (m_js Str.empty ms) := PE.of (pe_joined h.pj) fun σ H Q h => js_run h
theorem me_js1 (h : ME X Wx e m) : ME X Wx (.JoinedStr [e] pos) m := pe_joined1 h
end
end Bv
set_option Elab.async false
set_option linter.all false
set_option maxRecDepth 100000
set_option maxHeartbeats 4000000
/-! By value: max of a list, sorted of any length, values that are places, a new list xs[::-1], list(range(n)). -/
namespace Bv
open PySem PySem.Spec L2
open PyProof.Rows hiding St
variable [HasW]
/-! ### max, min of a list of ints -/
def mostI : List Int → Int
  | [] => 0
  | i :: r => r.foldl (fun a b => if a < b then b else a) i
theorem foldl_most : ∀ (r : List Int) (i : Int), (∀ y, y ∈ i :: r → y ≤ r.foldl (fun a b => if a < b then b else a) i) ∧ r.foldl (fun a b => if a < b then b else a) i ∈ i :: r
  | [], i => by simp
  | x :: r, i => by
    obtain ⟨h1, h2⟩ := foldl_most r (if i < x then x else i)
    rw [List.foldl_cons]
    refine ⟨fun y hy => ?_, ?_⟩
    · rcases List.mem_cons.mp hy with rfl | hy
      · exact Int.le_trans (by split <;> omega) (h1 _ (List.Mem.head _))
      · rcases List.mem_cons.mp hy with rfl | hy
        · exact Int.le_trans (by split <;> omega) (h1 _ (List.Mem.head _))
        · exact h1 y (List.Mem.tail _ hy)
    · rcases List.mem_cons.mp h2 with e | e
      · rw [e]; split <;> simp
      · exact List.Mem.tail _ (List.Mem.tail _ e)
theorem mostI_is {ns : List Int} {m : Int} (h : m ∈ ns) (hm : ∀ y, y ∈ ns → y ≤ m) : m = mostI ns := by
  cases ns with
  | nil => cases h
  | cons i r =>
    obtain ⟨h1, h2⟩ := foldl_most r i
    exact Int.le_antisymm (h1 m h) (hm _ h2)
def maxLF : List Bv.X → Sto → R Bv.X
  | [x], S => if isLst S x then (match (items S x).bind ints? with
    | some l => if decide (0 < l.length) then .ok (.d (.int (mostI l))) S else .bad
    | none => .bad) else .bad
  | _, _ => .bad
section
variable {K : PySem.W.Frag}
theorem b_maxL : BinX K (rMax K) maxLF := fun Z ρ S H Wx σ xs vs Q st a h => by
  unfold maxLF at h
  split at h
  · rename_i x
    split at h
    · rename_i hl
      cases a with
      | cons ha t =>
        cases t
        cases q : (items S x).bind ints? with
        | none => rw [q] at h; exact h.elim
        | some l =>
          rw [q] at h
          have h : PostG (AX K) K Z ρ H Wx σ Q (if decide (0 < l.length) then .ok (.d (.int (mostI l))) S else .bad) := h
          by_cases c : 0 < l.length
          · rw [if_pos (decide_eq_true c)] at h
            obtain ⟨ys, h1, h2⟩ := Option.bind_eq_some_iff.mp q
            obtain ⟨b, us, rfl, hq, hp⟩ := ha.itemsL st h1 hl
            rw [ints_inv hp h2] at hq
            exact ⟨b, l, rfl, .inl (.inl hq), c, fun m hm hy => by rw [mostI_is hm hy]; exact PostG.ret0 h st (.d (.int _))⟩
          · rw [if_neg (by simpa using c)] at h; exact h.elim
    · exact h.elim
  · exact h.elim
end
/-! ### sorted, of any length -/
def rSortedA (K : PySem.W.Frag) : List V → Hp → VK → Prop := fun vs H Q => ∃ (a : Addr) (xs : List Str), vs = [V.ref a] ∧ SqL K H a (xs.map V.str) ∧
  ∀ (ys : List Str) (p : Addr), ys.Perm xs → sortedS ys = true → H p = none → Q (.ref p) (upd H p (.lst (ys.map V.str)))
theorem cr_sortedA {X : Cx} : CallR X (.builtin "sorted") (rSortedA X.K) := by
  intro pins s σ H vs us Q I r ⟨a, xs, e, hs, q⟩
  subst e
  obtain ⟨its, rv, hl, hz⟩ := I.list hs
  rw [Vals.ref1 r]
  have hn : (xs.map V.str).length = its.length := rv.length
  refine PyProof.Rows.sorted_strsAny hl.isList rv.strs (by rw [← hn]; exact hz) fun out ys h1 h2 h3 => ?_
  obtain ⟨ep, he'⟩ := PyProof.Rows.sortedAll_at s.heap its out
  have hm : (ys.map V.str).length ≤ sizeLine := by
    rw [List.length_map] at hz ⊢
    rw [h2.length_eq]; exact hz
  exact ⟨.ref _, upd H (s.heap.objs.size + 1) (.lst (ys.map V.str)), I.laid (t' := s.toks) (fun _ _ => PyProof.Rows.sortedAll_old) (Nat.le_succ _) ⟨hm, out.toList, ep, vals_of_strs h1, he'⟩, rfl, q ys _ h2 h3 (I.hok.fresh (Nat.le_succ _))⟩
def g_sortedA : List Bv.X → Sto → R Bv.X
  | [x], S => if isLst S x then (match (items S x).bind strs? with
    | some l => .ok (.d (.lst ((sortS l).map .str))) S
    | none => .bad) else .bad
  | _, _ => .bad
section
variable {K : PySem.W.Frag}
theorem b_sortedA : BinX K (rSortedA K) g_sortedA := fun Z ρ S H Wx σ xs vs Q st a h => by
  unfold g_sortedA at h
  split at h
  · rename_i x
    split at h
    · rename_i hl
      cases a with
      | cons ha t =>
        cases t
        cases q : (items S x).bind strs? with
        | none => rw [q] at h; exact h.elim
        | some l =>
          rw [q] at h
          obtain ⟨ys, h1, h2⟩ := Option.bind_eq_some_iff.mp q
          obtain ⟨b, us, rfl, hq, hp⟩ := ha.itemsL st h1 hl
          obtain ⟨e1, e2⟩ := strs_inv hp h2
          rw [e1] at hq
          refine ⟨b, l, rfl, .inl (.inl hq), fun ns' p hp' hs' hn => ?_⟩
          rw [eq_sortS hp' hs']
          exact PostG.ret h st (upd_keep hn) (.d (new_lst (fun z hz => st.thereW hz) hn (avs_strA fun z hz => e2 z ((sortS_perm l).mem_iff.mp hz))))
    · exact h.elim
  · exact h.elim
end
/-! ### values that are places -/
def valsAll (kvs : List (D × Bv.X)) : Option (List Bv.X) := some (kvs.map (·.2))
def i_valsA (m : M) : MIt := fun e S => (m e S).bind fun x S1 => walkR valsAll S1 x
theorem srv_valsA {K : PySem.W.Frag} {W : Wd} {ρ : List Addr} {H : Hp} {kvs : List (D × Bv.X)} {ks : List (Key × V)} {ys : List Bv.X} {c : Addr} {od : Obj} (kv : KVR (AX K W ρ H) kvs ks) (hg : valsAll kvs = some ys) (hc : H c = some (.frz od (.dK ks))) : Srv K W ρ H (ys, .free) (Itd c od ks) := by
  cases hg
  refine ⟨fun H => H c = some (.frz od (.dK ks)), fun i H x H' => H' = H ∧ ∃ k, ks[i]? = some (k, x), ?_, fun Z2 ρ2 S2 H2 st m p fz _ => ⟨fz _ _ _ hc, fun i x H3 y => ?_⟩⟩
  · have e : (kvs.map fun p => p.2, Lk.free).1.length = ks.length := by rw [List.length_map]; exact kv.len
    rw [e]
    exact ⟨fun i _ hi g => ⟨g, hi⟩, fun _ g => ⟨g, Nat.le_refl _⟩, fun _ _ _ _ _ _ y => y⟩
  · obtain ⟨rfl, k, hk⟩ := y
    obtain ⟨q, h1, h2, a⟩ := kv.at_ hk
    exact ⟨Same.rfl', q.2, by simp [h1], a.mv m p⟩
section
variable {X : Cx} {Wx : WX} {apos cpos tpos pos p1 p2 p3 p : Pos} {e tg : Expr} {m : M} {n : Nat}
theorem mi_valsA (h : ME X Wx e m) (hbase : attributeBase e "values" X.env (eval e X.env) = eval e X.env := by rfl) (hline : (apos.endLine == cpos.line) = true := by rfl) : MI X Wx tg (.Call (.Attribute e "values" apos) [] [] cpos) (i_valsA m) := PI.of (pi_values (pe_fz h) hbase hline) fun σ H R ⟨Z, ρ, e, S, st, ev, p⟩ => tt_bind (rel := AX X.K) st ev p fun ρ1 H1 v x S1 st1 g1 ev1 a1 p1 => by
  rcases walk_frz srv_valsA st1 a1 p1 with ⟨c, od, ks, rfl, hc, r⟩ | ⟨c, ks, rfl, hc, r⟩
  · exact .inl ⟨c, od, ks, rfl, hc, r⟩
  · exact .inr ⟨c, _, hc, trivial, fun od => ⟨c, od, ks, rfl, upd_same, r od⟩⟩
/-! ### xs[::-1], as a new list of the store -/
def g_revN (S : Sto) (x : Bv.X) : R Bv.X := if isLst S x then (match items S x with
  | some ys => .ok (.r S.length) (S ++ [.lst ys.reverse])
  | none => .bad) else .bad
def m_revN (m : M) : M := fun e S => (m e S).bind fun x S1 => g_revN S1 x
theorem axs_rev {K : PySem.W.Frag} {W : Wd} {ρ : List Addr} {H : Hp} {xs : List Bv.X} {vs : List V} (h : AXs K W ρ H xs vs) : AXs K W ρ H xs.reverse vs.reverse := by
  induction h with
  | nil => exact .nil
  | cons a _ ih => rw [List.reverse_cons, List.reverse_cons]; exact Paired.append ih (.cons a .nil)
theorem me_revN (h : ME X Wx e m) : ME X Wx (.Subscript e (.Slice none none (some (.UnaryOp .USub (.Constant (.int 1) n p1) p2)) p3) pos) (m_revN m) := PE.of (pe_revL h) fun σ H Q ⟨Z, ρ, e, S, st, ev, p⟩ => tt_bind (rel := AX X.K) st ev p fun ρ1 H1 v x S1 s1 g1 ev1 a1 q1 => by
  have q1 : PostG (AX X.K) X.K Z ρ1 H1 Wx σ Q (g_revN S1 x) := q1
  unfold g_revN at q1
  split at q1
  · rename_i hl
    cases q : items S1 x with
    | none => rw [q] at q1; exact q1.elim
    | some ys =>
      rw [q] at q1
      obtain ⟨b, us, rfl, hq, hp⟩ := a1.itemsL s1 q hl
      refine ⟨b, us, rfl, .inl (.inl hq), fun l hl => ?_⟩
      obtain ⟨s5, g5⟩ := s1.pushL hl (axs_rev hp)
      exact q1 _ _ _ s5 g5 (.r (by rw [s1.len]; simp))
  · exact q1.elim
/-! ### list(range(n)) -/
def g_listRg (x : Bv.X) (S : Sto) : R Bv.X := match x with
  | .d (.int j) => if decide (0 ≤ j ∧ j ≤ 2 ^ 20) then .ok (.d (.lst ((List.range j.toNat).map fun i => .int (i : Nat)))) S else .bad
  | _ => .bad
def m_listRg (m : M) : M := fun e S => (m e S).bind g_listRg
theorem avs_rg {K : PySem.W.Frag} {W : Wd} {H : Hp} : ∀ l : List Nat, AVs K W H (l.map fun i => D.int (i : Nat)) (l.map fun i => V.int (0 + (i : Nat)))
  | [] => .nil
  | z :: r => .cons (by show AV K W H (D.int (z : Nat)) (V.int (0 + (z : Nat))); rw [Int.zero_add]; exact .int _) (avs_rg r)
theorem me_listRg {a : Expr} (hc : X.calm = true) (hg : Gl X "list") (hm : X.mg "list" = none) (hg2 : Gl X "range") (hm2 : X.mg "range" = none) (ha : ME X Wx a m) (na : starEach [a] X.env = (false, eval a X.env) :: starEach [] X.env := by rfl)
    (nb : starEach [.Call (.Name "range" p1) [a] [] p2] X.env = (false, eval (.Call (.Name "range" p1) [a] [] p2) X.env) :: starEach [] X.env := by rfl) :
    ME X Wx (.Call (.Name "list" p) [.Call (.Name "range" p1) [a] [] p2] [] pos) (m_listRg m) := PE.of (pe_listRg hc hg hm (prg_1 hg2 hm2 ha na) nb) fun σ H Q ⟨Z, ρ, e, S, st, ev, p⟩ => tt_bind (rel := AX X.K) st ev p fun ρ1 H1 v x S1 s1 g1 ev1 a1 q1 => by
  have q1 : PostG (AX X.K) X.K Z ρ1 H1 Wx σ Q (g_listRg x S1) := q1
  cases a1 with
  | r _ => exact q1.elim
  | d a1 =>
    cases a1 with
    | int j =>
      have q1 : PostG (AX X.K) X.K Z ρ1 H1 Wx σ Q (if decide (0 ≤ j ∧ j ≤ 2 ^ 20) then .ok (.d (.lst ((List.range j.toNat).map fun i => .int (i : Nat)))) S1 else .bad) := q1
      by_cases hj : 0 ≤ j ∧ j ≤ 2 ^ 20
      · rw [if_pos (decide_eq_true hj)] at q1
        obtain ⟨h0, h1⟩ := hj
        refine ⟨j, rfl, ⟨by decide, by decide, by omega, by omega, by omega⟩, fun q hq => ?_⟩
        have e2 : (rgV 0 j) = (List.range j.toNat).map fun i => V.int (0 + (i : Nat)) := by unfold rgV; rw [Int.sub_zero]
        rw [e2]
        exact PostG.ret q1 s1 (upd_keep hq) (.d (new_lst (fun z hz => s1.thereW hz) hq (avs_rg _)))
      · rw [if_neg (by simpa using hj)] at q1; exact q1.elim
    | _ => exact q1.elim
end
end Bv
set_option Elab.async false
set_option linter.all false
set_option maxRecDepth 100000
set_option maxHeartbeats 4000000
/-! By value: range(i, j, -1). -/
namespace Bv
open PySem PySem.Spec L2
open PyProof.Rows hiding St
variable [HasW]
def downX (lo : Int) (n : Nat) : List Bv.X := (List.range n).map fun (i : Nat) => Bv.X.d (.int (lo + i * (-1)))
def rng3X (xs : List Bv.X) : Option (List Bv.X × Lk) := match ints? xs with
  | some [i, j, k] => if decide (k = -1) && (smallI i && smallI j) then some (downX i (i - j).toNat, .free) else none
  | _ => none
def i_rng3 (ms : MG (List Bv.X)) : MIt := fun e S => (ms e S).bind fun xs S1 => optR (rng3X xs) S1
theorem srv_down {K : PySem.W.Frag} {W : Wd} {ρ : List Addr} {H : Hp} {lo : Int} {n : Nat} : Srv K W ρ H (downX lo n, .free) (Itc lo (-1) n) :=
  ⟨fun H => True, fun i H x H' => i < n ∧ H' = H ∧ x = .int (lo + (i : Nat) * (-1)), by rw [show (downX lo n, Lk.free).1.length = n by simp [downX]]; exact ⟨fun _ _ hi _ => hi, fun _ _ => Nat.le_refl _, fun i _ _ _ hi _ y => ⟨hi, y.1, y.2⟩⟩, fun Z2 ρ2 S2 H2 st m p fz _ => ⟨trivial, fun i x H3 y => by
    obtain ⟨hi, rfl, rfl⟩ := y
    exact ⟨Same.rfl', .d (.int (lo + (i : Nat) * (-1))), by simp [downX, hi], .d (.int _)⟩⟩⟩
section
variable {X : Cx} {Wx : WX} {tg a b c : Expr} {p pos : Pos} {ms : MG (List Bv.X)}
theorem mi_rng3 (hg : Gl X "range") (hm : X.mg "range" = none) (ha : MA X Wx [a, b, c] ms) (hs : starEach [a, b, c] X.env = (false, eval a X.env) :: starEach [b, c] X.env := by rfl) (hpl : (backTo pos (starEach [b, c] X.env)).any (·.1) = false := by rfl) :
    MI X Wx tg (.Call (.Name "range" p) [a, b, c] [] pos) (i_rng3 ms) := PI.of (pi_range3 hg hm ha hs hpl) fun σ H R ⟨Z, ρ, e, S, st, ev, p⟩ => tt_bind st ev p fun ρ1 H1 v xs S1 st1 g1 ev1 a1 p1 => by
  obtain ⟨w, hw, p2⟩ := p1.opt
  unfold rng3X at hw
  cases q : ints? xs with
  | none => rw [q] at hw; cases hw
  | some l =>
    rw [q] at hw
    have e1 := ints_inv a1 q
    match l, hw, e1 with
    | [i, j, k], hw, e1 =>
      obtain ⟨h1, h2⟩ := ite_some hw
      cases h2
      obtain ⟨h0, h3⟩ := Bool.and_eq_true_iff.mp h1
      obtain ⟨h4, h5⟩ := Bool.and_eq_true_iff.mp h3
      have hk : k = -1 := of_decide_eq_true h0
      subst hk
      exact ⟨i, j, -1, _, e1, RgC.neg (smallI_inv h4).1 (smallI_inv h4).2 (smallI_inv h5).1 (smallI_inv h5).2, PostG.ret0 p2 st1 srv_down⟩
    | [], hw, _ => cases hw
    | [_], hw, _ => cases hw
    | [_, _], hw, _ => cases hw
    | _ :: _ :: _ :: _ :: _, hw, _ => cases hw
end
end Bv
set_option Elab.async false
set_option linter.all false
set_option maxRecDepth 100000
set_option maxHeartbeats 4000000
/-! By value: repr of any data. -/
namespace Bv
open PySem PySem.Spec L2
open PyProof.Rows hiding St
variable [HasW]
/-- what has its repr at once -/
def scalV : V → Option Str
  | .non => some "None"
  | .bl b => some (if b then "True" else "False")
  | .int i => if decide (i.natAbs.log2 < 1920) then some (toString i : String) else none
  | .str x => if decide ((reprText x).length ≤ sizeLine) then some (reprText x) else none
  | _ => none
abbrev rReprS : List V → Hp → VK → Prop := fun xs H Q => ∃ v z, xs = [v] ∧ scalV v = some z ∧ Q (.str z) H
theorem c_reprS {X : Cx} : CallR X (.builtin "repr") rReprS := fun pins s σ H xs us Q I r h => by
  obtain ⟨v, z, rfl, e, q⟩ := h
  cases r with
  | cons r t =>
    cases t
    cases v with
    | non =>
      cases e
      rw [show _ = Value.none from r]
      exact PySem.P.repr_of_none ⟨.str _, H, I.tok _, ⟨_, rfl⟩, q⟩
    | bl b =>
      cases e
      rw [show _ = Value.bool b from r]
      exact PySem.P.repr_of_bool ⟨.str _, H, I.tok _, ⟨_, rfl⟩, by cases b <;> exact q⟩
    | int i =>
      obtain ⟨t, rfl⟩ := r
      obtain ⟨h1, h2⟩ := ite_some e
      cases h2
      exact PySem.P.repr_of_int (of_decide_eq_true h1) ⟨.str _, H, I.tok _, ⟨_, rfl⟩, q⟩
    | str x =>
      obtain ⟨t, rfl⟩ := r
      obtain ⟨h1, h2⟩ := ite_some e
      cases h2
      exact PySem.P.repr_of_str ⟨.str _, H, I.tok _, ⟨_, rfl⟩, q⟩ (of_decide_eq_true h1)
    | _ => cases e
def reprS : D → Option Str
  | .non => some "None"
  | .bl b => some (if b then "True" else "False")
  | .int i => if decide (i.natAbs.log2 < 1920) then some (toString i : String) else none
  | .str x => if decide ((reprText x).length ≤ sizeLine) then some (reprText x) else none
  | _ => none
/-- repr of data -/
def reprV (d : D) : Option Str := (if isBox d then shownOf d else reprS d).bind fun z => if PyData.strOk z then some z else none
def g_reprV : List Bv.X → Sto → R Bv.X
  | [x], S => (match (x.get S).bind reprV with
    | some z => .ok (.d (.str z)) S
    | none => .bad)
  | _, _ => .bad
abbrev rReprV (K : PySem.W.Frag) : List V → Hp → VK → Prop := fun xs H Q => rReprA K xs H Q ∨ rReprS xs H Q
theorem c_reprV {X : Cx} (gu : X.A.guards = some []) (room : Room 0 X.A) : CallR X (.builtin "repr") (rReprV X.K) := CallR.or (c_repr gu room) c_reprS
theorem reprS_av {K : PySem.W.Frag} {W : Wd} {H : Hp} {d : D} {v : V} (h : AV K W H d v) {z : Str} (e : reprS d = some z) : scalV v = some z := by
  cases h with
  | non => exact e
  | bl b => exact e
  | int i => exact e
  | str hx => exact e
  | _ => cases e
theorem b_reprV {K : PySem.W.Frag} : BinX K (rReprV K) g_reprV := fun Z ρ S H Wx σ xs vs Q st a h => by
  unfold g_reprV at h
  split at h
  · rename_i x
    cases a with
    | cons ha t =>
      cases t
      cases q : x.get S with
      | none => rw [q] at h; exact h.elim
      | some d =>
        rw [q] at h
        have h : PostG (AX K) K Z ρ H Wx σ Q (match reprV d with
          | some z => .ok (.d (.str z)) S
          | none => .bad) := h
        cases q2 : reprV d with
        | none => rw [q2] at h; exact h.elim
        | some z =>
          rw [q2] at h
          have w := ha.get st q
          unfold reprV at q2
          obtain ⟨z2, q2, q4⟩ := Option.bind_eq_some_iff.mp q2
          obtain ⟨c5, e⟩ := ite_some q4
          cases e
          by_cases hb : isBox d = true
          · rw [if_pos hb] at q2
            obtain ⟨a, rfl⟩ := w.is_ref hb
            unfold shownOf at q2
            cases q3 : d.py with
            | none => rw [q3] at q2; cases q2
            | some p =>
              rw [q3] at q2
              obtain ⟨h1, h2⟩ := ite_some q2
              cases h2
              simp only [Bool.and_eq_true, decide_eq_true_eq] at h1
              obtain ⟨⟨⟨⟨c1, c2⟩, c3⟩, c4⟩, _⟩ := h1
              obtain ⟨dp, _⟩ := w.dp q3
              exact .inl ⟨a, p, rfl, dp, c1, by simpa using c2, of_decide_eq_true c3, c4, PostG.ret0 h st (.d (.str c5))⟩
          · rw [if_neg hb] at q2
            cases w with
            | av w => exact .inr ⟨_, _, rfl, reprS_av w q2, PostG.ret0 h st (.d (.str c5))⟩
            | lst _ _ => cases q2
            | fdc _ _ => cases q2
  · exact h.elim
end Bv
set_option Elab.async false
set_option linter.all false
set_option maxRecDepth 100000
set_option maxHeartbeats 4000000
/-! By value: a, b, .. = a list of that length; zip of two lists, of two tuples. -/
namespace Bv
open PySem PySem.Spec L2
open PyProof.Rows hiding St
variable [HasW]
def s_unl (ts : List Tg) (m : M) : MS := fun e S => (m e S).so e fun x S1 => match x with
  | .d (.lst ds) => (match Tg.asgs S1 ts (ds.map .d) e with
    | some e1 => .go (.nx e1) S1
    | none => .bad)
  | _ => .bad
section
variable {X : Cx} {Wx : WX} {pos pt : Pos} {k1 : Nat} {a : Expr} {tgs : List Expr} {ts : List Tg} {ma : M}
theorem mp_unl (hc : X.calm = true) (ha : ME X Wx a ma) (hg : PGs X tgs (TGs' X.K ts)) (hn : (assignEach tgs X.env).length = ts.length := by rfl) (hst : (assignEach tgs X.env).findIdx? (·.1) = none := by rfl)
    (hs : swapsWithSole [.Tuple tgs k1 pt] a pos.line X.env = pure false := by rfl) (hw : swappedStores [.Tuple tgs k1 pt] a X.env = pure none := by rfl)
    (h1 : (assignEach [.Tuple tgs k1 pt] X.env).map (·.2) = [assign (.Tuple tgs k1 pt) X.env] := by rfl) :
    MP X Wx (.Assign [.Tuple tgs k1 pt] a pos) (s_unl ts ma) := PS.of (ps_asg ha (pg_unl hc hg hn hst) hs hw h1) fun D σ H ⟨Z, ρ, e, S, st, ev, p⟩ =>
  so_bind st ev p fun ρ1 H1 v x S1 st1 g1 ev1 a1 p1 => by
    cases a1 with
    | r _ => exact p1.elim
    | d h =>
      cases h with
      | @lst w q us ds r hs =>
        have p1 : _ := p1
        dsimp only at p1
        cases q2 : Tg.asgs S1 ts (_ : List Bv.X) e with
        | none => rw [q2] at p1; exact p1.elim
        | some e1 =>
          rw [q2] at p1
          have hl := asgs_len q2
          rw [List.length_map] at hl
          exact ⟨_, _, rfl, .inl (.inl r), by rw [← hs.length]; exact hl, Z, ρ1, e, S1, _, e1, st1, ev1, hs.axs, q2, fun σ' ev' _ => p1.next st1 ev'⟩
      | _ => exact p1.elim
end
/-! ### zip of two lists, of two tuples -/
theorem walk_zipT {K : PySem.W.Frag} {a b : Addr} {xs ys : List V} : Walk (RZ.ItzT K a b) (min xs.length ys.length) (fun H => SqT K H a xs ∧ SqT K H b ys) (YPair (fun i => xs[i]?) (fun i => ys[i]?)) :=
  ⟨fun i _ hi q => ⟨xs, ys, xs[i]'(by omega), ys[i]'(by omega), q.1, q.2, by simp [show i < xs.length by omega], by simp [show i < ys.length by omega]⟩, fun _ q => ⟨xs, ys, q.1, q.2, by omega⟩,
    fun i H v H' _ q ⟨T, x, y, h1, h2, h3, h4, h5⟩ => ⟨T, x, y, h1, h2, h3, h4 xs q.1, h5 ys q.2⟩⟩
def zipXA : List Bv.X → Option (List Bv.X × Lk)
  | [.d (.tup ds), .d (.tup es)] => some (zipped ds es, .free)
  | [.d (.lst ds), .d (.lst es)] => some (zipped ds es, .free)
  | _ => none
def i_zipA (ms : MG (List Bv.X)) : MIt := fun e S => (ms e S).bind fun xs S1 => optR (zipXA xs) S1
theorem srv_zip {K : PySem.W.Frag} {W : Wd} {ρ : List Addr} {H : Hp} {J : It} {G : Hp → Prop} {us ws : List V} {ds es : List D} (hs1 : AVs K W H ds us) (hs2 : AVs K W H es ws) (w : Walk J (min us.length ws.length) G (YPair (fun i => us[i]?) (fun i => ws[i]?)))
    (hg : ∀ (Z2 : Wd) (ρ2 : List Addr) (H2 : Hp), Mv W H (Wn Z2 ρ2) H2 → G H2) : Srv K W ρ H (zipped ds es, .free) J :=
  ⟨G, _, by rw [show (zipped ds es, Lk.free).1.length = min us.length ws.length by simp [zipped, hs1.length, hs2.length]]; exact w, fun Z2 ρ2 S2 H2 st m p fz k => ⟨hg Z2 ρ2 H2 m, fun i x H3 y => by
    obtain ⟨T, u, v, rfl, hT, rfl, q1, q2⟩ := y
    obtain ⟨d1, q3, q4⟩ := (hs1.mv m).at_ q1
    obtain ⟨d2, q5, q6⟩ := (hs2.mv m).at_ q2
    have kp := upd_keep (o := HO.tup [u, v]) hT
    exact ⟨kp, .d (.tup [d1, d2]), by simp [zipped, List.getElem?_zipWith, q3, q5], .d (.tup (.inl ⟨st.fresh hT, upd_same⟩) (.cons (q4.mv (same_mv kp)) (.cons (q6.mv (same_mv kp)) .nil)))⟩⟩⟩
theorem mi_zipA {X : Cx} {Wx : WX} {e e2 : Expr} {ms : MG (List Bv.X)} {p pos tpos : Pos} {elts : List Expr} {kk : Nat} (hg : Gl X "zip") (hm : X.mg "zip" = none) (ha : MA X Wx [e, e2] ms) (hs : starEach [e, e2] X.env = (false, eval e X.env) :: starEach [e2] X.env := by rfl) (hpl : (backTo pos (starEach [e2] X.env)).any (·.1) = false := by rfl) :
    MI X Wx (.Tuple elts kk tpos) (.Call (.Name "zip" p) [e, e2] [] pos) (i_zipA ms) := PI.of (RZ.pi_zipA hg hm ha hs hpl) fun σ H R ⟨Z, ρ, e, S, st, ev, p⟩ => tt_bind st ev p fun ρ1 H1 v xs S1 st1 g1 ev1 a1 p1 => by
  obtain ⟨w, hw, p2⟩ := p1.opt
  unfold zipXA at hw
  split at hw
  · rename_i ds es
    cases hw
    cases a1 with
    | cons h1 t =>
      cases t with
      | cons h2 t =>
        cases t
        cases h1 with
        | d h1 =>
          cases h2 with
          | d h2 =>
            cases h1 with
            | tup t1 hs1 =>
              cases h2 with
              | tup t2 hs2 =>
                exact ⟨_, _, _, _, rfl, .inr ⟨t1.sq, t2.sq, PostG.ret0 p2 st1 (srv_zip hs1 hs2 walk_zipT fun Z2 ρ2 H2 m => ⟨(m.tp t1).sq, (m.tp t2).sq⟩)⟩⟩
  · rename_i ds es
    cases hw
    cases a1 with
    | cons h1 t =>
      cases t with
      | cons h2 t =>
        cases t
        cases h1 with
        | d h1 =>
          cases h2 with
          | d h2 =>
            cases h1 with
            | lst w1 r1 hs1 =>
              cases h2 with
              | lst w2 r2 hs2 =>
                exact ⟨_, _, _, _, rfl, .inl ⟨.inl (.inl r1), .inl (.inl r2), PostG.ret0 p2 st1 (srv_zip hs1 hs2 (walk_zip rfl) fun Z2 ρ2 H2 m => ⟨.inl (.inl (m _ _ w1 r1).2), .inl (.inl (m _ _ w2 r2).2)⟩)⟩⟩
  · cases hw
end Bv
set_option Elab.async false
set_option linter.all false
set_option maxRecDepth 100000
set_option maxHeartbeats 4000000
/-! By value: list(a dict). -/
namespace Bv
open PySem PySem.Spec L2
open PyProof.Rows hiding St
variable [HasW]
def g_listK : List Bv.X → Sto → R Bv.X
  | [.d (.dic kvs)], S => if kvs.all (fun p => okKey p.1) then .ok (.d (.lst (kvs.map (·.1)))) S else .bad
  | _, _ => .bad
abbrev rListK : List V → Hp → VK → Prop := fun xs H Q => ∃ (a : Addr) (kvs : List (Key × V)), xs = [.ref a] ∧ Rd H a (.dK kvs) ∧ ∀ p, H p = none → Q (.ref p) (upd H p (.lst (kvs.map fun kv => kV kv.1)))
theorem keys_avs {K : PySem.W.Frag} {W : Wd} {H : Hp} : ∀ {kvs : List (D × D)} {ks : List (Key × V)}, AVk K W H kvs ks → kvs.all (fun p => okKey p.1) = true → AVs K W H (kvs.map (·.1)) (ks.map fun kv => kV kv.1)
  | _, _, .nil, _ => .nil
  | _, _, .cons h _ t, ok => by
    rw [List.all_cons, Bool.and_eq_true] at ok
    exact .cons (key_x h ok.1) (keys_avs t ok.2)
theorem b_listK {K : PySem.W.Frag} : BinX K rListK g_listK := fun Z ρ S H Wx σ xs vs Q st a h => by
  unfold g_listK at h
  split at h
  · rename_i kvs
    cases a with
    | cons ha t =>
      cases t
      cases ha with
      | d ha =>
        cases ha with
        | dic nw hf hk =>
          by_cases c : kvs.all (fun p => okKey p.1) = true
          · rw [if_pos c] at h
            exact ⟨_, _, rfl, .inr ⟨_, hf⟩, fun l hl => PostG.ret h st (upd_keep hl) (.d (new_lst (fun z hz => st.thereW hz) hl (keys_avs hk c)))⟩
          · rw [if_neg c] at h; exact h.elim
  · exact h.elim
end Bv
set_option Elab.async false
set_option linter.all false
set_option maxRecDepth 100000
set_option maxHeartbeats 4000000
/-! The written part by all addresses below n: much less to run than what names reach in so many steps. -/
namespace Bv
open PySem PySem.Spec L2
open PyProof.Rows hiding St
def rngA (n : Nat) : List Addr := mainGlobals :: (List.range n).reverse
def obsXR (n : Nat) (ts : List (PySem.W.Frag → Bool)) (ds : List DefB) (xs : List ErrB) (g : Addr → Option Obj) : AlB := obsX ts ds xs (He.frG g (rngA n))
def hookR (n : Nat) (ts : List (PySem.W.Frag → Bool)) (ds : List DefB) (xs : List ErrB) : PySem.W.Hook where
  α := AlB
  obs := fun s => obsXR n ts ds xs s.heap.get?
  val := fun _ => valX ds xs
  says := fun _ h => ∃ K : PySem.W.Frag, K.In h ∧ SaysX ts ds xs K
  of := fun _ _ e => ⟨_, He.frG_in, e⟩
  keeps := fun _ _ _ ⟨K, i, c⟩ k => ⟨K, PySem.W.Frag.In.keeps i k, c⟩
theorem obsXR_eq {n : Nat} {ts : List (PySem.W.Frag → Bool)} {ds : List DefB} {xs : List ErrB} {g : Addr → Option Obj} {s : Shared} (h : ∀ a, g a = s.heap.get? a) : obsXR n ts ds xs g = (hookR n ts ds xs).obs s := by
  rw [show g = s.heap.get? from funext h]
  rfl
theorem obs_partR {o : Option PySem.W.SharedT} {n a p : Nat} {ts : List (PySem.W.Frag → Bool)} {ds : List DefB} {xs : List ErrB}
    (h1 : o.map (fun s => obsXR n (ts.take a) (ds.take p) [] (HandSHeadRun.getT s)) = some (valX (ds.take p) []))
    (h2 : o.map (fun s => obsXR n (ts.drop a) (ds.drop p) xs (HandSHeadRun.getT s)) = some (valX (ds.drop p) xs)) : o.map (fun s => obsXR n ts ds xs (HandSHeadRun.getT s)) = some (valX ds xs) := by
  cases o with
  | none => cases h1
  | some s =>
    rw [Option.map_some] at h1 h2 ⊢
    injection h1 with h1
    injection h2 with h2
    have := obs_app (K := He.frG (HandSHeadRun.getT s) (rngA n)) h1 h2
    rw [List.take_append_drop, List.take_append_drop] at this
    exact congrArg some this
end Bv
set_option Elab.async false
set_option linter.all false
set_option maxRecDepth 100000
set_option maxHeartbeats 4000000
/-! By value: xs[::0 - 1]; a list comprehension and a list display where a token is out. -/
namespace Bv
open PySem PySem.Spec L2
open PyProof.Rows hiding St
/-- xs[::st], the step -1 by any expression (the walk is pe_revL's) -/
theorem pe_revG {X : Cx} {e st : Expr} {te ts : TE} {p3 pos : Pos} (he : PE X e te) (hs : PE X st ts) (h1 : ∀ σ H Q, Q (.int (-1)) H → ts σ H Q) : PE X (.Subscript e (.Slice none none (some st) p3) pos) (tRevL X.K te) := by
  refine ⟨fun pins s σ H Q I h => ?_⟩
  refine Subscript_ (thn (he.run pins s σ H _ I h) fun v s1 ⟨x, H1, I1, r1, q1⟩ => ?_)
  obtain ⟨a, xs, ex, hx, q⟩ := q1
  subst ex
  cases r1
  have hst : PO X (some st) (tPart ts) := po_some hs
  refine wpAny_Slice (thn (po_none.run pins s1 σ H1 (fun o H2 => o = none ∧ H2 = H1) I1 ⟨rfl, rfl⟩) fun vl s2 ⟨l, H2, I2, pl, el, e2⟩ => ?_)
  subst el e2
  refine thn (po_none.run pins s2 σ H2 (fun o H3 => o = none ∧ H3 = H2) I2 ⟨rfl, rfl⟩) fun vu s3 ⟨u, H3, I3, pu, eu, e3⟩ => ?_
  subst eu e3
  refine thn (hst.run pins s3 σ H3 (fun o H4 => o = some (-1) ∧ H4 = H3) I3 (h1 _ _ _ ⟨-1, rfl, rfl, rfl⟩)) fun vs s4 ⟨o, H4, I4, ps, eo, e4⟩ => ?_
  subst eo e4
  have I5 : Inv X pins σ H4 { s4 with heap := s4.heap.push { cls := .type "slice", data := .fields #[vl, vu, vs] } } := I4.kept (t' := s4.toks) fun b ob q => Heap.get?_push_of_some _ q
  obtain ⟨its, r, ht, hz⟩ := I5.list hx
  have hlen := r.length
  show wpAny (model X.prog X.w) X.A (subscriptTail e (.Slice none none (some st) p3) (.ref a) (.ref s4.heap.objs.size)) (EP X pins σ Q) X.xe { s4 with heap := s4.heap.push { cls := .type "slice", data := .fields #[vl, vu, vs] } }
  refine tail_any (ops := [.ref a, .ref s4.heap.objs.size]) ht.isList.typeIs (PySem.slot_list_getitem.lookup) ?_ (by with_unfolding_all rfl)
  refine wpAny_getItem_list_slice ht.isList (Heap.IsSliceOf.new _ vl vu vs) pl pu ps (by decide) ?_ (by rw [List.size_toArray]; omega)
  rw [PySem.W.krv_pick]
  refine ⟨.ref _, _, I5.laid (t' := s4.toks) (o := .lst xs.reverse) (fun b ob q => Heap.get?_push_of_some _ q) (Nat.le_refl _) ?_, rfl, q _ (I5.hok.fresh (Nat.le_refl _))⟩
  exact ⟨by rw [List.length_reverse]; exact hz, _, 0, r.reverse, Heap.get?_push_size _ rfl⟩
variable [HasW]
section
variable {X : Cx} {Wx : WX} {pos p1 p2 p3 p4 : Pos} {e : Expr} {m : M} {n n2 : Nat}
theorem step01 {σ : L2.St} {H : Hp} {Q : VK} (q : Q (.int (-1)) H) : tOp (rI0 fun i j => .int (i - j)) (tC (.int 0)) (tC (.int 1)) σ H Q := ⟨0, 1, rfl, rfl, q⟩
theorem me_rev0 (h : ME X Wx e m) : ME X Wx (.Subscript e (.Slice none none (some (.BinOp (.Constant (.int 0) n p1) .Sub (.Constant (.int 1) n2 p2) p4)) p3) pos) (m_rev m) := PE.of (pe_revG h (pe_op op_sub pe_int pe_int) fun _ _ _ q => step01 q) fun σ H Q ⟨Z, ρ, e, S, st, ev, p⟩ => tt_bind (rel := AX X.K) st ev p fun ρ1 H1 v x S1 s1 g1 ev1 a1 q1 => by
  have q1 : PostG (AX X.K) X.K Z ρ1 H1 Wx σ Q (g_rev S1 x) := q1
  unfold g_rev at q1
  split at q1
  · rename_i hl
    cases q : (items S1 x).bind ds? with
    | none => rw [q] at q1; exact q1.elim
    | some ds =>
      rw [q] at q1
      obtain ⟨ys, h1, h2⟩ := Option.bind_eq_some_iff.mp q
      obtain ⟨b, us, rfl, hq, hp⟩ := a1.itemsL s1 h1 hl
      exact ⟨b, us, rfl, .inl (.inl hq), fun l hl => PostG.ret q1 s1 (upd_keep hl) (.d (new_lst (fun z hz => s1.thereW hz) hl (AVs.rev (AXs.ds hp h2))))⟩
  · exact q1.elim
end
end Bv
set_option Elab.async false
set_option linter.all false
set_option maxRecDepth 100000
set_option maxHeartbeats 4000000
/-! str.replace of written texts, where a token is out: name = [e.replace(..) for ..] behind name = ["..", ..]. The two long proofs follow lc_core and ps_setLc of HandS.Comp line by line, the token carried. -/
namespace L2
open PySem PySem.Spec PyProof.Rows
theorem thnT {α : Type} {t : Sem α} {Q Q' : α → Shared → Prop} {M : Model} {A : Around} {E : Value → Shared → Prop} {s : Shared} {n : Nat} (hn : n ≤ s.toks) (h : wpAny M A t Q E s) (hQ : ∀ a s', n ≤ s'.toks → Q a s' → Q' a s') : wpAny M A t Q' E s := wpAny_mono (PySem.wpAny_toks_of hn h) (fun a s' x => hQ a s' x.1 x.2) fun _ _ z => z.2
theorem thnFT {α : Type} {t : Sem α} {Q Q' : α → Shared → Prop} {M : Model} {A : Around} {E : Value → Shared → Prop} {s : Shared} {n : Nat} (hn : n ≤ s.toks) (h : wpAny M A t Q (fun _ _ => False) s) (hQ : ∀ a s', n ≤ s'.toks → Q a s' → Q' a s') : wpAny M A t Q' E s := wpAny_mono (PySem.wpAny_toks_of hn h) (fun a s' x => hQ a s' x.1 x.2) fun _ _ z => z.2.elim
section
variable {X : Cx}
theorem lc_coreT {pins : List (Addr × Obj)} {s : Shared} {σ : St} {H : Hp} {Q : VK} {elt tg iter : Expr} {ifs : List Expr} {scope : Scope} {own : List (Str × Nat)} {pos pos' : Pos} {wi : TI} {g : TG} {tt : TT} {te : TE} {use : Option (Value → Sem Unit)} {Qf : Value → Shared → Prop}
    (hc : X.calm = true) (hN : X.N.Nodup) (h0 : 1 ≤ s.toks) (I : Inv X pins σ H s) (hi : PI X tg iter wi) (ok : BlkOk X.N X.env.scope scope own)
    (hg : ∀ (s : Shared) (H : Hp) (C : Addr) (cl : List (Str × Addr)) (fp : List Addr), PG (X.blk s H scope (compEnvC scope cl C X.env) fp) tg g) (ht : ∀ (s : Shared) (H : Hp) (C : Addr) (cl : List (Str × Addr)) (fp : List Addr), PTs (X.blk s H scope (compEnvC scope cl C X.env) fp) ifs tt)
    (he : ∀ (s : Shared) (H : Hp) (C : Addr) (cl : List (Str × Addr)) (fp : List Addr), PET (X.blk s H scope (compEnvC scope cl C X.env) fp) elt te) (hs : ∀ x, foldedSetIterable iter X.env x = pure x)
    (h : tLc wi g tt te (own.map (·.2)) σ H Q)
    (hRR : ∀ D C s' m H', Inv X pins σ H' s' → Q (.ref D) H' → s'.heap.Ns C m → FpOk X pins H' C → compPost (model X.prog X.w) X.A X.xe use Qf (.ref D) C (.ok .next) s') :
    wpAny (model X.prog X.w) X.A (comprehension (.ListComp elt [⟨tg, iter, ifs, 0⟩] scope pos) scope X.env pos' (newList []) false (eval iter X.env) use) Qf X.xe s := by
  have hfree : ∀ y ∈ scope.names, y.2 = .free → ∃ c, X.env.cells.lookup y.1 = some c := fun y hy e => by
    rcases ok.free y hy e with k | k
    · exact I.ok.has _ (.inl k)
    · exact I.ok.has _ (.inr k)
  refine wpAny_comprehension_free (use := use) rfl hs (closure_ok hfree) ok.kind (fun y hy e => by rw [ok.uniq y hy, e])
    (thnT h0 (hi.run pins s σ H _ I h) fun xv s1 h01 hx => thnT h01 hx fun itv s2 h02 h2 => ?_)
  obtain ⟨it, fp, tn, J, H2, e, I2, T, st2, f2, q⟩ := h2
  subst e
  refine wpAny_newObj_type (newEnv_comp ?_) (by show 0 ≤ sizeLine; decide)
  generalize hD : s2.heap.objs.size = D
  have hDn : H2 D = none := I2.hok.fresh (Nat.le_of_eq hD)
  obtain ⟨W, ⟨m0, w0⟩, turn⟩ := q D hDn
  -- the new list
  generalize hs3 : ({ s2 with heap := s2.heap.push { cls := .type "list", data := .seq ([] : List Value).toArray } } : Shared) = s3
  have I3 : Inv X pins σ (upd H2 D (.lst [])) s3 := by
    rw [← hs3]
    refine I2.laid (t' := s2.toks) (fun b o e => Heap.get?_push_of_some _ e) (Nat.le_of_eq hD) ⟨Nat.zero_le _, [], 0, .nil, ?_⟩
    rw [← hD]
    exact Heap.get?_push_size _ rfl
  have k3 : 1 ≤ s3.toks := by rw [← hs3]; exact h02
  have h3 : s3.heap = s2.heap.push { cls := .type "list", data := .seq ([] : List Value).toArray } := by rw [← hs3]
  have sz : ∀ b ∈ fp, b < s2.heap.objs.size := fun b hb => by
    obtain ⟨o, e, _⟩ := T.obj _ _ st2 b hb
    exact Heap.lt_size e
  have f3 : ∀ b ∈ fp, FpOk X pins (upd H2 D (.lst [])) b ∧ b < s3.heap.objs.size := fun b hb => by
    have hlt := sz b hb
    refine ⟨⟨?_, (f2 b hb).2⟩, by rw [h3, Heap.size_push]; exact Nat.lt_succ_of_lt hlt⟩
    rw [upd_ne (by rw [← hD]; exact Nat.ne_of_lt hlt)]
    exact (f2 b hb).1
  have st3 : tn 0 s3.heap := T.keep _ _ _ st2 fun b _ o e => by rw [h3]; exact Heap.get?_push_of_some _ e
  have I4 := block_start I3 ok hN f3
  have pg := hg s3 (upd H2 D (.lst [])) s3.heap.objs.size (cellsFrom (s3.heap.objs.size + 1) scope.names (cloFrom X.env.cells scope.names [])) fp
  have pt := ht s3 (upd H2 D (.lst [])) s3.heap.objs.size (cellsFrom (s3.heap.objs.size + 1) scope.names (cloFrom X.env.cells scope.names [])) fp
  have pe := he s3 (upd H2 D (.lst [])) s3.heap.objs.size (cellsFrom (s3.heap.objs.size + 1) scope.names (cloFrom X.env.cells scope.names [])) fp
  show codeAny _ _ (.compStart (.ListComp elt [⟨tg, iter, ifs, 0⟩] scope pos) 0 (.ref it) (.ref D) (compEnvC scope (cellsFrom (s3.heap.objs.size + 1) scope.names (cloFrom X.env.cells scope.names [])) s3.heap.objs.size X.env)) (compPost (model X.prog X.w) X.A X.xe use Qf (.ref D) s3.heap.objs.size) { s3 with heap := pushCells (s3.heap.push { cls := .type "dict", data := .dict #[] }) scope.names }
  have nfp : ∀ b ∈ fp, (upd H2 D (.lst [])) b = none := fun b hb => (f3 b hb).1.1
  generalize hce : compEnvC scope (cellsFrom (s3.heap.objs.size + 1) scope.names (cloFrom X.env.cells scope.names [])) s3.heap.objs.size X.env = ce at I4 pg pt pe ⊢
  have cL : ce.locals = s3.heap.objs.size := by subst hce; rfl
  generalize hH3 : upd H2 D (.lst []) = H3 at I3 I4 pg pt pe w0 nfp f3
  generalize hs4 : ({ s3 with heap := pushCells (s3.heap.push { cls := .type "dict", data := .dict #[] }) scope.names } : Shared) = s4 at I4 ⊢
  have k4 : 1 ≤ s4.toks := by rw [← hs4]; exact k3
  have st4 : tn 0 s4.heap := T.keep _ _ _ st3 fun b _ o e => by rw [← hs4]; exact pushCells_keeps _ _ _ _ (Heap.get?_push_of_some _ e)
  have stat : ∀ {σ' : St} {H' : Hp} {s' : Shared}, Inv (X.blk s3 H3 scope ce fp) [] σ' H' s' → (∀ b ∈ fp, H' b = none) → ∀ b ∈ fp, FpOk (X.blk s3 H3 scope ce fp) [] H' b := fun {σ' H' s'} I' hn b hb =>
    ⟨hn b hb, (I'.ok.exf b hb).1, I'.ok.exfs b hb, .inl hb, fun x c e => (I'.ok.exf b hb).2 x c e, fun p hp => absurd (show p ∈ ([] : List (Addr × Obj)) ++ [] from hp) (by simp)⟩
  have loop : codeAny (model X.prog X.w) X.A (.compLoop (.ListComp elt [⟨tg, iter, ifs, 0⟩] scope pos) 0 (.ref it) (.ref D) ce) (compPost (model X.prog X.w) X.A X.xe use Qf (.ref D) s3.heap.objs.size) s4 := by
    refine compLoop_any (fun n s' => ∃ i H', 1 ≤ s'.toks ∧ Inv (X.blk s3 H3 scope ce fp) [] (wipe σ (own.map (·.2))) H' s' ∧ tn i s'.heap ∧ (∀ b ∈ fp, H' b = none) ∧ W i n H') ?_ m0 ⟨0, H3, k4, I4, st4, nfp, w0⟩
    rintro n s5 ⟨i, H5, k5, I5, st5, n5, w5⟩
    rcases turn i n H5 w5 with ⟨stop, qq⟩ | ⟨go, Nx, hNx, step⟩
    · have td := T.done (X.blk s3 H3 scope ce fp) rfl rfl rfl hc i [] s5 _ H5 (fun _ _ => False) I5 (stat I5 n5) st5 stop
      refine thnF td fun r s6 ⟨hr, I6⟩ => ?_
      subst hr
      -- back in the def's context
      have I7 : Inv X pins σ H5 s6 := I3.call' (ch := fp) I6.os I6.base I6.hok I6.bare fun b hb => ⟨(f3 b hb).1.2.2.2.1, (f3 b hb).1.2.1, (f3 b hb).1.2.2.2.2.1, (f3 b hb).1.2.2.2.2.2⟩
      have nC : H5 s3.heap.objs.size = none := by
        have z : H5 ce.locals = none := I6.free
        rw [cL] at z
        exact z
      obtain ⟨m, hn, _⟩ := I6.loc
      have hn : s6.heap.Ns ce.locals m := hn
      rw [cL] at hn
      exact hRR D s3.heap.objs.size s6 m H5 I7 qq hn (I3.fpOk (Nat.le_refl _) nC)
    · have ti := T.item (X.blk s3 H3 scope ce fp) rfl rfl rfl hc i [] s5 _ H5 (fun _ _ => False) I5 (stat I5 n5) st5 go
      refine thnFT k5 ti fun r s6 k6 ⟨u, hr, h6⟩ => ?_
      subst hr
      refine thnFT k6 h6 fun _ s7 k7 ⟨x, H7, I7, r7, y7, st7, n7⟩ => ?_
      have I7' := I7.pinned (stat I7 n7) (T.obj _ _ st7)
      refine thnFT k7 (pg.run _ s7 _ H7 x u _ I7' r7 (step x H7 y7)) fun _ s8 k8 ⟨σ8, H8, I8, hw8, q8⟩ => ?_
      refine thnFT k8 (pt.run _ s8 σ8 H8 _ I8 q8) fun b s9 k9 ⟨H9, I9, q9⟩ => ?_
      -- the turn's end
      have fin : ∀ {s' : Shared} {H' : Hp}, 1 ≤ s'.toks → Inv (X.blk s3 H3 scope ce fp) ([] ++ pinsAt fp s7.heap) σ8 H' s' → Nx H' → ∃ m, m < n ∧ ∃ i H', 1 ≤ s'.toks ∧ Inv (X.blk s3 H3 scope ce fp) [] (wipe σ (own.map (·.2))) H' s' ∧ tn i s'.heap ∧ (∀ b ∈ fp, H' b = none) ∧ W i m H' := fun {s' H'} kk I' nx => by
        obtain ⟨m', hm, w'⟩ := hNx H' nx
        have pin' : ∀ b ∈ fp, ∀ o, s7.heap.get? b = some o → s'.heap.get? b = some o ∧ H' b = none := fun b hb o e =>
          let z := I'.pin (b, o) (List.mem_append_right _ (List.mem_append_right _ (mem_pinsAt hb e)))
          ⟨z.1, z.2.1⟩
        have hl : (wipe σ (own.map (·.2))).length = σ8.length := by rw [← hw8, wipe_length]
        refine ⟨m', hm, i + 1, H', kk, (I'.unpinned (pins := [])).weak hl (fun j v e => ?_), T.keep _ _ _ st7 fun b hb o e => (pin' b hb o e).1, fun b hb => ?_, w'⟩
        · rw [← hw8] at e
          exact (wipe_some e).1
        · obtain ⟨o, e, _⟩ := T.obj _ _ st7 b hb
          exact (pin' b hb o e).2
      cases b with
      | false =>
        simp only [Bool.false_eq_true, if_false] at q9 ⊢
        exact fin k9 I9 q9
      | true =>
        simp only [if_true] at q9 ⊢
        refine thnFT k9 (pe _ s9 σ8 H9 _ k9 I9 q9) fun z s10 k10 ⟨yv, H10, I10, r10, acc, hD10, hz10, nx⟩ => ?_
        exact thnT k10 (app_ok (X := X.blk s3 H3 scope ce fp) (Q := fun _ s11 => Inv (X.blk s3 H3 scope ce fp) ([] ++ pinsAt fp s7.heap) σ8 (upd H10 D (.lst (acc ++ [yv]))) s11) I10 hD10 hz10 r10 fun s11 I11 => I11) fun _ s11 k11 I11 => fin k11 I11 nx
  exact codeAny_compStart_list loop (T.self X.A 0 _ _ _ st4 loop)
/-- name = [..] on one line, the name a local -/
theorem pst_setLc {i : Nat} {y : Str} {py : Pos} {elt tg iter : Expr} {ifs : List Expr} {scope : Scope} {own : List (Str × Nat)} {pos spos : Pos} {wi : TI} {g : TG} {tt : TT} {te : TE} (hc : X.calm = true) (hN : X.N.Nodup) (hy : X.N[i]? = some y) (hyl : X.env.scope.names.lookup y = some .local)
    (hsw : swapsWith (.ListComp elt [⟨tg, iter, ifs, 0⟩] scope pos) (some (.Name y py)) spos.line X.env = pure true) (hi : PI X tg iter wi) (ok : BlkOk X.N X.env.scope scope own)
    (hg : ∀ (s : Shared) (H : Hp) (C : Addr) (cl : List (Str × Addr)) (fp : List Addr), PG (X.blk s H scope (compEnvC scope cl C X.env) fp) tg g) (ht : ∀ (s : Shared) (H : Hp) (C : Addr) (cl : List (Str × Addr)) (fp : List Addr), PTs (X.blk s H scope (compEnvC scope cl C X.env) fp) ifs tt)
    (he : ∀ (s : Shared) (H : Hp) (C : Addr) (cl : List (Str × Addr)) (fp : List Addr), PET (X.blk s H scope (compEnvC scope cl C X.env) fp) elt te) (hs : ∀ x, foldedSetIterable iter X.env x = pure x := by intro _; rfl) :
    PST X (.Assign [.Name y py] (.ListComp elt [⟨tg, iter, ifs, 0⟩] scope pos) spos) (tAsg (tLc wi g tt te (own.map (·.2))) (gName i)) := by
  intro pins s σ H D h0 I h
  rw [exec_Assign_Name_used _ _ _ _ hsw]
  refine wpAny_bind (wpAny_standAt (wpAny_bind ?_))
  show wpAny _ X.A (do let _ ← comprehension (.ListComp elt [⟨tg, iter, ifs, 0⟩] scope pos) scope X.env (firstIterPos [⟨tg, iter, ifs, 0⟩] pos) (newList []) false (eval iter X.env) (some (assign (.Name y py) X.env))) _ _ s
  have h : tLc wi g tt te (own.map (·.2)) σ H (fun x H1 => gName i x σ H1 D.nx) := h
  refine wpAny_bind (thn (lc_coreT (Qf := fun _ s' => SP X pins D .next s') hc hN h0 I hi ok hg ht he hs h fun L C s' m H' I' q hn f => ?_) fun _ s' hq => wpAny_pure (wpAny_pure hq))
  show wpAny _ _ (assign (.Name y py) X.env (.ref L)) _ _ _
  refine wpAny_assign_Name (store_ok2 (v := V.ref L) I' hN hy (.inl hyl) rfl (fun s2 I2 ⟨a, sb, ha⟩ => ?_) (.inr hyl))
  obtain ⟨f0, f1, f2, f3, f4, f5⟩ := f
  have haC : C ≠ a := by
    rcases ha with z | z
    · rw [z]; exact f1
    · exact fun e => f4 y a z e.symm
  refine ⟨m, hn.sameBut sb haC, fun h3 sb3 => ?_⟩
  exact ⟨_, H', I2.turned (t' := s2.toks) (fun b o hb e => (sb3.2 b hb).trans e) f0 f1 f3 f4 f5, q⟩

/-- name = ["..", ..]: behind it a token is out -/
theorem pss_lstT {i j : Nat} {x c : Str} {es : List Expr} {rest : List Stmt} {ta : TA} {u : TS} {cpos lpos pos' pos : Pos} (hN : X.N.Nodup) (hi : X.N[i]? = some x) (hx : Loc X.env.scope x) (h1 : PA X es ta) (h2 : PSsT X rest u)
    (hst : starEach (.Constant (.str c) j cpos :: es) X.env = (false, eval (.Constant (.str c) j cpos) X.env) :: starEach es X.env := by rfl)
    (hs : swapsWith (.List (.Constant (.str c) j cpos :: es) lpos) (some (.Name x pos')) pos.line X.env = pure false := by rfl) (hf : X.fn x = true ∨ X.env.scope.names.lookup x = some .local := by first | exact .inl rfl | exact .inr rfl | assumption) :
    PSs X (.Assign [.Name x pos'] (.List (.Constant (.str c) j cpos :: es) lpos) pos :: rest) (tSeq (tAsg (tLst (tCons (tC (.str c)) ta)) (gName i)) u) := by
  refine ⟨fun pins s σ H D I hq => ?_⟩
  refine wpAny_execs_cons (wpAny_Assign_Name (wpAny_List_spliced ?_) hs)
  rw [hst]
  show wpAny _ _ (spliced ((false, eval (.Constant (.str c) j cpos) X.env) :: backTo lpos (starEach es X.env))) _ _ s
  refine Calls.spliced_cons (Calls.Constant_str ?_)
  have k1 : 1 ≤ ({ s with toks := s.toks + 1 } : Shared).toks := by show 1 ≤ s.toks + 1; omega
  refine thnT k1 (h1.run lpos pins _ σ H _ (I.tok (s.toks + 1)) hq) fun us s1 k2 ⟨xs, H1, I1, r, z, q⟩ => ⟨?_, ?_⟩
  · show (us.length + 1) ≤ _
    rw [← r.length]; exact z
  have hf1 : H1 s1.heap.objs.size = none := I1.hok.fresh (Nat.le_refl _)
  have I2 := I1.laid (t' := s1.toks) (s := s1) (a := s1.heap.objs.size) (h' := s1.heap.push { cls := .type "list", data := .seq (Value.str c s.toks :: us).toArray }) (o := .lst (V.str c :: xs)) (fun b u e => Heap.get?_push_of_some _ e) (Nat.le_refl _) ⟨z, _, 0, .cons ⟨s.toks, rfl⟩ r, Heap.get?_push_size _ rfl⟩
  refine thnT (n := 1) (by exact k2) (store_ok (v := V.ref s1.heap.objs.size) (Q := fun _ s2 => ∃ H2, Inv X pins (σ.set i (some (V.ref s1.heap.objs.size))) H2 s2 ∧ u D (σ.set i (some (V.ref s1.heap.objs.size))) H2) I2 hN hi hx rfl (fun s2 I3 => ⟨_, I3, q _ hf1⟩) hf) fun _ s2 k3 ⟨H2, I3, q3⟩ => ?_
  exact h2 pins s2 _ H2 D k3 I3 q3
end
end L2
namespace Bv
open PySem PySem.Spec L2
open PyProof.Rows hiding St
variable [HasW]
abbrev MET (X : Cx) (Wx : WX) (e : Expr) (m : M) : Prop := PET X e (RE X.K Wx m)
abbrev MPT (X : Cx) (Wx : WX) (st : Stmt) (m : MS) : Prop := PST X st (RS X.K Wx m)
abbrev MPsT (X : Cx) (Wx : WX) (sts : List Stmt) (m : MS) : Prop := PSsT X sts (RS X.K Wx m)
def g_repl (y z : Str) (x : Bv.X) (S : Sto) : R Bv.X := match x with
  | .d (.str a) => if decide (a.length + (a.length + 1) * z.length ≤ 16777216) && PyData.strOk (Txt.replace a y z) then .ok (.d (.str (Txt.replace a y z))) S else .bad
  | _ => .bad
def m_repl (y z : Str) (m : M) : M := fun e S => (m e S).bind fun x S1 => g_repl y z x S1
section
variable {X : Cx} {Wx : WX} {o e elt tg iter a : Expr} {ifs : List Expr} {st : Stmt} {rest : List Stmt} {mo m me : M} {mi : MIt} {mt : MG Bool} {t : Tg} {m1 m2 : MS} {pos apos c0 c1 : Pos} {y z : Str} {j k : Nat}
theorem met_of (h : ME X Wx e m) : MET X Wx e m := CwR.PET.of h
theorem met_repl (ho : MET X Wx o mo) (hyz : (y == z) = false := by decide)
    (hst : starEach [.Constant (.str y) j c0, .Constant (.str z) k c1] X.env = [(false, eval (.Constant (.str y) j c0) X.env), (false, eval (.Constant (.str z) k c1) X.env)] := by rfl)
    (hbase : attributeBase o "replace" X.env (eval o X.env) = eval o X.env := by rfl) (hline : (apos.endLine == pos.line) = true := by rfl) :
    MET X Wx (.Call (.Attribute o "replace" apos) [.Constant (.str y) j c0, .Constant (.str z) k c1] [] pos) (m_repl y z mo) := fun pins s σ H Q h0 I ⟨Z, ρ, e, S, st, ev, p⟩ => CwR.pet_replT ho hyz hst hbase hline pins s σ H Q h0 I (tt_bind st ev p fun ρ1 H1 v x S1 s1 g1 ev1 a1 p1 => by
  cases a1 with
  | r _ => exact p1.elim
  | d a =>
    cases a with
    | str hz =>
      rename_i b
      have p2 : PostG (AX X.K) X.K Z ρ1 H1 Wx σ Q (g_repl y z (.d (.str b)) S1) := p1
      unfold g_repl at p2
      simp only at p2
      split at p2
      · rename_i hc
        obtain ⟨c1, c2⟩ := Bool.and_eq_true_iff.mp hc
        exact ⟨b, rfl, of_decide_eq_true c1, PostG.ret0 p2 s1 (.d (.str c2))⟩
      · exact p2.elim
    | _ => exact p1.elim)
theorem mpt_of (h : MP X Wx st m1) : MPT X Wx st m1 := PST.of h
theorem mpst_of (h : MPs X Wx rest m1) : MPsT X Wx rest m1 := PSsT.of h
theorem seq_run {σ : L2.St} {H : Hp} {D : Ends} (h : RS X.K Wx (s_seq m1 m2) D σ H) : tSeq (RS X.K Wx m1) (RS X.K Wx m2) D σ H := by
  obtain ⟨Z, ρ, e, S, st, ev, p⟩ := h
  refine ⟨Z, ρ, e, S, st, ev, ?_⟩
  have p : PostS X.K Z ρ H Wx D ((m1 e S).then m2) := p
  cases q : m1 e S with
  | go o S1 =>
    rw [q] at p
    cases o with
    | nx e1 => exact fun ρ' H' σ' st' go ev' => ⟨Z, ρ', e1, S1, st', ev', PostS.shift go st' p⟩
    | _ => exact p
  | err C fs e1 S1 => rw [q] at p; exact p
  | bad => rw [q] at p; exact p
theorem mpst_cons (h1 : MPT X Wx st m1) (h2 : MPsT X Wx rest m2) : MPsT X Wx (st :: rest) (s_seq m1 m2) := fun pins s σ H D h0 I h => psst_cons h1 h2 pins s σ H D h0 I (seq_run h)
theorem lst_run {ms : MG (List Bv.X)} {σ : L2.St} {H : Hp} {Q : VK} (h : RE X.K Wx (m_lst ms) σ H Q) : tLst (RA X.K Wx ms) σ H Q := by
  obtain ⟨Z, ρ, e, S, st, ev, p⟩ := h
  refine tt_bind st ev p fun ρ1 H1 vs xs S1 st1 g1 ev1 a1 p1 => ?_
  unfold dispL at p1
  cases q : ds? xs with
  | none => rw [q] at p1; exact p1.elim
  | some ds =>
    rw [q] at p1
    have p1 : Post X.K Z ρ1 H1 Wx σ Q (if ds.length ≤ sizeLine then .ok (.d (.lst ds)) S1 else .bad) := p1
    by_cases hl : ds.length ≤ sizeLine
    · rw [if_pos hl] at p1
      have av := AXs.ds a1 q
      exact ⟨by rw [← av.length]; exact hl, fun p hp => PostG.ret p1 st1 (upd_keep hp) (.d (new_lst (fun _ h => st1.thereW h) hp av))⟩
    · rw [if_neg hl] at p1; exact p1.elim
theorem cons_run {c : Str} (hc : PyData.strOk c = true) {ms : MG (List Bv.X)} {σ : L2.St} {H : Hp} {Q : List V → Hp → Prop} (h : RA X.K Wx (m_cons (m_c (.str c)) ms) σ H Q) : tCons (tC (.str c)) (RA X.K Wx ms) σ H Q := by
  obtain ⟨Z, ρ, e, S, st, ev, p⟩ := h
  have p : PostG (AXs X.K) X.K Z ρ H Wx σ Q ((ms e S).bind fun xs S2 => .ok (.d (.str c) :: xs) S2) := p
  refine tt_bind st ev p fun ρ2 H2 vs xs S2 st2 g2 ev2 a2 p2 => ?_
  exact PostG.ret0 p2 st2 (.cons (.d (.str hc)) a2)
theorem mps_lstT {ms : MG (List Bv.X)} {es : List Expr} {i : Nat} {x c : Str} {lpos pos' : Pos} (hN : X.N.Nodup) (hi : X.N[i]? = some x) (hx : Loc X.env.scope x) (h1 : MA X Wx es ms) (h2 : MPsT X Wx rest m2) (hc : PyData.strOk c = true := by decide +kernel)
    (hst : starEach (.Constant (.str c) j c0 :: es) X.env = (false, eval (.Constant (.str c) j c0) X.env) :: starEach es X.env := by rfl)
    (hs : swapsWith (.List (.Constant (.str c) j c0 :: es) lpos) (some (.Name x pos')) pos.line X.env = pure false := by rfl) (hf : X.fn x = true ∨ X.env.scope.names.lookup x = some .local := by first | exact .inl rfl | exact .inr rfl | assumption) :
    MPs X Wx (.Assign [.Name x pos'] (.List (.Constant (.str c) j c0 :: es) lpos) pos :: rest) (s_seq (s_set i (m_lst (m_cons (m_c (.str c)) ms))) m2) := PSs.of (pss_lstT hN hi hx h1 h2 hst hs hf) fun D σ H h => by
  obtain ⟨Z, ρ, e, S, st, ev, p⟩ := seq_run h
  have hR : RE X.K Wx (m_lst (m_cons (m_c (.str c)) ms)) σ H (fun x H1 => RS X.K Wx m2 D (σ.set i (some x)) H1) :=
    so_bind st ev p fun ρ1 H1 v x S1 st1 g1 ev1 a1 p1 => p1.next st1 (ev1.set a1)
  exact cons_run hc (lst_run hR)
theorem mpst_setLc {i : Nat} {y : Str} {py spos : Pos} {scope : Scope} {own : List (Str × Nat)} (hc : X.calm = true) (hN : X.N.Nodup) (hy : X.N[i]? = some y) (hyl : X.env.scope.names.lookup y = some .local)
    (hsw : swapsWith (.ListComp elt [⟨tg, iter, ifs, 0⟩] scope pos) (some (.Name y py)) spos.line X.env = pure true) (hi : MI X Wx tg iter mi) (ok : BlkOk X.N X.env.scope scope own) (hsl : ∀ i ∈ t.slots, i ∈ own.map (·.2))
    (hg : ∀ (s : Shared) (H : Hp) (C : Addr) (cl : List (Str × Addr)) (fp : List Addr), PG (X.blk s H scope (compEnvC scope cl C X.env) fp) tg (TGt X.K t)) (ht : ∀ (s : Shared) (H : Hp) (C : Addr) (cl : List (Str × Addr)) (fp : List Addr), MTs (X.blk s H scope (compEnvC scope cl C X.env) fp) WX0 ifs mt)
    (he : ∀ (s : Shared) (H : Hp) (C : Addr) (cl : List (Str × Addr)) (fp : List Addr), MET (X.blk s H scope (compEnvC scope cl C X.env) fp) WX0 elt me) (hs : ∀ x, foldedSetIterable iter X.env x = pure x := by intro _; rfl) :
    MPT X Wx (.Assign [.Name y py] (.ListComp elt [⟨tg, iter, ifs, 0⟩] scope pos) spos) (s_set i (m_lc t mi mt me (own.map (·.2)))) := fun pins s σ H D h0 I ⟨Z, ρ, e, S, st, ev, p⟩ => pst_setLc hc hN hy hyl hsw hi ok hg ht he hs pins s σ H D h0 I (by
  refine lc_run (mt := mt) (me := me) (t := t) hsl ?_
  exact so_bind (rel := AX X.K) st ev p fun ρ1 H1 v x S1 st1 g1 ev1 a1 p1 => p1.next st1 (ev1.set a1))
end
end Bv
set_option Elab.async false
set_option linter.all false
set_option maxRecDepth 100000
set_option maxHeartbeats 4000000
namespace Lw
open PySem PySem.Spec L2 Bv
open PyProof.Rows hiding St
def top (i : Nat) : Stmt := PySem.Challenge.pw_wordingkept_k57_comparing_known_by_hand.main.body.getD i (.Pass ⟨0, 0, 0, 0⟩)
/-- what is known of the module's names and of the written part -/
structure Facts (K : PySem.W.Frag) (mg : Str → Option Value) : Prop where
  v_HEADS : t_tup "HEADS" ["marks", "shown", "asked"] K = true
  g_HEADS : mg "HEADS" = some (.ref (He.ga K "HEADS"))
  f_enumerate : mg "enumerate" = none
  f_len : mg "len" = none
  f_isinstance : mg "isinstance" = none
  is_str : IsT K (.type "str") (tabOf "str") [("Row", false), ("Tool", false)]
  f_str : mg "str" = none
  v_BARRED : t_tup "BARRED" ["any", "same", "take", "keep", "to"] K = true
  g_BARRED : mg "BARRED" = some (.ref (He.ga K "BARRED"))
  i_MOST_LETTERS : ∃ t, mg "MOST_LETTERS" = some (.int 5 t)
  s_LETTERS : ∃ t, mg "LETTERS" = some (.str "abcdefghijklmnopqrstuvwxyz" t)
  f_all : mg "all" = none
  g_is_name : mg "is_name" = some (.ref (He.ga K "is_name"))
  g_names_in : mg "names_in" = some (.ref (He.ga K "names_in"))
  v_TAKINGS : t_tup "TAKINGS" ["keep", "take"] K = true
  g_TAKINGS : mg "TAKINGS" = some (.ref (He.ga K "TAKINGS"))
  v_HAPPENINGS : t_tup "HAPPENINGS" ["give", "carry", "drop", "back", "right", "wrong"] K = true
  g_HAPPENINGS : mg "HAPPENINGS" = some (.ref (He.ga K "HAPPENINGS"))
  g_is_word : mg "is_word" = some (.ref (He.ga K "is_word"))
  is_bool : IsT K (.type "bool") (tabOf "bool") [("Row", false), ("Tool", false)]
  f_bool : mg "bool" = none
  at_Row_word : AttrOk K ["Row"] "word"
  at_Row_old : AttrOk K ["Row"] "old"
  at_Row_then : AttrOk K ["Row"] "then"
  at_Row_take : AttrOk K ["Row"] "take"
  M_Row : Mk K (He.ga K "Row") (He.ma K (He.ga K "Row") "__init__")
  g_Row : mg "Row" = some (.ref (He.ga K "Row"))
  cm_Row_read : ClsM K "Row" "read"
  iss_list_tuple : IsTs K [.type "list", .type "tuple"] (tabsOf ["list", "tuple"]) [("Row", false), ("Tool", false)]
  f_list : mg "list" = none
  f_tuple : mg "tuple" = none
  g_is_sequence : mg "is_sequence" = some (.ref (He.ga K "is_sequence"))
  f_set : mg "set" = none
  g_are_unlike : mg "are_unlike" = some (.ref (He.ga K "are_unlike"))
  g_are_names : mg "are_names" = some (.ref (He.ga K "are_names"))
  is_Row : IsT K (.ref (He.ga K "Row")) tabNone [("Row", true), ("Tool", false)]
  f_any : mg "any" = none
  at_Tool_marks : AttrOk K ["Tool"] "marks"
  at_Tool_shown : AttrOk K ["Tool"] "shown"
  at_Tool_asked : AttrOk K ["Tool"] "asked"
  at_Tool_rows : AttrOk K ["Tool"] "rows"
  at_Tool_blank : AttrOk K ["Tool"] "blank"
  M_Tool : Mk K (He.ga K "Tool") (He.ma K (He.ga K "Tool") "__init__")
  g_Tool : mg "Tool" = some (.ref (He.ga K "Tool"))
  cm_Tool_read : ClsM K "Tool" "read"
  g__law_text : mg "_law_text" = some (.ref (He.ga K "_law_text"))
  g_told_of : mg "told_of" = some (.ref (He.ga K "told_of"))
  c_Row : Cls K (He.ga K "Row")
  m_Row_fits : Meth K (He.ga K "Row") "fits" (He.ma K (He.ga K "Row") "fits")
  c_Tool : Cls K (He.ga K "Tool")
  m_Tool_row_for : Meth K (He.ga K "Tool") "row_for" (He.ma K (He.ga K "Tool") "row_for")
  m_Tool_becomes : Meth K (He.ga K "Tool") "becomes" (He.ma K (He.ga K "Tool") "becomes")
  g_parting : mg "parting" = some (.ref (He.ga K "parting"))
  g_alike : mg "alike" = some (.ref (He.ga K "alike"))
  g__law_size : mg "_law_size" = some (.ref (He.ga K "_law_size"))
  is_Tool : IsT K (.ref (He.ga K "Tool")) tabNone [("Row", false), ("Tool", true)]
  f_zip : mg "zip" = none
  f_int : mg "int" = none
  str_Row : OwnStr K "Row" (He.ma K (He.ga K "Row") "__str__")
  str_Tool : OwnStr K "Tool" (He.ma K (He.ga K "Tool") "__str__")
  eq_Tool : OwnEq K "Tool" (He.ma K (He.ga K "Tool") "__eq__")
  f_repr : mg "repr" = none
  f_range : mg "range" = none
  g_numbered : mg "numbered" = some (.ref (He.ga K "numbered"))
  g_heads_of : mg "heads_of" = some (.ref (He.ga K "heads_of"))
  g_once_each : mg "once_each" = some (.ref (He.ga K "once_each"))
  g_merged : mg "merged" = some (.ref (He.ga K "merged"))
  g_law : mg "law" = some (.ref (He.ga K "law"))
section
variable [HasW] {P : Program} {K : PySem.W.Frag} {mg : Str → Option Value} {base : Heap} {f : Addr} {fd : FuncData} {dl : List V} (Fx : Facts K mg)
/-! ### is_name -/
abbrev st_is_name : Stmt := top 14
def N_is_name : List Str := ["value", "sign"]
theorem nd_is_name : N_is_name.Nodup := by decide +kernel
theorem sc_is_name : FnScope N_is_name ["value"] (defScope st_is_name) := ⟨rfl, rfl, rfl, nd_is_name, rfl, by decide +kernel, by decide +kernel⟩
def b_is_name : MS := s_seq (s_if (m_orb (m_notb (m_truth (m_isi (tabOf "str") [("Row", false), ("Tool", false)] (m_var 0)))) (m_orb (m_tb (m_op2 inD (m_var 0) (m_c (.tup ((["any", "same", "take", "keep", "to"] : List Str).map D.str))))) (m_notb (m_tb (m_chain leD leD (m_c (.int 1)) (m_call lenF (m_cons (m_var 0) (m_nil))) (m_c (.int 5))))))) (s_retP (m_c (.bl false))) (s_nil)) (s_retP (m_call (blsF fun l => l.all id) (m_cons (m_lc (.nm 1) (i_val (m_var 0)) (b_true) (m_op2 inD (m_var 1) (m_c (.str "abcdefghijklmnopqrstuvwxyz"))) [1]) (m_nil))))
def g_is_name : List D → PR := runP 2 b_is_name
include Fx in
theorem ok_is_name  (F : FunD K "is_name" "is_name" (defArgs st_is_name) (defBody st_is_name) (defScope st_is_name) dl [] f fd) : FnG P HasW.w K mg base 1 f fd ["value"] (spP K 1 g_is_name) := fnP F sc_is_name fun cdv A outer s H E gu room => by
  have h : Here (cxB P HasW.w K mg base N_is_name "is_name" (defScope st_is_name) f cdv A outer s H E) (wxE E) 0 := here_of gu room
  unfold b_is_name
  exact mps_cons (mp_if (mt_w (mw_or (mt_not (mt_truth (me_isi rfl Fx.f_isinstance (me_var 0) (p_ty rfl Fx.f_str) Fx.is_str (.ty _)))) (mw_or (t_cmp h.in_ (me_var 0) (e_gtup rfl Fx.g_BARRED Fx.v_BARRED)) (mw_or1 (mt_not (t_chain h.le h.le (me_int) (me_bin c_len b_len rfl Fx.f_len (ma_cons (me_var 0) (ma_nil))) (e_gint rfl Fx.i_MOST_LETTERS))))))) (mps_one (mp_retP (me_bl))) (mps_nil)) (mps_one (mp_retP (me_bin (cr_all rfl) b_all rfl Fx.f_all (ma_cons (me_lc (own := [("sign", 1)]) (t := (.nm 1)) rfl nd_is_name (mi_val (me_var 0)) (blkOk_by (N := N_is_name) (sc := defScope st_is_name) (by decide +kernel)) (by decide) (fun _ _ _ _ _ => mg_name (i := 1) nd_is_name rfl (by first | exact Or.inl rfl | exact Or.inr rfl)) (fun _ _ _ _ _ => mts_nil) (fun _ _ _ _ _ => e_cmp (h.blk _ _ _ _ _).in_ (me_var 1) (e_gstr rfl Fx.s_LETTERS))) (ma_nil)))))
/-! ### names_in -/
abbrev st_names_in : Stmt := top 24
def N_names_in : List Str := ["line", "head", "words", "one"]
theorem nd_names_in : N_names_in.Nodup := by decide +kernel
theorem sc_names_in : FnScope N_names_in ["line", "head"] (defScope st_names_in) := ⟨rfl, rfl, rfl, nd_names_in, rfl, by decide +kernel, by decide +kernel⟩
def b_names_in : MS := s_seq (s_set 2 (m_sm1 g_split (m_var 0) (m_c (.str " ")))) (s_seq (s_if (m_orb (m_tb (m_op2 neD (m_ix (m_var 2) (m_c (.int 0))) (m_var 1))) (m_notb (m_truth (m_call (blsF fun l => l.all id) (m_cons (m_lc (.nm 3) (i_val (m_slice (m_var 2) (m_part (m_c (.int 1))) (m_no))) (b_true) (m_call (arity 1 (withD [] (callP g_is_name))) (m_cons (m_var 3) (m_nil))) [3]) (m_nil)))))) (s_retP (m_c .non)) (s_nil)) (s_retP (m_if (m_andb (m_tb (m_op2 eqD (m_var 1) (m_c (.str "marks")))) (m_tb (m_op2 eqD (m_call lenF (m_cons (m_var 2) (m_nil))) (m_c (.int 1))))) (m_c .non) (m_slice (m_var 2) (m_part (m_c (.int 1))) (m_no)))))
def g_names_in : List D → PR := runP 4 b_names_in
include Fx in
theorem ok_names_in (K_is_name : Kept P HasW.w K mg base 1 (He.ga K "is_name") (spP K 1 g_is_name)) (F : FunD K "names_in" "names_in" (defArgs st_names_in) (defBody st_names_in) (defScope st_names_in) dl [] f fd) : FnG P HasW.w K mg base 2 f fd ["line", "head"] (spP K 2 g_names_in) := fnP F sc_names_in fun cdv A outer s H E gu room => by
  have h : Here (cxB P HasW.w K mg base N_names_in "names_in" (defScope st_names_in) f cdv A outer s H E) (wxE E) 1 := here_of gu room
  unfold b_names_in
  exact mps_cons (mp_set (i := 2) nd_names_in rfl (by first | exact Or.inl rfl | exact Or.inr rfl) (me_split (me_var 0) (me_str))) (mps_cons (mp_if (mt_w (mw_or (t_cmp h.ne (me_ix (me_var 2) (me_int)) (me_var 1)) (mw_or1 (mt_not (mt_truth (me_bin (cr_all rfl) b_all rfl Fx.f_all (ma_cons (me_lc (own := [("one", 3)]) (t := (.nm 3)) rfl nd_names_in (mi_val (me_slice (me_var 2) (mo_some (me_int)) (mo_none))) (blkOk_by (N := N_names_in) (sc := defScope st_names_in) (by decide +kernel)) (by decide) (fun _ _ _ _ _ => mg_name (i := 3) nd_names_in rfl (by first | exact Or.inl rfl | exact Or.inr rfl)) (fun _ _ _ _ _ => mts_nil) (fun _ _ _ _ _ => me_call ((h.blk _ _ _ _ _).callP K_is_name (by decide)) rfl Fx.g_is_name K_is_name.kp (ma_cons (me_var 3) (ma_nil)))) (ma_nil)))))))) (mps_one (mp_retP (me_non))) (mps_nil)) (mps_one (mp_retP (me_if (mt_w (mw_and (t_cmp h.eq (me_var 1) (me_str)) (mw_and1 (t_cmp h.eq (me_bin c_len b_len rfl Fx.f_len (ma_cons (me_var 2) (ma_nil))) (me_int))))) (me_non) (me_slice (me_var 2) (mo_some (me_int)) (mo_none))))))
/-! ### is_word -/
abbrev st_is_word : Stmt := top 17
def N_is_word : List Str := ["value", "words"]
theorem nd_is_word : N_is_word.Nodup := by decide +kernel
theorem sc_is_word : FnScope N_is_word ["value", "words"] (defScope st_is_word) := ⟨rfl, rfl, rfl, nd_is_word, rfl, by decide +kernel, by decide +kernel⟩
def b_is_word : MS := s_retP (m_and (m_isi (tabOf "str") [("Row", false), ("Tool", false)] (m_var 0)) (m_op2 inD (m_var 0) (m_var 1)))
def g_is_word : List D → PR := runP 2 b_is_word
include Fx in
theorem ok_is_word  (F : FunD K "is_word" "is_word" (defArgs st_is_word) (defBody st_is_word) (defScope st_is_word) dl [] f fd) : FnG P HasW.w K mg base 1 f fd ["value", "words"] (spP K 2 g_is_word) := fnP F sc_is_word fun cdv A outer s H E gu room => by
  have h : Here (cxB P HasW.w K mg base N_is_word "is_word" (defScope st_is_word) f cdv A outer s H E) (wxE E) 0 := here_of gu room
  unfold b_is_word
  exact mps_one (mp_retP (me_and (me_isi rfl Fx.f_isinstance (me_var 0) (p_ty rfl Fx.f_str) Fx.is_str (.ty _)) (me_one (e_cmp h.in_ (me_var 0) (me_var 1)))))
/-! ### Row.__init__ -/
abbrev st_Row_init : Stmt := inClass (top 20) 0
def N_Row_init : List Str := ["self", "word", "old", "then", "take"]
theorem nd_Row_init : N_Row_init.Nodup := by decide +kernel
theorem sc_Row_init : FnScope N_Row_init ["self", "word", "old", "then", "take"] (defScope st_Row_init) := ⟨rfl, rfl, rfl, nd_Row_init, rfl, by decide +kernel, by decide +kernel⟩
def b_Row_init : MS := s_seq (s_if (m_notb (m_truth (m_call (arity 2 (withD [] (callP g_is_word))) (m_cons (m_var 1) (m_cons (m_c (.tup ((["give", "carry", "drop", "back", "right", "wrong"] : List Str).map D.str))) (m_nil)))))) (s_bad) (s_nil)) (s_seq (s_if (m_andb (m_tb (m_op2 neD (m_var 2) (m_c (.str "any")))) (m_notb (m_truth (m_call (arity 1 (withD [] (callP g_is_name))) (m_cons (m_var 2) (m_nil)))))) (s_bad) (s_nil)) (s_seq (s_if (m_andb (m_tb (m_op2 neD (m_var 3) (m_c (.str "same")))) (m_notb (m_truth (m_call (arity 1 (withD [] (callP g_is_name))) (m_cons (m_var 3) (m_nil)))))) (s_bad) (s_nil)) (s_seq (s_if (m_orb (m_notb (m_truth (m_isi (tabOf "bool") [("Row", false), ("Tool", false)] (m_var 4)))) (m_andb (m_tb (m_op2 neD (m_var 1) (m_c (.str "give")))) (m_notb (m_truth (m_var 4))))) (s_bad) (s_nil)) (s_seq (s_fld ["Row"] "word" (m_var 0) (m_var 1)) (s_seq (s_fld ["Row"] "old" (m_var 0) (m_var 2)) (s_seq (s_fld ["Row"] "then" (m_var 0) (m_var 3)) (s_fld ["Row"] "take" (m_var 0) (m_var 4))))))))
def g_Row_init : List X → Sto → R X := runE 5 b_Row_init
include Fx in
theorem ok_Row_init (K_is_word : Kept P HasW.w K mg base 1 (He.ga K "is_word") (spP K 2 g_is_word)) (K_is_name : Kept P HasW.w K mg base 1 (He.ga K "is_name") (spP K 1 g_is_name)) (F : FunD K "__init__" "Row.__init__" (defArgs st_Row_init) (defBody st_Row_init) (defScope st_Row_init) dl [] f fd) : FnG P HasW.w K mg base 2 f fd ["self", "word", "old", "then", "take"] (spE K 5 g_Row_init) := fnE F sc_Row_init fun cdv A outer s H E gu room => by
  have h : Here (cxB P HasW.w K mg base N_Row_init "Row.__init__" (defScope st_Row_init) f cdv A outer s H E) (wxE E) 1 := here_of gu room
  unfold b_Row_init
  exact mps_cons (mp_if (mt_not (mt_truth (me_call (h.callP K_is_word (by decide)) rfl Fx.g_is_word K_is_word.kp (ma_cons (me_var 1) (ma_cons (e_gtup rfl Fx.g_HAPPENINGS Fx.v_HAPPENINGS) (ma_nil)))))) (mps_one (mp_bad)) (mps_nil)) (mps_cons (mp_if (mt_w (mw_and (t_cmp h.ne (me_var 2) (me_str)) (mw_and1 (mt_not (mt_truth (me_call (h.callP K_is_name (by decide)) rfl Fx.g_is_name K_is_name.kp (ma_cons (me_var 2) (ma_nil)))))))) (mps_one (mp_bad)) (mps_nil)) (mps_cons (mp_if (mt_w (mw_and (t_cmp h.ne (me_var 3) (me_str)) (mw_and1 (mt_not (mt_truth (me_call (h.callP K_is_name (by decide)) rfl Fx.g_is_name K_is_name.kp (ma_cons (me_var 3) (ma_nil)))))))) (mps_one (mp_bad)) (mps_nil)) (mps_cons (mp_if (mt_w (mw_or (mt_not (mt_truth (me_isi rfl Fx.f_isinstance (me_var 4) (p_ty rfl Fx.f_bool) Fx.is_bool (.ty _)))) (mw_or1 (mt_w (mw_and (t_cmp h.ne (me_var 1) (me_str)) (mw_and1 (mt_not (mt_truth (me_var 4))))))))) (mps_one (mp_bad)) (mps_nil)) (mps_cons (mp_fld ["Row"] Fx.at_Row_word (me_var 0) (me_var 1)) (mps_cons (mp_fld ["Row"] Fx.at_Row_old (me_var 0) (me_var 2)) (mps_cons (mp_fld ["Row"] Fx.at_Row_then (me_var 0) (me_var 3)) (mps_one (mp_fld ["Row"] Fx.at_Row_take (me_var 0) (me_var 4)))))))))
/-! ### Row.read -/
abbrev st_Row_read : Stmt := inClass (top 20) 1
def N_Row_read : List Str := ["cls", "text", "words", "take", "error"]
theorem nd_Row_read : N_Row_read.Nodup := by decide +kernel
theorem sc_Row_read : FnScope N_Row_read ["cls", "text"] (defScope st_Row_read) := ⟨rfl, rfl, rfl, nd_Row_read, rfl, by decide +kernel, by decide +kernel⟩
def b_Row_read : MS := s_seq (s_set 2 (m_sm1 g_split (m_var 1) (m_c (.str " ")))) (s_seq (s_set 3 (m_c (.bl true))) (s_seq (s_if (m_andb (m_tb (m_op2 eqD (m_ix (m_var 2) (m_c (.int 0))) (m_c (.str "give")))) (m_andb (m_tb (m_op2 eqD (m_call lenF (m_cons (m_var 2) (m_nil))) (m_c (.int 5)))) (m_tb (m_op2 inD (m_ix (m_var 2) (m_c (.int 2))) (m_c (.tup ((["keep", "take"] : List Str).map D.str))))))) (s_seq (s_set 3 (m_op2 eqD (m_ix (m_var 2) (m_c (.int 2))) (m_c (.str "take")))) (s_set 2 (m_lst (m_star (m_slice (m_var 2) (m_no) (m_part (m_c (.int 2)))) (m_star (m_slice (m_var 2) (m_part (m_c (.int 3))) (m_no)) (m_nil)))))) (s_if (m_tb (m_op2 eqD (m_ix (m_var 2) (m_c (.int 0))) (m_c (.str "give")))) (s_bad) (s_nil))) (s_seq (s_if (m_orb (m_tb (m_op2 neD (m_call lenF (m_cons (m_var 2) (m_nil))) (m_c (.int 4)))) (m_tb (m_op2 neD (m_ix (m_var 2) (m_c (.int 2))) (m_c (.str "to"))))) (s_bad) (s_nil)) (s_ne (s_retP (m_callV 0 "Row" (arity 4 (withD [] (made "Row" mkF g_Row_init))) (m_cons (m_ix (m_var 2) (m_c (.int 0))) (m_cons (m_ix (m_var 2) (m_c (.int 1))) (m_cons (m_ix (m_var 2) (m_c (.int 3))) (m_cons (m_var 3) (m_nil)))))))))))
def g_Row_read : List D → PR := runP 5 b_Row_read
include Fx in
theorem ok_Row_read (K_Row_init : Kept P HasW.w K mg base 2 (He.ma K (He.ga K "Row") "__init__") (spE K 5 g_Row_init)) (F : FunD K "read" "Row.read" (defArgs st_Row_read) (defBody st_Row_read) (defScope st_Row_read) dl [] f fd) : FnG P HasW.w K mg base 4 f fd ["cls", "text"] (spP K 2 g_Row_read) := fnP F sc_Row_read fun cdv A outer s H E gu room => by
  have h : Here (cxB P HasW.w K mg base N_Row_read "Row.read" (defScope st_Row_read) f cdv A outer s H E) (wxE E) 3 := here_of gu room
  unfold b_Row_read
  exact mps_cons (mp_set (i := 2) nd_Row_read rfl (by first | exact Or.inl rfl | exact Or.inr rfl) (me_split (me_var 1) (me_str))) (mps_cons (mp_set (i := 3) nd_Row_read rfl (by first | exact Or.inl rfl | exact Or.inr rfl) (me_bl)) (mps_cons (mp_if (mt_w (mw_and (t_cmp h.eq (me_ix (me_var 2) (me_int)) (me_str)) (mw_and (t_cmp h.eq (me_bin c_len b_len rfl Fx.f_len (ma_cons (me_var 2) (ma_nil))) (me_int)) (mw_and1 (t_cmp h.in_ (me_ix (me_var 2) (me_int)) (e_gtup rfl Fx.g_TAKINGS Fx.v_TAKINGS)))))) (mps_cons (mp_set (i := 3) nd_Row_read rfl (by first | exact Or.inl rfl | exact Or.inr rfl) (e_cmp h.eq (me_ix (me_var 2) (me_int)) (me_str))) (mps_one (mp_set (i := 2) nd_Row_read rfl (by first | exact Or.inl rfl | exact Or.inr rfl) (me_lst (ma_star (me_slice (me_var 2) (mo_none) (mo_some (me_int))) (ma_star (me_slice (me_var 2) (mo_some (me_int)) (mo_none)) (ma_nil))))))) (mps_one (mp_if (t_cmp h.eq (me_ix (me_var 2) (me_int)) (me_str)) (mps_one (mp_bad)) (mps_nil)))) (mps_cons (mp_if (mt_w (mw_or (t_cmp h.ne (me_bin c_len b_len rfl Fx.f_len (ma_cons (me_var 2) (ma_nil))) (me_int)) (mw_or1 (t_cmp h.ne (me_ix (me_var 2) (me_int)) (me_str))))) (mps_one (mp_bad)) (mps_nil)) (mps_one (mp_try (mps_one (mp_retP (me_callV 0 ((h.nox).make mks_F (n := 4) Fx.M_Row K_Row_init (by decide)) Fx.M_Row.kp (ma_cons (me_ix (me_var 2) (me_int)) (ma_cons (me_ix (me_var 2) (me_int)) (ma_cons (me_ix (me_var 2) (me_int)) (ma_cons (me_var 3) (ma_nil)))))))))))))
/-! ### is_sequence -/
abbrev st_is_sequence : Stmt := top 15
def N_is_sequence : List Str := ["value"]
theorem nd_is_sequence : N_is_sequence.Nodup := by decide +kernel
theorem sc_is_sequence : FnScope N_is_sequence ["value"] (defScope st_is_sequence) := ⟨rfl, rfl, rfl, nd_is_sequence, rfl, by decide +kernel, by decide +kernel⟩
def b_is_sequence : MS := s_retP (m_isi (tabsOf ["list", "tuple"]) [("Row", false), ("Tool", false)] (m_var 0))
def g_is_sequence : List D → PR := runP 1 b_is_sequence
include Fx in
theorem ok_is_sequence  (F : FunD K "is_sequence" "is_sequence" (defArgs st_is_sequence) (defBody st_is_sequence) (defScope st_is_sequence) dl [] f fd) : FnG P HasW.w K mg base 1 f fd ["value"] (spP K 1 g_is_sequence) := fnP F sc_is_sequence fun cdv A outer s H E gu room => by
  have h : Here (cxB P HasW.w K mg base N_is_sequence "is_sequence" (defScope st_is_sequence) f cdv A outer s H E) (wxE E) 0 := here_of gu room
  unfold b_is_sequence
  exact mps_one (mp_retP (me_isiP rfl Fx.f_isinstance (me_var 0) (p_ty rfl Fx.f_list) (p_ty rfl Fx.f_tuple) Fx.iss_list_tuple (.ty _) (.ty _)))
/-! ### are_unlike -/
abbrev st_are_unlike : Stmt := top 16
def N_are_unlike : List Str := ["values"]
theorem nd_are_unlike : N_are_unlike.Nodup := by decide +kernel
theorem sc_are_unlike : FnScope N_are_unlike ["values"] (defScope st_are_unlike) := ⟨rfl, rfl, rfl, nd_are_unlike, rfl, by decide +kernel, by decide +kernel⟩
def b_are_unlike : MS := s_retP (m_op2 eqD (m_lenset (m_var 0)) (m_call lenF (m_cons (m_var 0) (m_nil))))
def g_are_unlike : List D → PR := runP 1 b_are_unlike
include Fx in
theorem ok_are_unlike  (F : FunD K "are_unlike" "are_unlike" (defArgs st_are_unlike) (defBody st_are_unlike) (defScope st_are_unlike) dl [] f fd) : FnG P HasW.w K mg base 1 f fd ["values"] (spP K 1 g_are_unlike) := fnP F sc_are_unlike fun cdv A outer s H E gu room => by
  have h : Here (cxB P HasW.w K mg base N_are_unlike "are_unlike" (defScope st_are_unlike) f cdv A outer s H E) (wxE E) 0 := here_of gu room
  unfold b_are_unlike
  exact mps_one (mp_retP (e_cmp h.eq (me_lenset rfl rfl Fx.f_len rfl Fx.f_set (me_var 0)) (me_bin c_len b_len rfl Fx.f_len (ma_cons (me_var 0) (ma_nil)))))
/-! ### are_names -/
abbrev st_are_names : Stmt := top 23
def N_are_names : List Str := ["value", "one"]
theorem nd_are_names : N_are_names.Nodup := by decide +kernel
theorem sc_are_names : FnScope N_are_names ["value"] (defScope st_are_names) := ⟨rfl, rfl, rfl, nd_are_names, rfl, by decide +kernel, by decide +kernel⟩
def b_are_names : MS := s_seq (s_if (m_orb (m_notb (m_truth (m_call (arity 1 (withD [] (callP g_is_sequence))) (m_cons (m_var 0) (m_nil))))) (m_notb (m_truth (m_call (blsF fun l => l.all id) (m_cons (m_lc (.nm 1) (i_val (m_var 0)) (b_true) (m_call (arity 1 (withD [] (callP g_is_name))) (m_cons (m_var 1) (m_nil))) [1]) (m_nil)))))) (s_retP (m_c (.bl false))) (s_nil)) (s_retP (m_call (arity 1 (withD [] (callP g_are_unlike))) (m_cons (m_var 0) (m_nil))))
def g_are_names : List D → PR := runP 2 b_are_names
include Fx in
theorem ok_are_names (K_is_sequence : Kept P HasW.w K mg base 1 (He.ga K "is_sequence") (spP K 1 g_is_sequence)) (K_is_name : Kept P HasW.w K mg base 1 (He.ga K "is_name") (spP K 1 g_is_name)) (K_are_unlike : Kept P HasW.w K mg base 1 (He.ga K "are_unlike") (spP K 1 g_are_unlike)) (F : FunD K "are_names" "are_names" (defArgs st_are_names) (defBody st_are_names) (defScope st_are_names) dl [] f fd) : FnG P HasW.w K mg base 2 f fd ["value"] (spP K 1 g_are_names) := fnP F sc_are_names fun cdv A outer s H E gu room => by
  have h : Here (cxB P HasW.w K mg base N_are_names "are_names" (defScope st_are_names) f cdv A outer s H E) (wxE E) 1 := here_of gu room
  unfold b_are_names
  exact mps_cons (mp_if (mt_w (mw_or (mt_not (mt_truth (me_call (h.callP K_is_sequence (by decide)) rfl Fx.g_is_sequence K_is_sequence.kp (ma_cons (me_var 0) (ma_nil))))) (mw_or1 (mt_not (mt_truth (me_bin (cr_all rfl) b_all rfl Fx.f_all (ma_cons (me_lc (own := [("one", 1)]) (t := (.nm 1)) rfl nd_are_names (mi_val (me_var 0)) (blkOk_by (N := N_are_names) (sc := defScope st_are_names) (by decide +kernel)) (by decide) (fun _ _ _ _ _ => mg_name (i := 1) nd_are_names rfl (by first | exact Or.inl rfl | exact Or.inr rfl)) (fun _ _ _ _ _ => mts_nil) (fun _ _ _ _ _ => me_call ((h.blk _ _ _ _ _).callP K_is_name (by decide)) rfl Fx.g_is_name K_is_name.kp (ma_cons (me_var 1) (ma_nil)))) (ma_nil)))))))) (mps_one (mp_retP (me_bl))) (mps_nil)) (mps_one (mp_retP (me_call (h.callP K_are_unlike (by decide)) rfl Fx.g_are_unlike K_are_unlike.kp (ma_cons (me_var 0) (ma_nil)))))
/-! ### Tool.__init__ -/
abbrev st_Tool_init : Stmt := inClass (top 25) 0
def N_Tool_init : List Str := ["self", "marks", "shown", "asked", "rows", "row", "one"]
theorem nd_Tool_init : N_Tool_init.Nodup := by decide +kernel
theorem sc_Tool_init : FnScope N_Tool_init ["self", "marks", "shown", "asked", "rows"] (defScope st_Tool_init) := ⟨rfl, rfl, rfl, nd_Tool_init, rfl, by decide +kernel, by decide +kernel⟩
def b_Tool_init : MS := s_seq (s_if (m_orb (m_notb (m_truth (m_call (arity 1 (withD [] (callP g_are_names))) (m_cons (m_var 1) (m_nil))))) (m_tb (m_op2 eqD (m_call lenF (m_cons (m_var 1) (m_nil))) (m_c (.int 0))))) (s_bad) (s_nil)) (s_seq (s_if (m_orb (m_notb (m_truth (m_call (arity 1 (withD [] (callP g_are_names))) (m_cons (m_var 2) (m_nil))))) (m_notb (m_truth (m_call (blsF fun l => l.all id) (m_cons (m_lc (.nm 6) (i_val (m_var 2)) (b_true) (m_op2 inD (m_var 6) (m_slice (m_var 1) (m_part (m_c (.int 1))) (m_no))) [6]) (m_nil)))))) (s_bad) (s_nil)) (s_seq (s_if (m_orb (m_notb (m_truth (m_call (arity 1 (withD [] (callP g_are_names))) (m_cons (m_var 3) (m_nil))))) (m_notb (m_truth (m_call (blsF fun l => l.all id) (m_cons (m_lc (.nm 6) (i_val (m_var 3)) (b_true) (m_op2 inD (m_var 6) (m_var 1)) [6]) (m_nil)))))) (s_bad) (s_nil)) (s_seq (s_if (m_orb (m_notb (m_truth (m_call (arity 1 (withD [] (callP g_is_sequence))) (m_cons (m_var 4) (m_nil))))) (m_notb (m_truth (m_call (blsF fun l => l.all id) (m_cons (m_lc (.nm 5) (i_val (m_var 4)) (b_true) (m_isi tabNone [("Row", true), ("Tool", false)] (m_var 5)) [5]) (m_nil)))))) (s_bad) (s_nil)) (s_seq (s_if (m_notb (m_truth (m_call (blsF fun l => l.all id) (m_cons (m_lc (.nm 5) (i_val (m_var 4)) (b_true) (m_and (m_op2 inD (m_attr ["Row"] "old" (m_var 5)) (m_tup (m_cons (m_c (.str "any")) (m_star (m_var 1) (m_nil))))) (m_op2 inD (m_attr ["Row"] "then" (m_var 5)) (m_tup (m_cons (m_c (.str "same")) (m_star (m_var 1) (m_nil)))))) [5]) (m_nil))))) (s_bad) (s_nil)) (s_seq (s_if (m_truth (m_call (blsF fun l => l.any id) (m_cons (m_lc (.nm 5) (i_val (m_var 4)) (b_true) (m_and (m_op2 neD (m_attr ["Row"] "word" (m_var 5)) (m_c (.str "give"))) (m_op2 eqD (m_attr ["Row"] "old" (m_var 5)) (m_ix (m_var 1) (m_c (.int 0))))) [5]) (m_nil)))) (s_bad) (s_nil)) (s_seq (s_fld ["Tool"] "marks" (m_var 0) (m_call tupF (m_cons (m_var 1) (m_nil)))) (s_seq (s_fld ["Tool"] "shown" (m_var 0) (m_call tupF (m_cons (m_lc (.nm 6) (i_val (m_var 1)) (m_tb (m_op2 inD (m_var 6) (m_var 2))) (m_var 6) [6]) (m_nil)))) (s_seq (s_fld ["Tool"] "asked" (m_var 0) (m_call tupF (m_cons (m_lc (.nm 6) (i_val (m_var 1)) (m_tb (m_op2 inD (m_var 6) (m_var 3))) (m_var 6) [6]) (m_nil)))) (s_seq (s_fld ["Tool"] "rows" (m_var 0) (m_call tupF (m_cons (m_var 4) (m_nil)))) (s_fld ["Tool"] "blank" (m_var 0) (m_ix (m_var 1) (m_c (.int 0)))))))))))))
def g_Tool_init : List X → Sto → R X := runE 7 b_Tool_init
include Fx in
theorem ok_Tool_init (K_are_names : Kept P HasW.w K mg base 2 (He.ga K "are_names") (spP K 1 g_are_names)) (K_is_sequence : Kept P HasW.w K mg base 1 (He.ga K "is_sequence") (spP K 1 g_is_sequence)) (F : FunD K "__init__" "Tool.__init__" (defArgs st_Tool_init) (defBody st_Tool_init) (defScope st_Tool_init) dl [] f fd) : FnG P HasW.w K mg base 3 f fd ["self", "marks", "shown", "asked", "rows"] (spE K 5 g_Tool_init) := fnE F sc_Tool_init fun cdv A outer s H E gu room => by
  have h : Here (cxB P HasW.w K mg base N_Tool_init "Tool.__init__" (defScope st_Tool_init) f cdv A outer s H E) (wxE E) 2 := here_of gu room
  unfold b_Tool_init
  exact mps_cons (mp_if (mt_w (mw_or (mt_not (mt_truth (me_call (h.callP K_are_names (by decide)) rfl Fx.g_are_names K_are_names.kp (ma_cons (me_var 1) (ma_nil))))) (mw_or1 (t_cmp h.eq (me_bin c_len b_len rfl Fx.f_len (ma_cons (me_var 1) (ma_nil))) (me_int))))) (mps_one (mp_bad)) (mps_nil)) (mps_cons (mp_if (mt_w (mw_or (mt_not (mt_truth (me_call (h.callP K_are_names (by decide)) rfl Fx.g_are_names K_are_names.kp (ma_cons (me_var 2) (ma_nil))))) (mw_or1 (mt_not (mt_truth (me_bin (cr_all rfl) b_all rfl Fx.f_all (ma_cons (me_lc (own := [("one", 6)]) (t := (.nm 6)) rfl nd_Tool_init (mi_val (me_var 2)) (blkOk_by (N := N_Tool_init) (sc := defScope st_Tool_init) (by decide +kernel)) (by decide) (fun _ _ _ _ _ => mg_name (i := 6) nd_Tool_init rfl (by first | exact Or.inl rfl | exact Or.inr rfl)) (fun _ _ _ _ _ => mts_nil) (fun _ _ _ _ _ => e_cmp (h.blk _ _ _ _ _).in_ (me_var 6) (me_slice (me_var 1) (mo_some (me_int)) (mo_none)))) (ma_nil)))))))) (mps_one (mp_bad)) (mps_nil)) (mps_cons (mp_if (mt_w (mw_or (mt_not (mt_truth (me_call (h.callP K_are_names (by decide)) rfl Fx.g_are_names K_are_names.kp (ma_cons (me_var 3) (ma_nil))))) (mw_or1 (mt_not (mt_truth (me_bin (cr_all rfl) b_all rfl Fx.f_all (ma_cons (me_lc (own := [("one", 6)]) (t := (.nm 6)) rfl nd_Tool_init (mi_val (me_var 3)) (blkOk_by (N := N_Tool_init) (sc := defScope st_Tool_init) (by decide +kernel)) (by decide) (fun _ _ _ _ _ => mg_name (i := 6) nd_Tool_init rfl (by first | exact Or.inl rfl | exact Or.inr rfl)) (fun _ _ _ _ _ => mts_nil) (fun _ _ _ _ _ => e_cmp (h.blk _ _ _ _ _).in_ (me_var 6) (me_var 1))) (ma_nil)))))))) (mps_one (mp_bad)) (mps_nil)) (mps_cons (mp_if (mt_w (mw_or (mt_not (mt_truth (me_call (h.callP K_is_sequence (by decide)) rfl Fx.g_is_sequence K_is_sequence.kp (ma_cons (me_var 4) (ma_nil))))) (mw_or1 (mt_not (mt_truth (me_bin (cr_all rfl) b_all rfl Fx.f_all (ma_cons (me_lc (own := [("row", 5)]) (t := (.nm 5)) rfl nd_Tool_init (mi_val (me_var 4)) (blkOk_by (N := N_Tool_init) (sc := defScope st_Tool_init) (by decide +kernel)) (by decide) (fun _ _ _ _ _ => mg_name (i := 5) nd_Tool_init rfl (by first | exact Or.inl rfl | exact Or.inr rfl)) (fun _ _ _ _ _ => mts_nil) (fun _ _ _ _ _ => me_isi rfl Fx.f_isinstance (me_var 5) (p_own rfl Fx.g_Row) Fx.is_Row (.own _))) (ma_nil)))))))) (mps_one (mp_bad)) (mps_nil)) (mps_cons (mp_if (mt_not (mt_truth (me_bin (cr_all rfl) b_all rfl Fx.f_all (ma_cons (me_lc (own := [("row", 5)]) (t := (.nm 5)) rfl nd_Tool_init (mi_val (me_var 4)) (blkOk_by (N := N_Tool_init) (sc := defScope st_Tool_init) (by decide +kernel)) (by decide) (fun _ _ _ _ _ => mg_name (i := 5) nd_Tool_init rfl (by first | exact Or.inl rfl | exact Or.inr rfl)) (fun _ _ _ _ _ => mts_nil) (fun _ _ _ _ _ => me_and (e_cmp (h.blk _ _ _ _ _).in_ (me_attr ["Row"] Fx.at_Row_old (me_var 5)) (me_tup (ma_cons (me_str) (ma_star (me_var 1) (ma_nil))))) (me_one (e_cmp (h.blk _ _ _ _ _).in_ (me_attr ["Row"] Fx.at_Row_then (me_var 5)) (me_tup (ma_cons (me_str) (ma_star (me_var 1) (ma_nil)))))))) (ma_nil))))) (mps_one (mp_bad)) (mps_nil)) (mps_cons (mp_if (mt_truth (me_bin (cr_any rfl) b_any rfl Fx.f_any (ma_cons (me_lc (own := [("row", 5)]) (t := (.nm 5)) rfl nd_Tool_init (mi_val (me_var 4)) (blkOk_by (N := N_Tool_init) (sc := defScope st_Tool_init) (by decide +kernel)) (by decide) (fun _ _ _ _ _ => mg_name (i := 5) nd_Tool_init rfl (by first | exact Or.inl rfl | exact Or.inr rfl)) (fun _ _ _ _ _ => mts_nil) (fun _ _ _ _ _ => me_and (e_cmp (h.blk _ _ _ _ _).ne (me_attr ["Row"] Fx.at_Row_word (me_var 5)) (me_str)) (me_one (e_cmp (h.blk _ _ _ _ _).eq (me_attr ["Row"] Fx.at_Row_old (me_var 5)) (me_ix (me_var 1) (me_int)))))) (ma_nil)))) (mps_one (mp_bad)) (mps_nil)) (mps_cons (mp_fld ["Tool"] Fx.at_Tool_marks (me_var 0) (me_bty call_tuple_of b_tup rfl Fx.f_tuple (ma_cons (me_var 1) (ma_nil)))) (mps_cons (mp_fld ["Tool"] Fx.at_Tool_shown (me_var 0) (me_bty call_tuple_of b_tup rfl Fx.f_tuple (ma_cons (me_lc (own := [("one", 6)]) (t := (.nm 6)) rfl nd_Tool_init (mi_val (me_var 1)) (blkOk_by (N := N_Tool_init) (sc := defScope st_Tool_init) (by decide +kernel)) (by decide) (fun _ _ _ _ _ => mg_name (i := 6) nd_Tool_init rfl (by first | exact Or.inl rfl | exact Or.inr rfl)) (fun _ _ _ _ _ => mts_one (t_cmp (h.blk _ _ _ _ _).in_ (me_var 6) (me_var 2))) (fun _ _ _ _ _ => me_var 6)) (ma_nil)))) (mps_cons (mp_fld ["Tool"] Fx.at_Tool_asked (me_var 0) (me_bty call_tuple_of b_tup rfl Fx.f_tuple (ma_cons (me_lc (own := [("one", 6)]) (t := (.nm 6)) rfl nd_Tool_init (mi_val (me_var 1)) (blkOk_by (N := N_Tool_init) (sc := defScope st_Tool_init) (by decide +kernel)) (by decide) (fun _ _ _ _ _ => mg_name (i := 6) nd_Tool_init rfl (by first | exact Or.inl rfl | exact Or.inr rfl)) (fun _ _ _ _ _ => mts_one (t_cmp (h.blk _ _ _ _ _).in_ (me_var 6) (me_var 3))) (fun _ _ _ _ _ => me_var 6)) (ma_nil)))) (mps_cons (mp_fld ["Tool"] Fx.at_Tool_rows (me_var 0) (me_bty call_tuple_of b_tup rfl Fx.f_tuple (ma_cons (me_var 4) (ma_nil)))) (mps_one (mp_fld ["Tool"] Fx.at_Tool_blank (me_var 0) (me_ix (me_var 1) (me_int)))))))))))))
/-! ### Tool.read -/
abbrev st_Tool_read : Stmt := inClass (top 25) 1
def N_Tool_read : List Str := ["cls", "text", "lines", "told", "at", "head", "rows", "line", "names", "error"]
theorem nd_Tool_read : N_Tool_read.Nodup := by decide +kernel
theorem sc_Tool_read : FnScope N_Tool_read ["cls", "text"] (defScope st_Tool_read) := ⟨rfl, rfl, rfl, nd_Tool_read, rfl, by decide +kernel, by decide +kernel⟩
def b_Tool_read : MS := s_seq (s_par 2 3 (m_cons (m_sm1 g_split (m_var 1) (m_c (.str "\n"))) (m_cons (m_lstN (m_nil)) (m_nil)))) (s_seq (s_for (.tp [(.nm 4), (.nm 5)]) (i_enum (m_cons (m_c (.tup ((["marks", "shown", "asked"] : List Str).map D.str))) (m_nil))) (s_seq (s_if (m_tb (m_op2 geD (m_var 4) (m_call lenF (m_cons (m_var 2) (m_nil))))) (s_bad) (s_nil)) (s_seq (s_set 8 (m_call (arity 2 (withD [] (callP g_names_in))) (m_cons (m_ix (m_var 2) (m_var 4)) (m_cons (m_var 5) (m_nil))))) (s_seq (s_if (m_tb (m_op2 isD (m_var 8) (m_c .non))) (s_bad) (s_nil)) (s_expr (m_bm isLst g_append (m_var 3) (m_cons (m_var 8) (m_nil)))))))) (s_seq (s_set 6 (m_lstN (m_nil))) (s_seq (s_for (.tp [(.nm 4), (.nm 7)]) (i_enum (m_cons (m_slice (m_var 2) (m_part (m_call lenF (m_cons (m_c (.tup ((["marks", "shown", "asked"] : List Str).map D.str))) (m_nil)))) (m_no)) (m_nil))) (s_ne (s_expr (m_bm isLst g_append (m_var 6) (m_cons (m_cmeth "Row" (arity 2 (withD [] (callP g_Row_read))) (m_c (.gl "Row")) (m_cons (m_var 7) (m_nil))) (m_nil)))))) (s_retP (m_callV 0 "Tool" (arity 4 (withD [] (made "Tool" mkF g_Tool_init))) (m_cons (m_ix (m_var 3) (m_c (.int 0))) (m_cons (m_ix (m_var 3) (m_c (.int 1))) (m_cons (m_ix (m_var 3) (m_c (.int 2))) (m_cons (m_var 6) (m_nil))))))))))
def g_Tool_read : List D → PR := runP 10 b_Tool_read
include Fx in
theorem ok_Tool_read (K_names_in : Kept P HasW.w K mg base 2 (He.ga K "names_in") (spP K 2 g_names_in)) (K_Row_read : Kept P HasW.w K mg base 4 (cmAd "Row" "read" K) (spP K 2 g_Row_read)) (K_Tool_init : Kept P HasW.w K mg base 3 (He.ma K (He.ga K "Tool") "__init__") (spE K 5 g_Tool_init)) (F : FunD K "read" "Tool.read" (defArgs st_Tool_read) (defBody st_Tool_read) (defScope st_Tool_read) dl [] f fd) : FnG P HasW.w K mg base 5 f fd ["cls", "text"] (spP K 2 g_Tool_read) := fnP F sc_Tool_read fun cdv A outer s H E gu room => by
  have h : Here (cxB P HasW.w K mg base N_Tool_read "Tool.read" (defScope st_Tool_read) f cdv A outer s H E) (wxE E) 4 := here_of gu room
  unfold b_Tool_read
  exact mps_cons (mp_par rfl nd_Tool_read (i := 2) (j := 3) rfl rfl (by decide) rfl rfl (ma_cons (me_split (me_var 1) (me_str)) (ma_cons (me_lstN (ma_nil)) (ma_nil)))) (mps_cons (mp_for own_of rfl (mi_enum rfl Fx.f_enumerate (ma_cons (e_gtup rfl Fx.g_HEADS Fx.v_HEADS) (ma_nil))) (mg_tup rfl (mgs_cons (mg_name (i := 4) nd_Tool_read rfl (by first | exact Or.inl rfl | exact Or.inr rfl)) (mgs_cons (mg_name (i := 5) nd_Tool_read rfl (by first | exact Or.inl rfl | exact Or.inr rfl)) (mgs_nil)))) (mps_cons (mp_if (t_cmp h.ge (me_var 4) (me_bin c_len b_len rfl Fx.f_len (ma_cons (me_var 2) (ma_nil)))) (mps_one (mp_bad)) (mps_nil)) (mps_cons (mp_set (i := 8) nd_Tool_read rfl (by first | exact Or.inl rfl | exact Or.inr rfl) (me_call (h.callP K_names_in (by decide)) rfl Fx.g_names_in K_names_in.kp (ma_cons (me_ix (me_var 2) (me_var 4)) (ma_cons (me_var 5) (ma_nil))))) (mps_cons (mp_if (t_cmp h.is_ (me_var 8) (me_non)) (mps_one (mp_bad)) (mps_nil)) (mps_one (mp_expr (me_lm PySem.F.slot_list_append PySem.F.type_list_append mt_append b_append (me_var 3) (ma_cons (me_var 8) (ma_nil))))))))) (mps_cons (mp_set (i := 6) nd_Tool_read rfl (by first | exact Or.inl rfl | exact Or.inr rfl) (me_lstN (ma_nil))) (mps_cons (mp_for own_of rfl (mi_enum rfl Fx.f_enumerate (ma_cons (me_slice (me_var 2) (mo_some (me_bin c_len b_len rfl Fx.f_len (ma_cons (e_gtup rfl Fx.g_HEADS Fx.v_HEADS) (ma_nil)))) (mo_none)) (ma_nil))) (mg_tup rfl (mgs_cons (mg_name (i := 4) nd_Tool_read rfl (by first | exact Or.inl rfl | exact Or.inr rfl)) (mgs_cons (mg_name (i := 7) nd_Tool_read rfl (by first | exact Or.inl rfl | exact Or.inr rfl)) (mgs_nil)))) (mps_one (mp_try (mps_one (mp_expr (me_lm PySem.F.slot_list_append PySem.F.type_list_append mt_append b_append (me_var 6) (ma_cons (me_cm ((h.nox).callP K_Row_read (by decide)) Fx.cm_Row_read (e_gcls rfl Fx.g_Row) (ma_cons (me_var 7) (ma_nil))) (ma_nil)))))))) (mps_one (mp_retP (me_callV 0 (h.make mks_F (n := 4) Fx.M_Tool K_Tool_init (by decide)) Fx.M_Tool.kp (ma_cons (me_ix (me_var 3) (me_int)) (ma_cons (me_ix (me_var 3) (me_int)) (ma_cons (me_ix (me_var 3) (me_int)) (ma_cons (me_var 6) (ma_nil)))))))))))
/-! ### _law_text -/
abbrev st__law_text : Stmt := top 35
def N__law_text : List Str := ["_law_rows", "_law_marks", "_law_shown", "_law_asked"]
theorem nd__law_text : N__law_text.Nodup := by decide +kernel
theorem sc__law_text : FnScope N__law_text ["_law_rows", "_law_marks", "_law_shown", "_law_asked"] (defScope st__law_text) := ⟨rfl, rfl, rfl, nd__law_text, rfl, by decide +kernel, by decide +kernel⟩
def b__law_text : MS := s_retP (m_cmeth "Tool" (arity 2 (withD [] (callP g_Tool_read))) (m_c (.gl "Tool")) (m_cons (m_sm1 g_join (m_c (.str "\n")) (m_op2 addD (m_lst (m_cons (m_op2 addD (m_c (.str "marks ")) (m_var 1)) (m_cons (m_op2 addD (m_c (.str "shown ")) (m_var 2)) (m_cons (m_sm0 g_strip (m_op2 addD (m_c (.str "asked ")) (m_var 3))) (m_nil))))) (m_var 0))) (m_nil)))
def g__law_text : List D → PR := runP 4 b__law_text
include Fx in
theorem ok__law_text (K_Tool_read : Kept P HasW.w K mg base 5 (cmAd "Tool" "read" K) (spP K 2 g_Tool_read)) (F : FunD K "_law_text" "_law_text" (defArgs st__law_text) (defBody st__law_text) (defScope st__law_text) dl [] f fd) : FnG P HasW.w K mg base 6 f fd ["_law_rows", "_law_marks", "_law_shown", "_law_asked"] (spP K 4 g__law_text) := fnP F sc__law_text fun cdv A outer s H E gu room => by
  have h : Here (cxB P HasW.w K mg base N__law_text "_law_text" (defScope st__law_text) f cdv A outer s H E) (wxE E) 5 := here_of gu room
  unfold b__law_text
  exact mps_one (mp_retP (me_cm (h.callP K_Tool_read (by decide)) Fx.cm_Tool_read (e_gcls rfl Fx.g_Tool) (ma_cons (me_join (me_str) (e_op h.add (me_lst (ma_cons (e_op h.add (me_str) (me_var 1)) (ma_cons (e_op h.add (me_str) (me_var 2)) (ma_cons (me_strip (e_op h.add (me_str) (me_var 3))) (ma_nil))))) (me_var 0))) (ma_nil))))
/-! ### told_of -/
abbrev st_told_of : Stmt := top 27
def N_told_of : List Str := ["tool", "mark"]
theorem nd_told_of : N_told_of.Nodup := by decide +kernel
theorem sc_told_of : FnScope N_told_of ["tool", "mark"] (defScope st_told_of) := ⟨rfl, rfl, rfl, nd_told_of, rfl, by decide +kernel, by decide +kernel⟩
def b_told_of : MS := s_retT (m_cons (m_op2 eqD (m_var 1) (m_attr ["Tool"] "blank" (m_var 0))) (m_cons (m_op2 inD (m_var 1) (m_attr ["Tool"] "shown" (m_var 0))) (m_cons (m_op2 inD (m_var 1) (m_attr ["Tool"] "asked" (m_var 0))) (m_nil))))
def g_told_of : List D → PR := runP 2 b_told_of
include Fx in
theorem ok_told_of  (F : FunD K "told_of" "told_of" (defArgs st_told_of) (defBody st_told_of) (defScope st_told_of) dl [] f fd) : FnG P HasW.w K mg base 1 f fd ["tool", "mark"] (spP K 2 g_told_of) := fnP F sc_told_of fun cdv A outer s H E gu room => by
  have h : Here (cxB P HasW.w K mg base N_told_of "told_of" (defScope st_told_of) f cdv A outer s H E) (wxE E) 0 := here_of gu room
  unfold b_told_of
  exact mps_one (mp_retT (ma_cons (e_cmp h.eq (me_var 1) (me_attr ["Tool"] Fx.at_Tool_blank (me_var 0))) (ma_cons (e_cmp h.in_ (me_var 1) (me_attr ["Tool"] Fx.at_Tool_shown (me_var 0))) (ma_cons (e_cmp h.in_ (me_var 1) (me_attr ["Tool"] Fx.at_Tool_asked (me_var 0))) (ma_nil)))))
/-! ### Row.fits -/
abbrev st_Row_fits : Stmt := inClass (top 20) 2
def N_Row_fits : List Str := ["self", "word", "mark"]
theorem nd_Row_fits : N_Row_fits.Nodup := by decide +kernel
theorem sc_Row_fits : FnScope N_Row_fits ["self", "word", "mark"] (defScope st_Row_fits) := ⟨rfl, rfl, rfl, nd_Row_fits, rfl, by decide +kernel, by decide +kernel⟩
def b_Row_fits : MS := s_retP (m_and (m_op2 eqD (m_attr ["Row"] "word" (m_var 0)) (m_var 1)) (m_op2 inD (m_attr ["Row"] "old" (m_var 0)) (m_tup (m_cons (m_c (.str "any")) (m_cons (m_var 2) (m_nil))))))
def g_Row_fits : List D → PR := runP 3 b_Row_fits
include Fx in
theorem ok_Row_fits  (F : FunD K "fits" "Row.fits" (defArgs st_Row_fits) (defBody st_Row_fits) (defScope st_Row_fits) dl [] f fd) : FnG P HasW.w K mg base 1 f fd ["self", "word", "mark"] (spP K 3 g_Row_fits) := fnP F sc_Row_fits fun cdv A outer s H E gu room => by
  have h : Here (cxB P HasW.w K mg base N_Row_fits "Row.fits" (defScope st_Row_fits) f cdv A outer s H E) (wxE E) 0 := here_of gu room
  unfold b_Row_fits
  exact mps_one (mp_retP (me_and (e_cmp h.eq (me_attr ["Row"] Fx.at_Row_word (me_var 0)) (me_var 1)) (me_one (e_cmp h.in_ (me_attr ["Row"] Fx.at_Row_old (me_var 0)) (me_tup (ma_cons (me_str) (ma_cons (me_var 2) (ma_nil))))))))
/-! ### Tool.row_for -/
abbrev st_Tool_row_for : Stmt := inClass (top 25) 3
def N_Tool_row_for : List Str := ["self", "word", "mark", "at", "row"]
theorem nd_Tool_row_for : N_Tool_row_for.Nodup := by decide +kernel
theorem sc_Tool_row_for : FnScope N_Tool_row_for ["self", "word", "mark"] (defScope st_Tool_row_for) := ⟨rfl, rfl, rfl, nd_Tool_row_for, rfl, by decide +kernel, by decide +kernel⟩
def b_Tool_row_for : MS := s_seq (s_if (m_andb (m_tb (m_op2 eqD (m_var 2) (m_attr ["Tool"] "blank" (m_var 0)))) (m_tb (m_op2 neD (m_var 1) (m_c (.str "give"))))) (s_retP (m_c .non)) (s_nil)) (s_seq (s_for (.tp [(.nm 3), (.nm 4)]) (i_enum (m_cons (m_attr ["Tool"] "rows" (m_var 0)) (m_nil))) (s_if (m_truth (m_meth "Row" "fits" (arity 3 (withD [] (callP g_Row_fits))) (m_var 4) (m_cons (m_var 1) (m_cons (m_var 2) (m_nil))))) (s_retP (m_var 3)) (s_nil))) (s_retP (m_c .non)))
def g_Tool_row_for : List D → PR := runP 5 b_Tool_row_for
include Fx in
theorem ok_Tool_row_for (K_Row_fits : Kept P HasW.w K mg base 1 (He.ma K (He.ga K "Row") "fits") (spP K 3 g_Row_fits)) (F : FunD K "row_for" "Tool.row_for" (defArgs st_Tool_row_for) (defBody st_Tool_row_for) (defScope st_Tool_row_for) dl [] f fd) : FnG P HasW.w K mg base 2 f fd ["self", "word", "mark"] (spP K 3 g_Tool_row_for) := fnP F sc_Tool_row_for fun cdv A outer s H E gu room => by
  have h : Here (cxB P HasW.w K mg base N_Tool_row_for "Tool.row_for" (defScope st_Tool_row_for) f cdv A outer s H E) (wxE E) 1 := here_of gu room
  unfold b_Tool_row_for
  exact mps_cons (mp_if (mt_w (mw_and (t_cmp h.eq (me_var 2) (me_attr ["Tool"] Fx.at_Tool_blank (me_var 0))) (mw_and1 (t_cmp h.ne (me_var 1) (me_str))))) (mps_one (mp_retP (me_non))) (mps_nil)) (mps_cons (mp_for own_of rfl (mi_enum rfl Fx.f_enumerate (ma_cons (me_attr ["Tool"] Fx.at_Tool_rows (me_var 0)) (ma_nil))) (mg_tup rfl (mgs_cons (mg_name (i := 3) nd_Tool_row_for rfl (by first | exact Or.inl rfl | exact Or.inr rfl)) (mgs_cons (mg_name (i := 4) nd_Tool_row_for rfl (by first | exact Or.inl rfl | exact Or.inr rfl)) (mgs_nil)))) (mps_one (mp_if (mt_truth (me_meth (h.callP K_Row_fits (by decide)) Fx.c_Row Fx.m_Row_fits (me_var 4) (ma_cons (me_var 1) (ma_cons (me_var 2) (ma_nil))))) (mps_one (mp_retP (me_var 3))) (mps_nil)))) (mps_one (mp_retP (me_non))))
/-! ### Tool.becomes -/
abbrev st_Tool_becomes : Stmt := inClass (top 25) 4
def N_Tool_becomes : List Str := ["self", "word", "mark", "at", "row", "then"]
theorem nd_Tool_becomes : N_Tool_becomes.Nodup := by decide +kernel
theorem sc_Tool_becomes : FnScope N_Tool_becomes ["self", "word", "mark"] (defScope st_Tool_becomes) := ⟨rfl, rfl, rfl, nd_Tool_becomes, rfl, by decide +kernel, by decide +kernel⟩
def b_Tool_becomes : MS := s_seq (s_if (m_orb (m_notb (m_truth (m_isi (tabOf "str") [("Row", false), ("Tool", false)] (m_var 2)))) (m_tb (m_op2 ninD (m_var 2) (m_attr ["Tool"] "marks" (m_var 0))))) (s_bad) (s_nil)) (s_seq (s_set 3 (m_meth "Tool" "row_for" (arity 3 (withD [] (callP g_Tool_row_for))) (m_var 0) (m_cons (m_var 1) (m_cons (m_var 2) (m_nil))))) (s_seq (s_if (m_tb (m_op2 isD (m_var 3) (m_c .non))) (s_retT (m_cons (m_if (m_tb (m_op2 eqD (m_var 1) (m_c (.str "carry")))) (m_attr ["Tool"] "blank" (m_var 0)) (m_var 2)) (m_cons (m_c (.bl false)) (m_nil)))) (s_nil)) (s_seq (s_set 4 (m_ix (m_attr ["Tool"] "rows" (m_var 0)) (m_var 3))) (s_seq (s_if (m_andb (m_tb (m_op2 eqD (m_var 2) (m_attr ["Tool"] "blank" (m_var 0)))) (m_notb (m_truth (m_attr ["Row"] "take" (m_var 4))))) (s_retT (m_cons (m_var 2) (m_cons (m_c (.bl false)) (m_nil)))) (s_nil)) (s_seq (s_set 5 (m_if (m_tb (m_op2 eqD (m_attr ["Row"] "then" (m_var 4)) (m_c (.str "same")))) (m_var 2) (m_attr ["Row"] "then" (m_var 4)))) (s_retT (m_cons (m_var 5) (m_cons (m_and (m_op2 eqD (m_var 1) (m_c (.str "give"))) (m_and (m_attr ["Row"] "take" (m_var 4)) (m_op2 neD (m_var 5) (m_attr ["Tool"] "blank" (m_var 0))))) (m_nil)))))))))
def g_Tool_becomes : List D → PR := runP 6 b_Tool_becomes
include Fx in
theorem ok_Tool_becomes (K_Tool_row_for : Kept P HasW.w K mg base 2 (He.ma K (He.ga K "Tool") "row_for") (spP K 3 g_Tool_row_for)) (F : FunD K "becomes" "Tool.becomes" (defArgs st_Tool_becomes) (defBody st_Tool_becomes) (defScope st_Tool_becomes) dl [] f fd) : FnG P HasW.w K mg base 3 f fd ["self", "word", "mark"] (spP K 3 g_Tool_becomes) := fnP F sc_Tool_becomes fun cdv A outer s H E gu room => by
  have h : Here (cxB P HasW.w K mg base N_Tool_becomes "Tool.becomes" (defScope st_Tool_becomes) f cdv A outer s H E) (wxE E) 2 := here_of gu room
  unfold b_Tool_becomes
  exact mps_cons (mp_if (mt_w (mw_or (mt_not (mt_truth (me_isi rfl Fx.f_isinstance (me_var 2) (p_ty rfl Fx.f_str) Fx.is_str (.ty _)))) (mw_or1 (t_cmp h.nin (me_var 2) (me_attr ["Tool"] Fx.at_Tool_marks (me_var 0)))))) (mps_one (mp_bad)) (mps_nil)) (mps_cons (mp_set (i := 3) nd_Tool_becomes rfl (by first | exact Or.inl rfl | exact Or.inr rfl) (me_meth (h.callP K_Tool_row_for (by decide)) Fx.c_Tool Fx.m_Tool_row_for (me_var 0) (ma_cons (me_var 1) (ma_cons (me_var 2) (ma_nil))))) (mps_cons (mp_if (t_cmp h.is_ (me_var 3) (me_non)) (mps_one (mp_retT (ma_cons (me_if (t_cmp h.eq (me_var 1) (me_str)) (me_attr ["Tool"] Fx.at_Tool_blank (me_var 0)) (me_var 2)) (ma_cons (me_bl) (ma_nil))))) (mps_nil)) (mps_cons (mp_set (i := 4) nd_Tool_becomes rfl (by first | exact Or.inl rfl | exact Or.inr rfl) (me_ix (me_attr ["Tool"] Fx.at_Tool_rows (me_var 0)) (me_var 3))) (mps_cons (mp_if (mt_w (mw_and (t_cmp h.eq (me_var 2) (me_attr ["Tool"] Fx.at_Tool_blank (me_var 0))) (mw_and1 (mt_not (mt_truth (me_attr ["Row"] Fx.at_Row_take (me_var 4))))))) (mps_one (mp_retT (ma_cons (me_var 2) (ma_cons (me_bl) (ma_nil))))) (mps_nil)) (mps_cons (mp_set (i := 5) nd_Tool_becomes rfl (by first | exact Or.inl rfl | exact Or.inr rfl) (me_if (t_cmp h.eq (me_attr ["Row"] Fx.at_Row_then (me_var 4)) (me_str)) (me_var 2) (me_attr ["Row"] Fx.at_Row_then (me_var 4)))) (mps_one (mp_retT (ma_cons (me_var 5) (ma_cons (me_and (e_cmp h.eq (me_var 1) (me_str)) (me_and (me_attr ["Row"] Fx.at_Row_take (me_var 4)) (me_one (e_cmp h.ne (me_var 5) (me_attr ["Tool"] Fx.at_Tool_blank (me_var 0)))))) (ma_nil))))))))))
/-! ### parting -/
abbrev st_parting : Stmt := top 28
def N_parting : List Str := ["p", "q", "begin", "ways", "waiting", "at", "one", "other", "word", "here", "there", "way", "pair"]
theorem nd_parting : N_parting.Nodup := by decide +kernel
theorem sc_parting : FnScope N_parting ["p", "q"] (defScope st_parting) := ⟨rfl, rfl, rfl, nd_parting, rfl, by decide +kernel, by decide +kernel⟩
def b_parting : MS := s_seq (s_set 2 (m_tup (m_cons (m_attr ["Tool"] "blank" (m_var 0)) (m_cons (m_attr ["Tool"] "blank" (m_var 1)) (m_nil))))) (s_seq (s_if (m_tb (m_op2 neD (m_call (arity 2 (withD [] (callP g_told_of))) (m_cons (m_var 0) (m_cons (m_attr ["Tool"] "blank" (m_var 0)) (m_nil)))) (m_call (arity 2 (withD [] (callP g_told_of))) (m_cons (m_var 1) (m_cons (m_attr ["Tool"] "blank" (m_var 1)) (m_nil)))))) (s_retT (m_nil)) (s_nil)) (s_seq (s_par3 3 4 5 (m_cons (m_toneN (m_var 2) (m_tup (m_nil))) (m_cons (m_lstN (m_cons (m_var 2) (m_nil))) (m_cons (m_c (.int 0)) (m_nil))))) (s_seq (s_while (m_tb (m_op2 ltD (m_var 5) (m_call lenF (m_cons (m_var 4) (m_nil))))) (s_seq (s_asg (.tp [(.nm 6), (.nm 7)]) (m_ix (m_var 4) (m_var 5))) (s_seq (s_aug 5 addI (m_c (.int 1))) (s_for (.nm 8) (i_val (m_c (.tup ((["give", "carry", "drop", "back", "right", "wrong"] : List Str).map D.str)))) (s_seq (s_par 9 10 (m_cons (m_meth "Tool" "becomes" (arity 3 (withD [] (callP g_Tool_becomes))) (m_var 0) (m_cons (m_var 8) (m_cons (m_var 6) (m_nil)))) (m_cons (m_meth "Tool" "becomes" (arity 3 (withD [] (callP g_Tool_becomes))) (m_var 1) (m_cons (m_var 8) (m_cons (m_var 7) (m_nil)))) (m_nil)))) (s_seq (s_set 11 (m_tup (m_star (m_tget (m_var 3) (m_tup (m_cons (m_var 6) (m_cons (m_var 7) (m_nil))))) (m_cons (m_var 8) (m_nil))))) (s_seq (s_if (m_orb (m_tb (m_op2 neD (m_ix (m_var 9) (m_c (.int 1))) (m_ix (m_var 10) (m_c (.int 1))))) (m_tb (m_op2 neD (m_call (arity 2 (withD [] (callP g_told_of))) (m_cons (m_var 0) (m_cons (m_ix (m_var 9) (m_c (.int 0))) (m_nil)))) (m_call (arity 2 (withD [] (callP g_told_of))) (m_cons (m_var 1) (m_cons (m_ix (m_var 10) (m_c (.int 0))) (m_nil))))))) (s_retP (m_var 11)) (s_nil)) (s_seq (s_set 12 (m_tup (m_cons (m_ix (m_var 9) (m_c (.int 0))) (m_cons (m_ix (m_var 10) (m_c (.int 0))) (m_nil))))) (s_if (m_tb (m_tin true (m_var 12) (m_var 3))) (s_seq (s_tput (m_var 3) (m_var 12) (m_var 11)) (s_expr (m_bm isLst g_append (m_var 4) (m_cons (m_var 12) (m_nil))))) (s_nil)))))))))) (s_retP (m_c .non)))))
def g_parting : List D → PR := runP 13 b_parting
include Fx in
theorem ok_parting (K_told_of : Kept P HasW.w K mg base 1 (He.ga K "told_of") (spP K 2 g_told_of)) (K_Tool_becomes : Kept P HasW.w K mg base 3 (He.ma K (He.ga K "Tool") "becomes") (spP K 3 g_Tool_becomes)) (F : FunD K "parting" "parting" (defArgs st_parting) (defBody st_parting) (defScope st_parting) dl [] f fd) : FnG P HasW.w K mg base 4 f fd ["p", "q"] (spP K 2 g_parting) := fnP F sc_parting fun cdv A outer s H E gu room => by
  have h : Here (cxB P HasW.w K mg base N_parting "parting" (defScope st_parting) f cdv A outer s H E) (wxE E) 3 := here_of gu room
  unfold b_parting
  exact mps_cons (mp_set (i := 2) nd_parting rfl (by first | exact Or.inl rfl | exact Or.inr rfl) (me_tup (ma_cons (me_attr ["Tool"] Fx.at_Tool_blank (me_var 0)) (ma_cons (me_attr ["Tool"] Fx.at_Tool_blank (me_var 1)) (ma_nil))))) (mps_cons (mp_if (t_cmp h.ne (me_call (h.callP K_told_of (by decide)) rfl Fx.g_told_of K_told_of.kp (ma_cons (me_var 0) (ma_cons (me_attr ["Tool"] Fx.at_Tool_blank (me_var 0)) (ma_nil)))) (me_call (h.callP K_told_of (by decide)) rfl Fx.g_told_of K_told_of.kp (ma_cons (me_var 1) (ma_cons (me_attr ["Tool"] Fx.at_Tool_blank (me_var 1)) (ma_nil))))) (mps_one (mp_retT (ma_nil))) (mps_nil)) (mps_cons (mp_par3 rfl nd_parting (i := 3) (j := 4) (l := 5) rfl rfl rfl (by decide) (by decide) (by decide) rfl rfl rfl (ma_cons (me_toneN rfl h.u1 (me_var 2) (me_tup (ma_nil))) (ma_cons (me_lstN (ma_cons (me_var 2) (ma_nil))) (ma_cons (me_int) (ma_nil))))) (mps_cons (mp_while own_of (t_cmp h.lt (me_var 5) (me_bin c_len b_len rfl Fx.f_len (ma_cons (me_var 4) (ma_nil)))) (mps_cons (mp_asg (me_ix (me_var 4) (me_var 5)) (mg_tup rfl (mgs_cons (mg_name (i := 6) nd_parting rfl (by first | exact Or.inl rfl | exact Or.inr rfl)) (mgs_cons (mg_name (i := 7) nd_parting rfl (by first | exact Or.inl rfl | exact Or.inr rfl)) (mgs_nil))))) (mps_cons (mp_aug (i := 5) nd_parting rfl (by first | exact Or.inl rfl | exact Or.inr rfl) (me_int) ip_add o_addI) (mps_one (mp_for own_of rfl (mi_val (e_gtup rfl Fx.g_HAPPENINGS Fx.v_HAPPENINGS)) (mg_name (i := 8) nd_parting rfl (by first | exact Or.inl rfl | exact Or.inr rfl)) (mps_cons (mp_par rfl nd_parting (i := 9) (j := 10) rfl rfl (by decide) rfl rfl (ma_cons (me_meth (h.callP K_Tool_becomes (by decide)) Fx.c_Tool Fx.m_Tool_becomes (me_var 0) (ma_cons (me_var 8) (ma_cons (me_var 6) (ma_nil)))) (ma_cons (me_meth (h.callP K_Tool_becomes (by decide)) Fx.c_Tool Fx.m_Tool_becomes (me_var 1) (ma_cons (me_var 8) (ma_cons (me_var 7) (ma_nil)))) (ma_nil)))) (mps_cons (mp_set (i := 11) nd_parting rfl (by first | exact Or.inl rfl | exact Or.inr rfl) (me_tup (ma_star (me_tget rfl h.u1 (me_var 3) (me_tup (ma_cons (me_var 6) (ma_cons (me_var 7) (ma_nil))))) (ma_cons (me_var 8) (ma_nil))))) (mps_cons (mp_if (mt_w (mw_or (t_cmp h.ne (me_ix (me_var 9) (me_int)) (me_ix (me_var 10) (me_int))) (mw_or1 (t_cmp h.ne (me_call (h.callP K_told_of (by decide)) rfl Fx.g_told_of K_told_of.kp (ma_cons (me_var 0) (ma_cons (me_ix (me_var 9) (me_int)) (ma_nil)))) (me_call (h.callP K_told_of (by decide)) rfl Fx.g_told_of K_told_of.kp (ma_cons (me_var 1) (ma_cons (me_ix (me_var 10) (me_int)) (ma_nil)))))))) (mps_one (mp_retP (me_var 11))) (mps_nil)) (mps_cons (mp_set (i := 12) nd_parting rfl (by first | exact Or.inl rfl | exact Or.inr rfl) (me_tup (ma_cons (me_ix (me_var 9) (me_int)) (ma_cons (me_ix (me_var 10) (me_int)) (ma_nil))))) (mps_one (mp_if (mt_tnin rfl h.u1 (me_var 12) (me_var 3)) (mps_cons (mp_tput rfl h.u1 (me_var 3) (me_var 12) (me_var 11)) (mps_one (mp_expr (me_lm PySem.F.slot_list_append PySem.F.type_list_append mt_append b_append (me_var 4) (ma_cons (me_var 12) (ma_nil)))))) (mps_nil)))))))))))) (mps_one (mp_retP (me_non))))))
/-! ### alike -/
abbrev st_alike : Stmt := top 29
def N_alike : List Str := ["p", "q"]
theorem nd_alike : N_alike.Nodup := by decide +kernel
theorem sc_alike : FnScope N_alike ["p", "q"] (defScope st_alike) := ⟨rfl, rfl, rfl, nd_alike, rfl, by decide +kernel, by decide +kernel⟩
def b_alike : MS := s_retP (m_op2 isD (m_call (arity 2 (withD [] (callP g_parting))) (m_cons (m_var 0) (m_cons (m_var 1) (m_nil)))) (m_c .non))
def g_alike : List D → PR := runP 2 b_alike
include Fx in
theorem ok_alike (K_parting : Kept P HasW.w K mg base 4 (He.ga K "parting") (spP K 2 g_parting)) (F : FunD K "alike" "alike" (defArgs st_alike) (defBody st_alike) (defScope st_alike) dl [] f fd) : FnG P HasW.w K mg base 5 f fd ["p", "q"] (spP K 2 g_alike) := fnP F sc_alike fun cdv A outer s H E gu room => by
  have h : Here (cxB P HasW.w K mg base N_alike "alike" (defScope st_alike) f cdv A outer s H E) (wxE E) 4 := here_of gu room
  unfold b_alike
  exact mps_one (mp_retP (e_cmp h.is_ (me_call (h.callP K_parting (by decide)) rfl Fx.g_parting K_parting.kp (ma_cons (me_var 0) (ma_cons (me_var 1) (ma_nil)))) (me_non)))
/-! ### _law_size -/
abbrev st__law_size : Stmt := top 36
def N__law_size : List Str := ["_law_p", "_law_q", "_law_one", "_law_other"]
theorem nd__law_size : N__law_size.Nodup := by decide +kernel
theorem sc__law_size : FnScope N__law_size ["_law_p", "_law_q"] (defScope st__law_size) := ⟨rfl, rfl, rfl, nd__law_size, rfl, by decide +kernel, by decide +kernel⟩
def b__law_size : MS := s_seq (s_par 2 3 (m_cons (m_call (arity 2 (withD [] (callP g_parting))) (m_cons (m_var 0) (m_cons (m_var 1) (m_nil)))) (m_cons (m_call (arity 2 (withD [] (callP g_parting))) (m_cons (m_var 1) (m_cons (m_var 0) (m_nil)))) (m_nil)))) (s_seq (s_if (m_orb (m_tb (m_op2 neD (m_op2 isD (m_var 2) (m_c .non)) (m_op2 isD (m_var 3) (m_c .non)))) (m_tb (m_op2 neD (m_call (arity 2 (withD [] (callP g_alike))) (m_cons (m_var 0) (m_cons (m_var 1) (m_nil)))) (m_op2 isD (m_var 2) (m_c .non))))) (s_retP (m_c (.int 99))) (s_nil)) (s_retP (m_if (m_tb (m_op2 isD (m_var 2) (m_c .non))) (m_op2 subD (m_c (.int 0)) (m_c (.int 1))) (m_if (m_tb (m_op2 eqD (m_call lenF (m_cons (m_var 2) (m_nil))) (m_call lenF (m_cons (m_var 3) (m_nil))))) (m_call lenF (m_cons (m_var 2) (m_nil))) (m_c (.int 99))))))
def g__law_size : List D → PR := runP 4 b__law_size
include Fx in
theorem ok__law_size (K_parting : Kept P HasW.w K mg base 4 (He.ga K "parting") (spP K 2 g_parting)) (K_alike : Kept P HasW.w K mg base 5 (He.ga K "alike") (spP K 2 g_alike)) (F : FunD K "_law_size" "_law_size" (defArgs st__law_size) (defBody st__law_size) (defScope st__law_size) dl [] f fd) : FnG P HasW.w K mg base 6 f fd ["_law_p", "_law_q"] (spP K 2 g__law_size) := fnP F sc__law_size fun cdv A outer s H E gu room => by
  have h : Here (cxB P HasW.w K mg base N__law_size "_law_size" (defScope st__law_size) f cdv A outer s H E) (wxE E) 5 := here_of gu room
  unfold b__law_size
  exact mps_cons (mp_par rfl nd__law_size (i := 2) (j := 3) rfl rfl (by decide) rfl rfl (ma_cons (me_call (h.callP K_parting (by decide)) rfl Fx.g_parting K_parting.kp (ma_cons (me_var 0) (ma_cons (me_var 1) (ma_nil)))) (ma_cons (me_call (h.callP K_parting (by decide)) rfl Fx.g_parting K_parting.kp (ma_cons (me_var 1) (ma_cons (me_var 0) (ma_nil)))) (ma_nil)))) (mps_cons (mp_if (mt_w (mw_or (t_cmp h.ne (e_cmp h.is_ (me_var 2) (me_non)) (e_cmp h.is_ (me_var 3) (me_non))) (mw_or1 (t_cmp h.ne (me_call (h.callP K_alike (by decide)) rfl Fx.g_alike K_alike.kp (ma_cons (me_var 0) (ma_cons (me_var 1) (ma_nil)))) (e_cmp h.is_ (me_var 2) (me_non)))))) (mps_one (mp_retP (me_int))) (mps_nil)) (mps_one (mp_retP (me_if (t_cmp h.is_ (me_var 2) (me_non)) (e_op h.sub (me_int) (me_int)) (me_if (t_cmp h.eq (me_bin c_len b_len rfl Fx.f_len (ma_cons (me_var 2) (ma_nil))) (me_bin c_len b_len rfl Fx.f_len (ma_cons (me_var 3) (ma_nil)))) (me_bin c_len b_len rfl Fx.f_len (ma_cons (me_var 2) (ma_nil))) (me_int))))))
/-! ### Row.__str__ -/
abbrev st_Row_str : Stmt := inClass (top 20) 5
def N_Row_str : List Str := ["self", "words"]
theorem nd_Row_str : N_Row_str.Nodup := by decide +kernel
theorem sc_Row_str : FnScope N_Row_str ["self"] (defScope st_Row_str) := ⟨rfl, rfl, rfl, nd_Row_str, rfl, by decide +kernel, by decide +kernel⟩
def b_Row_str : MS := s_seq (s_set 1 (m_lstN (m_cons (m_attr ["Row"] "word" (m_var 0)) (m_cons (m_attr ["Row"] "old" (m_var 0)) (m_nil))))) (s_seq (s_if (m_tb (m_op2 eqD (m_attr ["Row"] "word" (m_var 0)) (m_c (.str "give")))) (s_expr (m_bm isLst g_append (m_var 1) (m_cons (m_ix (m_c (.tup ((["keep", "take"] : List Str).map D.str))) (m_call intF (m_cons (m_attr ["Row"] "take" (m_var 0)) (m_nil)))) (m_nil)))) (s_nil)) (s_retP (m_sm1 g_join (m_c (.str " ")) (m_lst (m_star (m_var 1) (m_cons (m_c (.str "to")) (m_cons (m_attr ["Row"] "then" (m_var 0)) (m_nil))))))))
def g_Row_str : List D → PR := runP 2 b_Row_str
include Fx in
theorem ok_Row_str  (F : FunD K "__str__" "Row.__str__" (defArgs st_Row_str) (defBody st_Row_str) (defScope st_Row_str) dl [] f fd) : FnG P HasW.w K mg base 1 f fd ["self"] (spP K 1 g_Row_str) := fnP F sc_Row_str fun cdv A outer s H E gu room => by
  have h : Here (cxB P HasW.w K mg base N_Row_str "Row.__str__" (defScope st_Row_str) f cdv A outer s H E) (wxE E) 0 := here_of gu room
  unfold b_Row_str
  exact mps_cons (mp_set (i := 1) nd_Row_str rfl (by first | exact Or.inl rfl | exact Or.inr rfl) (me_lstN (ma_cons (me_attr ["Row"] Fx.at_Row_word (me_var 0)) (ma_cons (me_attr ["Row"] Fx.at_Row_old (me_var 0)) (ma_nil))))) (mps_cons (mp_if (t_cmp h.eq (me_attr ["Row"] Fx.at_Row_word (me_var 0)) (me_str)) (mps_one (mp_expr (me_lm PySem.F.slot_list_append PySem.F.type_list_append mt_append b_append (me_var 1) (ma_cons (me_ix (e_gtup rfl Fx.g_TAKINGS Fx.v_TAKINGS) (me_bty call_int1 b_int rfl Fx.f_int (ma_cons (me_attr ["Row"] Fx.at_Row_take (me_var 0)) (ma_nil)))) (ma_nil))))) (mps_nil)) (mps_one (mp_retP (me_join (me_str) (me_lst (ma_star (me_var 1) (ma_cons (me_str) (ma_cons (me_attr ["Row"] Fx.at_Row_then (me_var 0)) (ma_nil)))))))))
/-! ### Tool.__str__ -/
abbrev st_Tool_str : Stmt := inClass (top 25) 10
def N_Tool_str : List Str := ["self", "lists", "heads", "head", "names", "row"]
theorem nd_Tool_str : N_Tool_str.Nodup := by decide +kernel
theorem sc_Tool_str : FnScope N_Tool_str ["self"] (defScope st_Tool_str) := ⟨rfl, rfl, rfl, nd_Tool_str, rfl, by decide +kernel, by decide +kernel⟩
def b_Tool_str : MS := s_seq (s_set 1 (m_lst (m_cons (m_attr ["Tool"] "marks" (m_var 0)) (m_cons (m_attr ["Tool"] "shown" (m_var 0)) (m_cons (m_attr ["Tool"] "asked" (m_var 0)) (m_nil)))))) (s_seq (s_set 2 (m_lc (.tp [(.nm 3), (.nm 4)]) (i_zip (m_cons (m_c (.tup ((["marks", "shown", "asked"] : List Str).map D.str))) (m_cons (m_var 1) (m_nil)))) (b_true) (m_sm1 g_join (m_c (.str " ")) (m_lst (m_cons (m_var 3) (m_star (m_var 4) (m_nil))))) [3, 4])) (s_retP (m_sm1 g_join (m_c (.str "\n")) (m_lst (m_star (m_var 2) (m_star (m_lc (.nm 5) (i_val (m_attr ["Tool"] "rows" (m_var 0))) (b_true) (m_call (g_strO "Row" g_Row_str) (m_cons (m_var 5) (m_nil))) [5]) (m_nil)))))))
def g_Tool_str : List D → PR := runP 6 b_Tool_str
include Fx in
theorem ok_Tool_str (K_Row_str : Kept P HasW.w K mg base 1 (He.ma K (He.ga K "Row") "__str__") (spP K 1 g_Row_str)) (F : FunD K "__str__" "Tool.__str__" (defArgs st_Tool_str) (defBody st_Tool_str) (defScope st_Tool_str) dl [] f fd) : FnG P HasW.w K mg base 4 f fd ["self"] (spP K 1 g_Tool_str) := fnP F sc_Tool_str fun cdv A outer s H E gu room => by
  have h : Here (cxB P HasW.w K mg base N_Tool_str "Tool.__str__" (defScope st_Tool_str) f cdv A outer s H E) (wxE E) 3 := here_of gu room
  unfold b_Tool_str
  exact mps_cons (mp_set (i := 1) nd_Tool_str rfl (by first | exact Or.inl rfl | exact Or.inr rfl) (me_lst (ma_cons (me_attr ["Tool"] Fx.at_Tool_marks (me_var 0)) (ma_cons (me_attr ["Tool"] Fx.at_Tool_shown (me_var 0)) (ma_cons (me_attr ["Tool"] Fx.at_Tool_asked (me_var 0)) (ma_nil)))))) (mps_cons (mp_setLc (i := 2) (own := [("head", 3), ("names", 4)]) (t := (.tp [(.nm 3), (.nm 4)])) rfl nd_Tool_str rfl rfl rfl (mi_zip rfl Fx.f_zip (ma_cons (e_gtup rfl Fx.g_HEADS Fx.v_HEADS) (ma_cons (me_var 1) (ma_nil)))) (blkOk_by (N := N_Tool_str) (sc := defScope st_Tool_str) (by decide +kernel)) (by decide) (fun _ _ _ _ _ => mg_tup rfl (mgs_cons (mg_name (i := 3) nd_Tool_str rfl (by first | exact Or.inl rfl | exact Or.inr rfl)) (mgs_cons (mg_name (i := 4) nd_Tool_str rfl (by first | exact Or.inl rfl | exact Or.inr rfl)) (mgs_nil)))) (fun _ _ _ _ _ => mts_nil) (fun _ _ _ _ _ => me_join (me_str) (me_lst (ma_cons (me_var 3) (ma_star (me_var 4) (ma_nil)))))) (mps_one (mp_retP (me_join (me_str) (me_lst (ma_star (me_var 2) (ma_star (me_lc (own := [("row", 5)]) (t := (.nm 5)) rfl nd_Tool_str (mi_val (me_attr ["Tool"] Fx.at_Tool_rows (me_var 0))) (blkOk_by (N := N_Tool_str) (sc := defScope st_Tool_str) (by decide +kernel)) (by decide) (fun _ _ _ _ _ => mg_name (i := 5) nd_Tool_str rfl (by first | exact Or.inl rfl | exact Or.inr rfl)) (fun _ _ _ _ _ => mts_nil) (fun _ _ _ _ _ => (K_Row_str.strO Fx.str_Row (h.blk _ _ _ _ _) (by decide) rfl Fx.f_str (ma_cons (me_var 5) (ma_nil))))) (ma_nil))))))))
/-! ### Tool.__eq__ -/
abbrev st_Tool_eq : Stmt := inClass (top 25) 9
def N_Tool_eq : List Str := ["self", "other"]
theorem nd_Tool_eq : N_Tool_eq.Nodup := by decide +kernel
theorem sc_Tool_eq : FnScope N_Tool_eq ["self", "other"] (defScope st_Tool_eq) := ⟨rfl, rfl, rfl, nd_Tool_eq, rfl, by decide +kernel, by decide +kernel⟩
def b_Tool_eq : MS := s_retP (m_and (m_isi tabNone [("Row", false), ("Tool", true)] (m_var 1)) (m_op2 eqD (m_call (g_strO "Tool" g_Tool_str) (m_cons (m_var 0) (m_nil))) (m_call (g_strO "Tool" g_Tool_str) (m_cons (m_var 1) (m_nil)))))
def g_Tool_eq : List D → PR := runP 2 b_Tool_eq
include Fx in
theorem ok_Tool_eq (K_Tool_str : Kept P HasW.w K mg base 4 (He.ma K (He.ga K "Tool") "__str__") (spP K 1 g_Tool_str)) (F : FunD K "__eq__" "Tool.__eq__" (defArgs st_Tool_eq) (defBody st_Tool_eq) (defScope st_Tool_eq) dl [] f fd) : FnG P HasW.w K mg base 7 f fd ["self", "other"] (spP K 2 g_Tool_eq) := fnP F sc_Tool_eq fun cdv A outer s H E gu room => by
  have h : Here (cxB P HasW.w K mg base N_Tool_eq "Tool.__eq__" (defScope st_Tool_eq) f cdv A outer s H E) (wxE E) 6 := here_of gu room
  unfold b_Tool_eq
  exact mps_one (mp_retP (me_and (me_isi rfl Fx.f_isinstance (me_var 1) (p_own rfl Fx.g_Tool) Fx.is_Tool (.own _)) (me_one (e_cmp h.eq ((K_Tool_str.strO Fx.str_Tool h (by decide) rfl Fx.f_str (ma_cons (me_var 0) (ma_nil)))) ((K_Tool_str.strO Fx.str_Tool h (by decide) rfl Fx.f_str (ma_cons (me_var 1) (ma_nil))))))))
/-! ### numbered -/
abbrev st_numbered : Stmt := top 31
def N_numbered : List Str := ["texts", "short", "text", "mark"]
theorem nd_numbered : N_numbered.Nodup := by decide +kernel
theorem sc_numbered : FnScope N_numbered ["texts"] (defScope st_numbered) := ⟨rfl, rfl, rfl, nd_numbered, rfl, by decide +kernel, by decide +kernel⟩
def b_numbered : MS := s_seq (s_set 1 (m_dnewN)) (s_seq (s_for (.nm 2) (i_vals (m_var 0)) (s_dput (m_var 1) (m_var 2) (m_dget2 (m_var 1) (m_var 2) (m_fmt (m_call lenF (m_cons (m_var 1) (m_nil))))))) (s_ret (m_dc (.tp [(.nm 3), (.nm 2)]) (i_items (m_var 0)) (b_true) (m_var 3) (m_dget (m_var 1) (m_var 2)) [3, 2])))
def g_numbered : List X → Sto → R X := runE 4 b_numbered
include Fx in
theorem ok_numbered  (F : FunD K "numbered" "numbered" (defArgs st_numbered) (defBody st_numbered) (defScope st_numbered) dl [] f fd) : FnG P HasW.w K mg base 1 f fd ["texts"] (spE K 1 g_numbered) := fnE F sc_numbered fun cdv A outer s H E gu room => by
  have h : Here (cxB P HasW.w K mg base N_numbered "numbered" (defScope st_numbered) f cdv A outer s H E) (wxE E) 0 := here_of gu room
  unfold b_numbered
  exact mps_cons (mp_set (i := 1) nd_numbered rfl (by first | exact Or.inl rfl | exact Or.inr rfl) (me_dnewN)) (mps_cons (mp_for own_of rfl (mi_vals (me_var 0)) (mg_name (i := 2) nd_numbered rfl (by first | exact Or.inl rfl | exact Or.inr rfl)) (mps_one (mp_dput h.u1 (me_var 1) (me_var 2) (me_dget2 h.u1 (me_var 1) (me_var 2) (me_js1 (me_fmt (me_bin c_len b_len rfl Fx.f_len (ma_cons (me_var 1) (ma_nil))))))))) (mps_one (mp_ret (me_dc (own := [("mark", 3), ("text", 2)]) (t := (.tp [(.nm 3), (.nm 2)])) rfl nd_numbered (mi_items (me_var 0)) (blkOk_by (N := N_numbered) (sc := defScope st_numbered) (by decide +kernel)) (by decide) (fun _ _ _ _ _ => mg_tup rfl (mgs_cons (mg_name (i := 3) nd_numbered rfl (by first | exact Or.inl rfl | exact Or.inr rfl)) (mgs_cons (mg_name (i := 2) nd_numbered rfl (by first | exact Or.inl rfl | exact Or.inr rfl)) (mgs_nil)))) (fun _ _ _ _ _ => mts_nil) (fun _ _ _ _ _ => me_var 3) (fun _ _ _ _ _ => me_dget (h.blk _ _ _ _ _).u1 (me_var 1) (me_var 2))))))
/-! ### heads_of -/
abbrev st_heads_of : Stmt := top 30
def N_heads_of : List Str := ["tool", "known", "turn", "firsts", "mark", "later", "words", "word", "then", "took"]
theorem nd_heads_of : N_heads_of.Nodup := by decide +kernel
theorem sc_heads_of : FnScope N_heads_of ["tool"] (defScope st_heads_of) := ⟨rfl, rfl, rfl, nd_heads_of, rfl, by decide +kernel, by decide +kernel⟩
def b_heads_of : MS := s_seq (s_set 1 (m_dc (.nm 4) (i_val (m_attr ["Tool"] "marks" (m_var 0))) (b_true) (m_var 4) (m_call g_reprV (m_cons (m_call (arity 2 (withD [] (callP g_told_of))) (m_cons (m_var 0) (m_cons (m_var 4) (m_nil)))) (m_nil))) [4])) (s_seq (s_for (.nm 2) (i_rng1 (m_cons (m_call lenF (m_cons (m_attr ["Tool"] "marks" (m_var 0)) (m_nil))) (m_nil))) (s_seq (s_set 5 (m_dnewN)) (s_seq (s_for (.nm 4) (i_val (m_attr ["Tool"] "marks" (m_var 0))) (s_seq (s_set 6 (m_lstN (m_cons (m_dget (m_var 1) (m_var 4)) (m_nil)))) (s_seq (s_for (.nm 7) (i_val (m_c (.tup ((["give", "carry", "drop", "back", "right", "wrong"] : List Str).map D.str)))) (s_seq (s_asg (.tp [(.nm 8), (.nm 9)]) (m_meth "Tool" "becomes" (arity 3 (withD [] (callP g_Tool_becomes))) (m_var 0) (m_cons (m_var 7) (m_cons (m_var 4) (m_nil))))) (s_expr (m_bm isLst g_append (m_var 6) (m_cons (m_js Str.empty [m_fmt (m_dget (m_var 1) (m_var 8)), m_c (.str " "), m_fmt (m_var 9)]) (m_nil)))))) (s_dput (m_var 5) (m_var 4) (m_call g_reprV (m_cons (m_var 6) (m_nil))))))) (s_set 1 (m_call (arity 1 (withD [] g_numbered)) (m_cons (m_var 5) (m_nil))))))) (s_seq (s_set 3 (m_dnewN)) (s_seq (s_for (.nm 4) (i_val (m_attr ["Tool"] "marks" (m_var 0))) (s_dput (m_var 3) (m_dget (m_var 1) (m_var 4)) (m_dget2 (m_var 3) (m_dget (m_var 1) (m_var 4)) (m_var 4)))) (s_retP (m_dc (.nm 4) (i_val (m_attr ["Tool"] "marks" (m_var 0))) (b_true) (m_var 4) (m_dget (m_var 3) (m_dget (m_var 1) (m_var 4))) [4])))))
def g_heads_of : List D → PR := runP 10 b_heads_of
include Fx in
theorem ok_heads_of (K_told_of : Kept P HasW.w K mg base 1 (He.ga K "told_of") (spP K 2 g_told_of)) (K_Tool_becomes : Kept P HasW.w K mg base 3 (He.ma K (He.ga K "Tool") "becomes") (spP K 3 g_Tool_becomes)) (K_numbered : Kept P HasW.w K mg base 1 (He.ga K "numbered") (spE K 1 g_numbered)) (F : FunD K "heads_of" "heads_of" (defArgs st_heads_of) (defBody st_heads_of) (defScope st_heads_of) dl [] f fd) : FnG P HasW.w K mg base 4 f fd ["tool"] (spP K 1 g_heads_of) := fnP F sc_heads_of fun cdv A outer s H E gu room => by
  have h : Here (cxB P HasW.w K mg base N_heads_of "heads_of" (defScope st_heads_of) f cdv A outer s H E) (wxE E) 3 := here_of gu room
  unfold b_heads_of
  exact mps_cons (mp_set (i := 1) nd_heads_of rfl (by first | exact Or.inl rfl | exact Or.inr rfl) (me_dc (own := [("mark", 4)]) (t := (.nm 4)) rfl nd_heads_of (mi_val (me_attr ["Tool"] Fx.at_Tool_marks (me_var 0))) (blkOk_by (N := N_heads_of) (sc := defScope st_heads_of) (by decide +kernel)) (by decide) (fun _ _ _ _ _ => mg_name (i := 4) nd_heads_of rfl (by first | exact Or.inl rfl | exact Or.inr rfl)) (fun _ _ _ _ _ => mts_nil) (fun _ _ _ _ _ => me_var 4) (fun _ _ _ _ _ => me_bin (c_reprV (h.blk _ _ _ _ _).gu (h.blk _ _ _ _ _).r0) b_reprV rfl Fx.f_repr (ma_cons (me_call ((h.blk _ _ _ _ _).callP K_told_of (by decide)) rfl Fx.g_told_of K_told_of.kp (ma_cons (me_var 0) (ma_cons (me_var 4) (ma_nil)))) (ma_nil))))) (mps_cons (mp_for own_of rfl (mi_rng1 rfl Fx.f_range (ma_cons (me_bin c_len b_len rfl Fx.f_len (ma_cons (me_attr ["Tool"] Fx.at_Tool_marks (me_var 0)) (ma_nil))) (ma_nil))) (mg_name (i := 2) nd_heads_of rfl (by first | exact Or.inl rfl | exact Or.inr rfl)) (mps_cons (mp_set (i := 5) nd_heads_of rfl (by first | exact Or.inl rfl | exact Or.inr rfl) (me_dnewN)) (mps_cons (mp_for own_of rfl (mi_val (me_attr ["Tool"] Fx.at_Tool_marks (me_var 0))) (mg_name (i := 4) nd_heads_of rfl (by first | exact Or.inl rfl | exact Or.inr rfl)) (mps_cons (mp_set (i := 6) nd_heads_of rfl (by first | exact Or.inl rfl | exact Or.inr rfl) (me_lstN (ma_cons (me_dget h.u1 (me_var 1) (me_var 4)) (ma_nil)))) (mps_cons (mp_for own_of rfl (mi_val (e_gtup rfl Fx.g_HAPPENINGS Fx.v_HAPPENINGS)) (mg_name (i := 7) nd_heads_of rfl (by first | exact Or.inl rfl | exact Or.inr rfl)) (mps_cons (mp_asg (me_meth (h.callP K_Tool_becomes (by decide)) Fx.c_Tool Fx.m_Tool_becomes (me_var 0) (ma_cons (me_var 7) (ma_cons (me_var 4) (ma_nil)))) (mg_tup rfl (mgs_cons (mg_name (i := 8) nd_heads_of rfl (by first | exact Or.inl rfl | exact Or.inr rfl)) (mgs_cons (mg_name (i := 9) nd_heads_of rfl (by first | exact Or.inl rfl | exact Or.inr rfl)) (mgs_nil))))) (mps_one (mp_expr (me_lm PySem.F.slot_list_append PySem.F.type_list_append mt_append b_append (me_var 6) (ma_cons (me_js (.cons (me_fmt (me_dget h.u1 (me_var 1) (me_var 8))) (.cons (me_str) (.cons (me_fmt (me_var 9)) (.nil))))) (ma_nil))))))) (mps_one (mp_dput h.u1 (me_var 5) (me_var 4) (me_bin (c_reprV h.gu h.r0) b_reprV rfl Fx.f_repr (ma_cons (me_var 6) (ma_nil)))))))) (mps_one (mp_set (i := 1) nd_heads_of rfl (by first | exact Or.inl rfl | exact Or.inr rfl) (me_call (h.callE K_numbered (by decide)) rfl Fx.g_numbered K_numbered.kp (ma_cons (me_var 5) (ma_nil)))))))) (mps_cons (mp_set (i := 3) nd_heads_of rfl (by first | exact Or.inl rfl | exact Or.inr rfl) (me_dnewN)) (mps_cons (mp_for own_of rfl (mi_val (me_attr ["Tool"] Fx.at_Tool_marks (me_var 0))) (mg_name (i := 4) nd_heads_of rfl (by first | exact Or.inl rfl | exact Or.inr rfl)) (mps_one (mp_dput h.u1 (me_var 3) (me_dget h.u1 (me_var 1) (me_var 4)) (me_dget2 h.u1 (me_var 3) (me_dget h.u1 (me_var 1) (me_var 4)) (me_var 4))))) (mps_one (mp_retP (me_dc (own := [("mark", 4)]) (t := (.nm 4)) rfl nd_heads_of (mi_val (me_attr ["Tool"] Fx.at_Tool_marks (me_var 0))) (blkOk_by (N := N_heads_of) (sc := defScope st_heads_of) (by decide +kernel)) (by decide) (fun _ _ _ _ _ => mg_name (i := 4) nd_heads_of rfl (by first | exact Or.inl rfl | exact Or.inr rfl)) (fun _ _ _ _ _ => mts_nil) (fun _ _ _ _ _ => me_var 4) (fun _ _ _ _ _ => me_dget (h.blk _ _ _ _ _).u1 (me_var 3) (me_dget (h.blk _ _ _ _ _).u1 (me_var 1) (me_var 4)))))))))
/-! ### once_each -/
abbrev st_once_each : Stmt := top 32
def N_once_each : List Str := ["marks", "mark"]
theorem nd_once_each : N_once_each.Nodup := by decide +kernel
theorem sc_once_each : FnScope N_once_each ["marks"] (defScope st_once_each) := ⟨rfl, rfl, rfl, nd_once_each, rfl, by decide +kernel, by decide +kernel⟩
def b_once_each : MS := s_retP (m_call g_listK (m_cons (m_dc (.nm 1) (i_val (m_var 0)) (b_true) (m_var 1) (m_c (.bl true)) [1]) (m_nil)))
def g_once_each : List D → PR := runP 2 b_once_each
include Fx in
theorem ok_once_each  (F : FunD K "once_each" "once_each" (defArgs st_once_each) (defBody st_once_each) (defScope st_once_each) dl [] f fd) : FnG P HasW.w K mg base 1 f fd ["marks"] (spP K 1 g_once_each) := fnP F sc_once_each fun cdv A outer s H E gu room => by
  have h : Here (cxB P HasW.w K mg base N_once_each "once_each" (defScope st_once_each) f cdv A outer s H E) (wxE E) 0 := here_of gu room
  unfold b_once_each
  exact mps_one (mp_retP (me_bty (call_listD rfl) b_listK rfl Fx.f_list (ma_cons (me_dc (own := [("mark", 1)]) (t := (.nm 1)) rfl nd_once_each (mi_val (me_var 0)) (blkOk_by (N := N_once_each) (sc := defScope st_once_each) (by decide +kernel)) (by decide) (fun _ _ _ _ _ => mg_name (i := 1) nd_once_each rfl (by first | exact Or.inl rfl | exact Or.inr rfl)) (fun _ _ _ _ _ => mts_nil) (fun _ _ _ _ _ => me_var 1) (fun _ _ _ _ _ => me_bl)) (ma_nil))))
/-! ### merged -/
abbrev st_merged : Stmt := top 33
def N_merged : List Str := ["tool", "heads", "rows", "row", "lines", "old", "then", "some", "mark"]
theorem nd_merged : N_merged.Nodup := by decide +kernel
theorem sc_merged : FnScope N_merged ["tool"] (defScope st_merged) := ⟨rfl, rfl, rfl, nd_merged, rfl, by decide +kernel, by decide +kernel⟩
def b_merged : MS := s_seq (s_set 1 (m_call (arity 1 (withD [] (callP g_heads_of))) (m_cons (m_var 0) (m_nil)))) (s_seq (s_set 2 (m_lstN (m_nil))) (s_seq (s_for (.nm 3) (i_val (m_attr ["Tool"] "rows" (m_var 0))) (s_seq (s_par 5 6 (m_cons (m_dget2 (m_var 1) (m_attr ["Row"] "old" (m_var 3)) (m_attr ["Row"] "old" (m_var 3))) (m_cons (m_dget2 (m_var 1) (m_attr ["Row"] "then" (m_var 3)) (m_attr ["Row"] "then" (m_var 3))) (m_nil)))) (s_if (m_orb (m_tb (m_op2 eqD (m_attr ["Row"] "word" (m_var 3)) (m_c (.str "give")))) (m_tb (m_op2 neD (m_var 5) (m_attr ["Tool"] "blank" (m_var 0))))) (s_expr (m_bm isLst g_append (m_var 2) (m_cons (m_call (arity 4 (withD [] (made "Row" mkF g_Row_init))) (m_cons (m_attr ["Row"] "word" (m_var 3)) (m_cons (m_var 5) (m_cons (m_var 6) (m_cons (m_attr ["Row"] "take" (m_var 3)) (m_nil)))))) (m_nil)))) (s_nil)))) (s_seq (s_set 4 (m_lc (.nm 7) (i_val (m_tup (m_cons (m_attr ["Tool"] "marks" (m_var 0)) (m_cons (m_attr ["Tool"] "shown" (m_var 0)) (m_cons (m_attr ["Tool"] "asked" (m_var 0)) (m_nil)))))) (b_true) (m_call (arity 1 (withD [] (callP g_once_each))) (m_cons (m_lc (.nm 8) (i_val (m_var 7)) (b_true) (m_dget (m_var 1) (m_var 8)) [8]) (m_nil))) [7])) (s_retP (m_call (arity 4 (withD [] (made "Tool" mkF g_Tool_init))) (m_cons (m_ix (m_var 4) (m_c (.int 0))) (m_cons (m_ix (m_var 4) (m_c (.int 1))) (m_cons (m_ix (m_var 4) (m_c (.int 2))) (m_cons (m_var 2) (m_nil))))))))))
def g_merged : List D → PR := runP 9 b_merged
include Fx in
theorem ok_merged (K_heads_of : Kept P HasW.w K mg base 4 (He.ga K "heads_of") (spP K 1 g_heads_of)) (K_Row_init : Kept P HasW.w K mg base 2 (He.ma K (He.ga K "Row") "__init__") (spE K 5 g_Row_init)) (K_once_each : Kept P HasW.w K mg base 1 (He.ga K "once_each") (spP K 1 g_once_each)) (K_Tool_init : Kept P HasW.w K mg base 3 (He.ma K (He.ga K "Tool") "__init__") (spE K 5 g_Tool_init)) (F : FunD K "merged" "merged" (defArgs st_merged) (defBody st_merged) (defScope st_merged) dl [] f fd) : FnG P HasW.w K mg base 5 f fd ["tool"] (spP K 1 g_merged) := fnP F sc_merged fun cdv A outer s H E gu room => by
  have h : Here (cxB P HasW.w K mg base N_merged "merged" (defScope st_merged) f cdv A outer s H E) (wxE E) 4 := here_of gu room
  unfold b_merged
  exact mps_cons (mp_set (i := 1) nd_merged rfl (by first | exact Or.inl rfl | exact Or.inr rfl) (me_call (h.callP K_heads_of (by decide)) rfl Fx.g_heads_of K_heads_of.kp (ma_cons (me_var 0) (ma_nil)))) (mps_cons (mp_set (i := 2) nd_merged rfl (by first | exact Or.inl rfl | exact Or.inr rfl) (me_lstN (ma_nil))) (mps_cons (mp_for own_of rfl (mi_val (me_attr ["Tool"] Fx.at_Tool_rows (me_var 0))) (mg_name (i := 3) nd_merged rfl (by first | exact Or.inl rfl | exact Or.inr rfl)) (mps_cons (mp_par rfl nd_merged (i := 5) (j := 6) rfl rfl (by decide) rfl rfl (ma_cons (me_dget2 h.u1 (me_var 1) (me_attr ["Row"] Fx.at_Row_old (me_var 3)) (me_attr ["Row"] Fx.at_Row_old (me_var 3))) (ma_cons (me_dget2 h.u1 (me_var 1) (me_attr ["Row"] Fx.at_Row_then (me_var 3)) (me_attr ["Row"] Fx.at_Row_then (me_var 3))) (ma_nil)))) (mps_one (mp_if (mt_w (mw_or (t_cmp h.eq (me_attr ["Row"] Fx.at_Row_word (me_var 3)) (me_str)) (mw_or1 (t_cmp h.ne (me_var 5) (me_attr ["Tool"] Fx.at_Tool_blank (me_var 0)))))) (mps_one (mp_expr (me_lm PySem.F.slot_list_append PySem.F.type_list_append mt_append b_append (me_var 2) (ma_cons (me_call (h.make mks_F (n := 4) Fx.M_Row K_Row_init (by decide)) rfl Fx.g_Row Fx.M_Row.kp (ma_cons (me_attr ["Row"] Fx.at_Row_word (me_var 3)) (ma_cons (me_var 5) (ma_cons (me_var 6) (ma_cons (me_attr ["Row"] Fx.at_Row_take (me_var 3)) (ma_nil)))))) (ma_nil))))) (mps_nil))))) (mps_cons (mp_setLc (i := 4) (own := [("some", 7)]) (t := (.nm 7)) rfl nd_merged rfl rfl rfl (mi_val (me_tup (ma_cons (me_attr ["Tool"] Fx.at_Tool_marks (me_var 0)) (ma_cons (me_attr ["Tool"] Fx.at_Tool_shown (me_var 0)) (ma_cons (me_attr ["Tool"] Fx.at_Tool_asked (me_var 0)) (ma_nil)))))) (blkOk_by (N := N_merged) (sc := defScope st_merged) (by decide +kernel)) (by decide) (fun _ _ _ _ _ => mg_name (i := 7) nd_merged rfl (by first | exact Or.inl rfl | exact Or.inr rfl)) (fun _ _ _ _ _ => mts_nil) (fun _ _ _ _ _ => me_call ((h.blk _ _ _ _ _).callP K_once_each (by decide)) rfl Fx.g_once_each K_once_each.kp (ma_cons (me_lc (own := [("mark", 8)]) (t := (.nm 8)) rfl nd_merged (mi_val (me_var 7)) (blkOk_by (N := N_merged) (by rfl)) (by decide) (fun _ _ _ _ _ => mg_name (i := 8) nd_merged rfl (by first | exact Or.inl rfl | exact Or.inr rfl)) (fun _ _ _ _ _ => mts_nil) (fun _ _ _ _ _ => me_dget ((h.blk _ _ _ _ _).blk _ _ _ _ _).u1 (me_var 1) (me_var 8))) (ma_nil)))) (mps_one (mp_retP (me_call (h.make mks_F (n := 4) Fx.M_Tool K_Tool_init (by decide)) rfl Fx.g_Tool Fx.M_Tool.kp (ma_cons (me_ix (me_var 4) (me_int)) (ma_cons (me_ix (me_var 4) (me_int)) (ma_cons (me_ix (me_var 4) (me_int)) (ma_cons (me_var 2) (ma_nil)))))))))))
/-! ### law -/
abbrev st_law : Stmt := top 37
def N_law : List Str := ["_law_script", "_law_rows", "_law_plain", "_law_some", "_law_other", "_law_due", "_law_led", "_law_twice", "_law_idle", "_law_row"]
theorem nd_law : N_law.Nodup := by decide +kernel
theorem sc_law : FnScope N_law ["_law_script"] (defScope st_law) := ⟨rfl, rfl, rfl, nd_law, rfl, by decide +kernel, by decide +kernel⟩
def b_law : MS := s_seq (s_set 1 (m_lst (m_cons (m_c (.str "give any take to good")) (m_cons (m_c (.str "carry any to doubt")) (m_cons (m_c (.str "right any to good")) (m_cons (m_c (.str "wrong any to none")) (m_nil))))))) (s_seq (s_set 2 (m_call (arity 4 (withD [] (callP g__law_text))) (m_cons (m_var 1) (m_cons (m_c (.str "none doubt good")) (m_cons (m_c (.str "good")) (m_cons (m_c (.str "none")) (m_nil))))))) (s_seq (s_set 3 (m_lstN (m_cons (m_tup (m_cons (m_var 2) (m_cons (m_op2 subD (m_c (.int 0)) (m_c (.int 1))) (m_nil)))) (m_cons (m_tup (m_cons (m_call (arity 4 (withD [] (callP g__law_text))) (m_cons (m_rev (m_var 1)) (m_cons (m_c (.str "none doubt good")) (m_cons (m_c (.str "good")) (m_cons (m_c (.str "none")) (m_nil)))))) (m_cons (m_op2 subD (m_c (.int 0)) (m_c (.int 1))) (m_nil)))) (m_nil))))) (s_seq (s_expr (m_bm isLst g_append (m_var 3) (m_cons (m_tup (m_cons (m_call (arity 4 (withD [] (callP g__law_text))) (m_cons (m_op2 addD (m_var 1) (m_lst (m_cons (m_c (.str "give good keep to doubt")) (m_nil)))) (m_cons (m_c (.str "none good doubt")) (m_cons (m_c (.str "good")) (m_cons (m_c (.str "none")) (m_nil)))))) (m_cons (m_op2 subD (m_c (.int 0)) (m_c (.int 1))) (m_nil)))) (m_nil)))) (s_seq (s_expr (m_bm isLst g_append (m_var 3) (m_cons (m_tup (m_cons (m_call (arity 4 (withD [] (callP g__law_text))) (m_cons (m_var 1) (m_cons (m_c (.str "none doubt good")) (m_cons (m_c (.str "good")) (m_cons (m_c (.str "")) (m_nil)))))) (m_cons (m_c (.int 0)) (m_nil)))) (m_nil)))) (s_seq (s_expr (m_bm isLst g_append (m_var 3) (m_cons (m_tup (m_cons (m_call (arity 4 (withD [] (callP g__law_text))) (m_cons (m_var 1) (m_cons (m_c (.str "none doubt good")) (m_cons (m_c (.str "good doubt")) (m_cons (m_c (.str "none")) (m_nil)))))) (m_cons (m_c (.int 2)) (m_nil)))) (m_nil)))) (s_seq (s_expr (m_bm isLst g_append (m_var 3) (m_cons (m_tup (m_cons (m_call (arity 4 (withD [] (callP g__law_text))) (m_cons (m_op2 addD (m_lst (m_cons (m_c (.str "give any keep to good")) (m_nil))) (m_slice (m_var 1) (m_part (m_c (.int 1))) (m_no))) (m_cons (m_c (.str "none doubt good")) (m_cons (m_c (.str "good")) (m_cons (m_c (.str "none")) (m_nil)))))) (m_cons (m_c (.int 1)) (m_nil)))) (m_nil)))) (s_seq (s_expr (m_bm isLst g_append (m_var 3) (m_cons (m_tup (m_cons (m_call (arity 4 (withD [] (callP g__law_text))) (m_cons (m_op2 addD (m_lst (m_cons (m_c (.str "give none take to good")) (m_nil))) (m_slice (m_var 1) (m_part (m_c (.int 1))) (m_no))) (m_cons (m_c (.str "none doubt good")) (m_cons (m_c (.str "good")) (m_cons (m_c (.str "none")) (m_nil)))))) (m_cons (m_c (.int 2)) (m_nil)))) (m_nil)))) (s_seq (s_expr (m_bm isLst g_append (m_var 3) (m_cons (m_tup (m_cons (m_call (arity 4 (withD [] (callP g__law_text))) (m_cons (m_op2 addD (m_slice (m_var 1) (m_no) (m_part (m_c (.int 1)))) (m_slice (m_var 1) (m_part (m_c (.int 2))) (m_no))) (m_cons (m_c (.str "none doubt good")) (m_cons (m_c (.str "good")) (m_cons (m_c (.str "none")) (m_nil)))))) (m_cons (m_c (.int 2)) (m_nil)))) (m_nil)))) (s_seq (s_expr (m_bm isLst g_append (m_var 3) (m_cons (m_tup (m_cons (m_call (arity 4 (withD [] (callP g__law_text))) (m_cons (m_slice (m_var 1) (m_no) (m_part (m_c (.int 3)))) (m_cons (m_c (.str "none doubt good")) (m_cons (m_c (.str "good")) (m_cons (m_c (.str "none")) (m_nil)))))) (m_cons (m_c (.int 2)) (m_nil)))) (m_nil)))) (s_seq (s_expr (m_bm isLst g_append (m_var 3) (m_cons (m_tup (m_cons (m_call (arity 4 (withD [] (callP g__law_text))) (m_cons (m_op2 addD (m_op2 addD (m_slice (m_var 1) (m_no) (m_part (m_c (.int 2)))) (m_lst (m_cons (m_c (.str "right doubt to doubt")) (m_nil)))) (m_slice (m_var 1) (m_part (m_c (.int 2))) (m_no))) (m_cons (m_c (.str "none doubt good")) (m_cons (m_c (.str "good")) (m_cons (m_c (.str "none")) (m_nil)))))) (m_cons (m_c (.int 3)) (m_nil)))) (m_nil)))) (s_seq (s_expr (m_bm isLst g_append (m_var 3) (m_cons (m_tup (m_cons (m_call (arity 4 (withD [] (callP g__law_text))) (m_cons (m_op2 addD (m_var 1) (m_lst (m_cons (m_c (.str "drop any to none")) (m_nil)))) (m_cons (m_c (.str "none doubt good")) (m_cons (m_c (.str "good")) (m_cons (m_c (.str "none")) (m_nil)))))) (m_cons (m_c (.int 2)) (m_nil)))) (m_nil)))) (s_seq (s_expr (m_bm isLst g_append (m_var 3) (m_cons (m_tup (m_cons (m_call (arity 4 (withD [] (callP g__law_text))) (m_cons (m_op2 addD (m_var 1) (m_lst (m_cons (m_c (.str "back doubt to none")) (m_nil)))) (m_cons (m_c (.str "none doubt good")) (m_cons (m_c (.str "good")) (m_cons (m_c (.str "none")) (m_nil)))))) (m_cons (m_c (.int 3)) (m_nil)))) (m_nil)))) (s_seq (s_for (.tp [(.nm 4), (.nm 5)]) (i_val (m_var 3)) (s_if (m_tb (m_op2 neD (m_call (arity 2 (withD [] (callP g__law_size))) (m_cons (m_var 2) (m_cons (m_var 4) (m_nil)))) (m_var 5))) (s_retP (m_c (.bl false))) (s_nil))) (s_seq (s_set 6 (m_lc (.nm 9) (i_val (m_var 1)) (b_true) (m_repl "none" "void" (m_repl "doubt" "weak" (m_repl "good" "fine" (m_var 9)))) [9])) (s_seq (s_if (m_orb (m_notb (m_truth (m_call (arity 2 (withD [] (callP g_alike))) (m_cons (m_var 2) (m_cons (m_call (arity 4 (withD [] (callP g__law_text))) (m_cons (m_var 6) (m_cons (m_c (.str "void fine weak")) (m_cons (m_c (.str "fine")) (m_cons (m_c (.str "void")) (m_nil)))))) (m_nil)))))) (m_tb (m_op2 (eqO "Tool" g_Tool_eq true) (m_call (arity 1 (withD [] (callP g_merged))) (m_cons (m_var 2) (m_nil))) (m_var 2)))) (s_retP (m_c (.bl false))) (s_nil)) (s_seq (s_set 7 (m_call (arity 4 (withD [] (callP g__law_text))) (m_cons (m_op2 addD (m_lst (m_cons (m_c (.str "give any take to fine")) (m_nil))) (m_slice (m_var 1) (m_part (m_c (.int 1))) (m_no))) (m_cons (m_c (.str "none doubt good fine")) (m_cons (m_c (.str "good fine")) (m_cons (m_c (.str "none")) (m_nil))))))) (s_seq (s_if (m_orb (m_notb (m_truth (m_call (arity 2 (withD [] (callP g_alike))) (m_cons (m_var 7) (m_cons (m_var 2) (m_nil)))))) (m_orb (m_tb (m_op2 (eqO "Tool" g_Tool_eq true) (m_call (arity 1 (withD [] (callP g_merged))) (m_cons (m_var 7) (m_nil))) (m_var 2))) (m_tb (m_op2 (eqO "Tool" g_Tool_eq true) (m_call (arity 1 (withD [] (callP g_merged))) (m_cons (m_call (arity 1 (withD [] (callP g_merged))) (m_cons (m_var 7) (m_nil))) (m_nil))) (m_var 2))))) (s_retP (m_c (.bl false))) (s_nil)) (s_seq (s_set 8 (m_call (arity 4 (withD [] (callP g__law_text))) (m_cons (m_lst (m_nil)) (m_cons (m_c (.str "a b c")) (m_cons (m_c (.str "c")) (m_cons (m_c (.str "a b")) (m_nil))))))) (s_retP (m_and (m_op2 eqD (m_call (g_strO "Tool" g_Tool_str) (m_cons (m_call (arity 1 (withD [] (callP g_merged))) (m_cons (m_var 8) (m_nil))) (m_nil))) (m_c (.str "marks a b c\nshown c\nasked a b"))) (m_op2 isD (m_call (arity 2 (withD [] (callP g_parting))) (m_cons (m_var 2) (m_cons (m_var 2) (m_nil)))) (m_c .non))))))))))))))))))))))
def g_law : List D → PR := runP 10 b_law
include Fx in
theorem ok_law (K__law_text : Kept P HasW.w K mg base 6 (He.ga K "_law_text") (spP K 4 g__law_text)) (K__law_size : Kept P HasW.w K mg base 6 (He.ga K "_law_size") (spP K 2 g__law_size)) (K_alike : Kept P HasW.w K mg base 5 (He.ga K "alike") (spP K 2 g_alike)) (K_Tool_eq : Kept P HasW.w K mg base 7 (He.ma K (He.ga K "Tool") "__eq__") (spP K 2 g_Tool_eq)) (K_merged : Kept P HasW.w K mg base 5 (He.ga K "merged") (spP K 1 g_merged)) (K_Tool_str : Kept P HasW.w K mg base 4 (He.ma K (He.ga K "Tool") "__str__") (spP K 1 g_Tool_str)) (K_parting : Kept P HasW.w K mg base 4 (He.ga K "parting") (spP K 2 g_parting)) (F : FunD K "law" "law" (defArgs st_law) (defBody st_law) (defScope st_law) dl [] f fd) : FnG P HasW.w K mg base 9 f fd ["_law_script"] (spP K 1 g_law) := fnP F sc_law fun cdv A outer s H E gu room => by
  have h : Here (cxB P HasW.w K mg base N_law "law" (defScope st_law) f cdv A outer s H E) (wxE E) 8 := here_of gu room
  unfold b_law
  exact mps_lstT (i := 1) nd_law rfl (by first | exact Or.inl rfl | exact Or.inr rfl) (ma_cons (me_str) (ma_cons (me_str) (ma_cons (me_str) (ma_nil)))) (mpst_cons (mpt_of (mp_set (i := 2) nd_law rfl (by first | exact Or.inl rfl | exact Or.inr rfl) (me_call (h.callP K__law_text (by decide)) rfl Fx.g__law_text K__law_text.kp (ma_cons (me_var 1) (ma_cons (me_str) (ma_cons (me_str) (ma_cons (me_str) (ma_nil)))))))) (mpst_cons (mpt_of (mp_set (i := 3) nd_law rfl (by first | exact Or.inl rfl | exact Or.inr rfl) (me_lstN (ma_cons (me_tup (ma_cons (me_var 2) (ma_cons (e_op h.sub (me_int) (me_int)) (ma_nil)))) (ma_cons (me_tup (ma_cons (me_call (h.callP K__law_text (by decide)) rfl Fx.g__law_text K__law_text.kp (ma_cons (me_rev0 (me_var 1)) (ma_cons (me_str) (ma_cons (me_str) (ma_cons (me_str) (ma_nil)))))) (ma_cons (e_op h.sub (me_int) (me_int)) (ma_nil)))) (ma_nil)))))) (mpst_cons (mpt_of (mp_expr (me_lm PySem.F.slot_list_append PySem.F.type_list_append mt_append b_append (me_var 3) (ma_cons (me_tup (ma_cons (me_call (h.callP K__law_text (by decide)) rfl Fx.g__law_text K__law_text.kp (ma_cons (e_op h.add (me_var 1) (me_lst (ma_cons (me_str) (ma_nil)))) (ma_cons (me_str) (ma_cons (me_str) (ma_cons (me_str) (ma_nil)))))) (ma_cons (e_op h.sub (me_int) (me_int)) (ma_nil)))) (ma_nil))))) (mpst_cons (mpt_of (mp_expr (me_lm PySem.F.slot_list_append PySem.F.type_list_append mt_append b_append (me_var 3) (ma_cons (me_tup (ma_cons (me_call (h.callP K__law_text (by decide)) rfl Fx.g__law_text K__law_text.kp (ma_cons (me_var 1) (ma_cons (me_str) (ma_cons (me_str) (ma_cons (me_str) (ma_nil)))))) (ma_cons (me_int) (ma_nil)))) (ma_nil))))) (mpst_cons (mpt_of (mp_expr (me_lm PySem.F.slot_list_append PySem.F.type_list_append mt_append b_append (me_var 3) (ma_cons (me_tup (ma_cons (me_call (h.callP K__law_text (by decide)) rfl Fx.g__law_text K__law_text.kp (ma_cons (me_var 1) (ma_cons (me_str) (ma_cons (me_str) (ma_cons (me_str) (ma_nil)))))) (ma_cons (me_int) (ma_nil)))) (ma_nil))))) (mpst_cons (mpt_of (mp_expr (me_lm PySem.F.slot_list_append PySem.F.type_list_append mt_append b_append (me_var 3) (ma_cons (me_tup (ma_cons (me_call (h.callP K__law_text (by decide)) rfl Fx.g__law_text K__law_text.kp (ma_cons (e_op h.add (me_lst (ma_cons (me_str) (ma_nil))) (me_slice (me_var 1) (mo_some (me_int)) (mo_none))) (ma_cons (me_str) (ma_cons (me_str) (ma_cons (me_str) (ma_nil)))))) (ma_cons (me_int) (ma_nil)))) (ma_nil))))) (mpst_cons (mpt_of (mp_expr (me_lm PySem.F.slot_list_append PySem.F.type_list_append mt_append b_append (me_var 3) (ma_cons (me_tup (ma_cons (me_call (h.callP K__law_text (by decide)) rfl Fx.g__law_text K__law_text.kp (ma_cons (e_op h.add (me_lst (ma_cons (me_str) (ma_nil))) (me_slice (me_var 1) (mo_some (me_int)) (mo_none))) (ma_cons (me_str) (ma_cons (me_str) (ma_cons (me_str) (ma_nil)))))) (ma_cons (me_int) (ma_nil)))) (ma_nil))))) (mpst_cons (mpt_of (mp_expr (me_lm PySem.F.slot_list_append PySem.F.type_list_append mt_append b_append (me_var 3) (ma_cons (me_tup (ma_cons (me_call (h.callP K__law_text (by decide)) rfl Fx.g__law_text K__law_text.kp (ma_cons (e_op h.add (me_slice (me_var 1) (mo_none) (mo_some (me_int))) (me_slice (me_var 1) (mo_some (me_int)) (mo_none))) (ma_cons (me_str) (ma_cons (me_str) (ma_cons (me_str) (ma_nil)))))) (ma_cons (me_int) (ma_nil)))) (ma_nil))))) (mpst_cons (mpt_of (mp_expr (me_lm PySem.F.slot_list_append PySem.F.type_list_append mt_append b_append (me_var 3) (ma_cons (me_tup (ma_cons (me_call (h.callP K__law_text (by decide)) rfl Fx.g__law_text K__law_text.kp (ma_cons (me_slice (me_var 1) (mo_none) (mo_some (me_int))) (ma_cons (me_str) (ma_cons (me_str) (ma_cons (me_str) (ma_nil)))))) (ma_cons (me_int) (ma_nil)))) (ma_nil))))) (mpst_cons (mpt_of (mp_expr (me_lm PySem.F.slot_list_append PySem.F.type_list_append mt_append b_append (me_var 3) (ma_cons (me_tup (ma_cons (me_call (h.callP K__law_text (by decide)) rfl Fx.g__law_text K__law_text.kp (ma_cons (e_op h.add (e_op h.add (me_slice (me_var 1) (mo_none) (mo_some (me_int))) (me_lst (ma_cons (me_str) (ma_nil)))) (me_slice (me_var 1) (mo_some (me_int)) (mo_none))) (ma_cons (me_str) (ma_cons (me_str) (ma_cons (me_str) (ma_nil)))))) (ma_cons (me_int) (ma_nil)))) (ma_nil))))) (mpst_cons (mpt_of (mp_expr (me_lm PySem.F.slot_list_append PySem.F.type_list_append mt_append b_append (me_var 3) (ma_cons (me_tup (ma_cons (me_call (h.callP K__law_text (by decide)) rfl Fx.g__law_text K__law_text.kp (ma_cons (e_op h.add (me_var 1) (me_lst (ma_cons (me_str) (ma_nil)))) (ma_cons (me_str) (ma_cons (me_str) (ma_cons (me_str) (ma_nil)))))) (ma_cons (me_int) (ma_nil)))) (ma_nil))))) (mpst_cons (mpt_of (mp_expr (me_lm PySem.F.slot_list_append PySem.F.type_list_append mt_append b_append (me_var 3) (ma_cons (me_tup (ma_cons (me_call (h.callP K__law_text (by decide)) rfl Fx.g__law_text K__law_text.kp (ma_cons (e_op h.add (me_var 1) (me_lst (ma_cons (me_str) (ma_nil)))) (ma_cons (me_str) (ma_cons (me_str) (ma_cons (me_str) (ma_nil)))))) (ma_cons (me_int) (ma_nil)))) (ma_nil))))) (mpst_cons (mpt_of (mp_for own_of rfl (mi_val (me_var 3)) (mg_tup rfl (mgs_cons (mg_name (i := 4) nd_law rfl (by first | exact Or.inl rfl | exact Or.inr rfl)) (mgs_cons (mg_name (i := 5) nd_law rfl (by first | exact Or.inl rfl | exact Or.inr rfl)) (mgs_nil)))) (mps_one (mp_if (t_cmp h.ne (me_call (h.callP K__law_size (by decide)) rfl Fx.g__law_size K__law_size.kp (ma_cons (me_var 2) (ma_cons (me_var 4) (ma_nil)))) (me_var 5)) (mps_one (mp_retP (me_bl))) (mps_nil))))) (mpst_cons (mpst_setLc (i := 6) (own := [("_law_row", 9)]) (t := (.nm 9)) rfl nd_law rfl rfl rfl (mi_val (me_var 1)) (blkOk_by (N := N_law) (sc := defScope st_law) (by decide +kernel)) (by decide) (fun _ _ _ _ _ => mg_name (i := 9) nd_law rfl (by first | exact Or.inl rfl | exact Or.inr rfl)) (fun _ _ _ _ _ => mts_nil) (fun _ _ _ _ _ => met_repl (met_repl (met_repl (met_of (me_var 9)))))) (mpst_of (mps_cons (mp_if (mt_w (mw_or (mt_not (mt_truth (me_call (h.callP K_alike (by decide)) rfl Fx.g_alike K_alike.kp (ma_cons (me_var 2) (ma_cons (me_call (h.callP K__law_text (by decide)) rfl Fx.g__law_text K__law_text.kp (ma_cons (me_var 6) (ma_cons (me_str) (ma_cons (me_str) (ma_cons (me_str) (ma_nil)))))) (ma_nil)))))) (mw_or1 (t_cmp (h.neO K_Tool_eq Fx.eq_Tool (by decide)) (me_call (h.callP K_merged (by decide)) rfl Fx.g_merged K_merged.kp (ma_cons (me_var 2) (ma_nil))) (me_var 2))))) (mps_one (mp_retP (me_bl))) (mps_nil)) (mps_cons (mp_set (i := 7) nd_law rfl (by first | exact Or.inl rfl | exact Or.inr rfl) (me_call (h.callP K__law_text (by decide)) rfl Fx.g__law_text K__law_text.kp (ma_cons (e_op h.add (me_lst (ma_cons (me_str) (ma_nil))) (me_slice (me_var 1) (mo_some (me_int)) (mo_none))) (ma_cons (me_str) (ma_cons (me_str) (ma_cons (me_str) (ma_nil))))))) (mps_cons (mp_if (mt_w (mw_or (mt_not (mt_truth (me_call (h.callP K_alike (by decide)) rfl Fx.g_alike K_alike.kp (ma_cons (me_var 7) (ma_cons (me_var 2) (ma_nil)))))) (mw_or (t_cmp (h.neO K_Tool_eq Fx.eq_Tool (by decide)) (me_call (h.callP K_merged (by decide)) rfl Fx.g_merged K_merged.kp (ma_cons (me_var 7) (ma_nil))) (me_var 2)) (mw_or1 (t_cmp (h.neO K_Tool_eq Fx.eq_Tool (by decide)) (me_call (h.callP K_merged (by decide)) rfl Fx.g_merged K_merged.kp (ma_cons (me_call (h.callP K_merged (by decide)) rfl Fx.g_merged K_merged.kp (ma_cons (me_var 7) (ma_nil))) (ma_nil))) (me_var 2)))))) (mps_one (mp_retP (me_bl))) (mps_nil)) (mps_cons (mp_set (i := 8) nd_law rfl (by first | exact Or.inl rfl | exact Or.inr rfl) (me_call (h.callP K__law_text (by decide)) rfl Fx.g__law_text K__law_text.kp (ma_cons (me_lst (ma_nil)) (ma_cons (me_str) (ma_cons (me_str) (ma_cons (me_str) (ma_nil))))))) (mps_one (mp_retP (me_and (e_cmp h.eq ((K_Tool_str.strO Fx.str_Tool h (by decide) rfl Fx.f_str (ma_cons (me_call (h.callP K_merged (by decide)) rfl Fx.g_merged K_merged.kp (ma_cons (me_var 8) (ma_nil))) (ma_nil)))) (me_str)) (me_one (e_cmp h.is_ (me_call (h.callP K_parting (by decide)) rfl Fx.g_parting K_parting.kp (ma_cons (me_var 2) (ma_cons (me_var 2) (ma_nil)))) (me_non)))))))))))))))))))))))))
end
end Lw
set_option Elab.async false
set_option linter.all false
set_option maxRecDepth 100000
set_option maxHeartbeats 0
namespace Lw
open PySem PySem.Spec L2 Bv
open PyProof.Rows hiding St
/-! ### the head -/
def xsL : List ErrB := []
def d_is_name : DefB := ⟨fun K => He.ga K "is_name", "is_name", "is_name", defArgs st_is_name, defBody st_is_name, defScope st_is_name, []⟩
def d_is_sequence : DefB := ⟨fun K => He.ga K "is_sequence", "is_sequence", "is_sequence", defArgs st_is_sequence, defBody st_is_sequence, defScope st_is_sequence, []⟩
def d_are_unlike : DefB := ⟨fun K => He.ga K "are_unlike", "are_unlike", "are_unlike", defArgs st_are_unlike, defBody st_are_unlike, defScope st_are_unlike, []⟩
def d_is_word : DefB := ⟨fun K => He.ga K "is_word", "is_word", "is_word", defArgs st_is_word, defBody st_is_word, defScope st_is_word, []⟩
def d_Row_fits : DefB := ⟨fun K => He.ma K (He.ga K "Row") "fits", "fits", "Row.fits", defArgs st_Row_fits, defBody st_Row_fits, defScope st_Row_fits, []⟩
def d_Row_str : DefB := ⟨fun K => He.ma K (He.ga K "Row") "__str__", "__str__", "Row.__str__", defArgs st_Row_str, defBody st_Row_str, defScope st_Row_str, []⟩
def d_told_of : DefB := ⟨fun K => He.ga K "told_of", "told_of", "told_of", defArgs st_told_of, defBody st_told_of, defScope st_told_of, []⟩
def d_numbered : DefB := ⟨fun K => He.ga K "numbered", "numbered", "numbered", defArgs st_numbered, defBody st_numbered, defScope st_numbered, []⟩
def d_once_each : DefB := ⟨fun K => He.ga K "once_each", "once_each", "once_each", defArgs st_once_each, defBody st_once_each, defScope st_once_each, []⟩
def d_Row_init : DefB := ⟨fun K => He.ma K (He.ga K "Row") "__init__", "__init__", "Row.__init__", defArgs st_Row_init, defBody st_Row_init, defScope st_Row_init, [.bl true]⟩
def d_are_names : DefB := ⟨fun K => He.ga K "are_names", "are_names", "are_names", defArgs st_are_names, defBody st_are_names, defScope st_are_names, []⟩
def d_names_in : DefB := ⟨fun K => He.ga K "names_in", "names_in", "names_in", defArgs st_names_in, defBody st_names_in, defScope st_names_in, []⟩
def d_Tool_row_for : DefB := ⟨fun K => He.ma K (He.ga K "Tool") "row_for", "row_for", "Tool.row_for", defArgs st_Tool_row_for, defBody st_Tool_row_for, defScope st_Tool_row_for, []⟩
def d_Tool_init : DefB := ⟨fun K => He.ma K (He.ga K "Tool") "__init__", "__init__", "Tool.__init__", defArgs st_Tool_init, defBody st_Tool_init, defScope st_Tool_init, [.adr (He.dflAt ("Tool", some "__init__") 0)]⟩
def d_Tool_becomes : DefB := ⟨fun K => He.ma K (He.ga K "Tool") "becomes", "becomes", "Tool.becomes", defArgs st_Tool_becomes, defBody st_Tool_becomes, defScope st_Tool_becomes, []⟩
def d_Row_read : DefB := ⟨fun K => cmAd "Row" "read" K, "read", "Row.read", defArgs st_Row_read, defBody st_Row_read, defScope st_Row_read, []⟩
def d_Tool_str : DefB := ⟨fun K => He.ma K (He.ga K "Tool") "__str__", "__str__", "Tool.__str__", defArgs st_Tool_str, defBody st_Tool_str, defScope st_Tool_str, []⟩
def d_parting : DefB := ⟨fun K => He.ga K "parting", "parting", "parting", defArgs st_parting, defBody st_parting, defScope st_parting, []⟩
def d_heads_of : DefB := ⟨fun K => He.ga K "heads_of", "heads_of", "heads_of", defArgs st_heads_of, defBody st_heads_of, defScope st_heads_of, []⟩
def d_Tool_read : DefB := ⟨fun K => cmAd "Tool" "read" K, "read", "Tool.read", defArgs st_Tool_read, defBody st_Tool_read, defScope st_Tool_read, []⟩
def d_alike : DefB := ⟨fun K => He.ga K "alike", "alike", "alike", defArgs st_alike, defBody st_alike, defScope st_alike, []⟩
def d_merged : DefB := ⟨fun K => He.ga K "merged", "merged", "merged", defArgs st_merged, defBody st_merged, defScope st_merged, []⟩
def d__law_text : DefB := ⟨fun K => He.ga K "_law_text", "_law_text", "_law_text", defArgs st__law_text, defBody st__law_text, defScope st__law_text, []⟩
def d__law_size : DefB := ⟨fun K => He.ga K "_law_size", "_law_size", "_law_size", defArgs st__law_size, defBody st__law_size, defScope st__law_size, []⟩
def d_Tool_eq : DefB := ⟨fun K => He.ma K (He.ga K "Tool") "__eq__", "__eq__", "Tool.__eq__", defArgs st_Tool_eq, defBody st_Tool_eq, defScope st_Tool_eq, []⟩
def d_law : DefB := ⟨fun K => He.ga K "law", "law", "law", defArgs st_law, defBody st_law, defScope st_law, []⟩
def dsL : List DefB := [d_is_name, d_is_sequence, d_are_unlike, d_is_word, d_Row_fits, d_Row_str, d_told_of, d_numbered, d_once_each, d_Row_init, d_are_names, d_names_in, d_Tool_row_for, d_Tool_init, d_Tool_becomes, d_Row_read, d_Tool_str, d_parting, d_heads_of, d_Tool_read, d_alike, d_merged, d__law_text, d__law_size, d_Tool_eq, d_law]
def tsL : List (PySem.W.Frag → Bool) := [t_tup "HEADS" ["marks", "shown", "asked"],
  t_glo "HEADS",
  t_free "enumerate",
  t_free "len",
  t_free "isinstance",
  t_isT (fun K => (.type "str")) (tabOf "str") [("Row", false), ("Tool", false)],
  t_free "str",
  t_tup "BARRED" ["any", "same", "take", "keep", "to"],
  t_glo "BARRED",
  t_int "MOST_LETTERS" 5,
  t_txt "LETTERS" "abcdefghijklmnopqrstuvwxyz",
  t_free "all",
  t_glo "is_name",
  t_glo "names_in",
  t_tup "TAKINGS" ["keep", "take"],
  t_glo "TAKINGS",
  t_tup "HAPPENINGS" ["give", "carry", "drop", "back", "right", "wrong"],
  t_glo "HAPPENINGS",
  t_glo "is_word",
  t_isT (fun K => (.type "bool")) (tabOf "bool") [("Row", false), ("Tool", false)],
  t_free "bool",
  t_attr ["Row"] "word",
  t_attr ["Row"] "old",
  t_attr ["Row"] "then",
  t_attr ["Row"] "take",
  t_mkr "Row",
  t_glo "Row",
  t_cm "Row" "read",
  t_isTs [.type "list", .type "tuple"] (tabsOf ["list", "tuple"]) [("Row", false), ("Tool", false)],
  t_free "list",
  t_free "tuple",
  t_glo "is_sequence",
  t_free "set",
  t_glo "are_unlike",
  t_glo "are_names",
  t_isT (fun K => (.ref (He.ga K "Row"))) tabNone [("Row", true), ("Tool", false)],
  t_free "any",
  t_attr ["Tool"] "marks",
  t_attr ["Tool"] "shown",
  t_attr ["Tool"] "asked",
  t_attr ["Tool"] "rows",
  t_attr ["Tool"] "blank",
  t_mkr "Tool",
  t_glo "Tool",
  t_cm "Tool" "read",
  t_glo "_law_text",
  t_glo "told_of",
  t_cls "Row",
  t_meth "Row" "fits",
  t_cls "Tool",
  t_meth "Tool" "row_for",
  t_meth "Tool" "becomes",
  t_glo "parting",
  t_glo "alike",
  t_glo "_law_size",
  t_isT (fun K => (.ref (He.ga K "Tool"))) tabNone [("Row", false), ("Tool", true)],
  t_free "zip",
  t_free "int",
  t_str "Row",
  t_str "Tool",
  t_eq "Tool",
  t_free "repr",
  t_free "range",
  t_glo "numbered",
  t_glo "heads_of",
  t_glo "once_each",
  t_glo "merged",
  t_glo "law",
  t_dfl0 ("Tool", some "__init__") 0]
theorem facts {K : PySem.W.Frag} {h : Heap} {mg : Str → Option Value} (X : K.In h) (G : h.Ns mainGlobals mg) (c : SaysB tsL dsL K) : Facts K mg := ⟨
  c.test 0 rfl,
  glo_ok' X G (c.test 1 rfl),
  free_ok' X G (c.test 2 rfl),
  free_ok' X G (c.test 3 rfl),
  free_ok' X G (c.test 4 rfl),
  isT_ok (u := fun K => (.type "str")) (c.test 5 rfl),
  free_ok' X G (c.test 6 rfl),
  c.test 7 rfl,
  glo_ok' X G (c.test 8 rfl),
  int_ok' X G (c.test 9 rfl),
  txt_ok' X G (c.test 10 rfl),
  free_ok' X G (c.test 11 rfl),
  glo_ok' X G (c.test 12 rfl),
  glo_ok' X G (c.test 13 rfl),
  c.test 14 rfl,
  glo_ok' X G (c.test 15 rfl),
  c.test 16 rfl,
  glo_ok' X G (c.test 17 rfl),
  glo_ok' X G (c.test 18 rfl),
  isT_ok (u := fun K => (.type "bool")) (c.test 19 rfl),
  free_ok' X G (c.test 20 rfl),
  attr_ok (c.test 21 rfl),
  attr_ok (c.test 22 rfl),
  attr_ok (c.test 23 rfl),
  attr_ok (c.test 24 rfl),
  mkr_ok' (c.test 25 rfl),
  glo_ok' X G (c.test 26 rfl),
  cm_ok (c.test 27 rfl),
  isTs_ok (c.test 28 rfl),
  free_ok' X G (c.test 29 rfl),
  free_ok' X G (c.test 30 rfl),
  glo_ok' X G (c.test 31 rfl),
  free_ok' X G (c.test 32 rfl),
  glo_ok' X G (c.test 33 rfl),
  glo_ok' X G (c.test 34 rfl),
  isT_ok (u := fun K => (.ref (He.ga K "Row"))) (c.test 35 rfl),
  free_ok' X G (c.test 36 rfl),
  attr_ok (c.test 37 rfl),
  attr_ok (c.test 38 rfl),
  attr_ok (c.test 39 rfl),
  attr_ok (c.test 40 rfl),
  attr_ok (c.test 41 rfl),
  mkr_ok' (c.test 42 rfl),
  glo_ok' X G (c.test 43 rfl),
  cm_ok (c.test 44 rfl),
  glo_ok' X G (c.test 45 rfl),
  glo_ok' X G (c.test 46 rfl),
  He.cls_ok (c.test 47 rfl),
  He.meth_ok (c.test 48 rfl),
  He.cls_ok (c.test 49 rfl),
  He.meth_ok (c.test 50 rfl),
  He.meth_ok (c.test 51 rfl),
  glo_ok' X G (c.test 52 rfl),
  glo_ok' X G (c.test 53 rfl),
  glo_ok' X G (c.test 54 rfl),
  isT_ok (u := fun K => (.ref (He.ga K "Tool"))) (c.test 55 rfl),
  free_ok' X G (c.test 56 rfl),
  free_ok' X G (c.test 57 rfl),
  str_ok (c.test 58 rfl),
  str_ok (c.test 59 rfl),
  eq_ok (c.test 60 rfl),
  free_ok' X G (c.test 61 rfl),
  free_ok' X G (c.test 62 rfl),
  glo_ok' X G (c.test 63 rfl),
  glo_ok' X G (c.test 64 rfl),
  glo_ok' X G (c.test 65 rfl),
  glo_ok' X G (c.test 66 rfl),
  glo_ok' X G (c.test 67 rfl)⟩
theorem all [HasW] {P : Program} {K : PySem.W.Frag} {h : Heap} {mg : Str → Option Value} {f : Addr} (X : K.In h) (G : h.Ns mainGlobals mg) (cx : SaysX tsL dsL xsL K) (hP : P.main.file = PySem.Challenge.pw_wordingkept_k57_comparing_known_by_hand.main.file) (hT : (P.main.scope.names.lookup ("super" : Str)).isSome = false) (hf : mg "law" = some (.ref f)) :
    ∃ fd : FuncData, (∀ (s : Shared) (v : Value), BindsTo s fd ⟨[v], []⟩ [("_law_script", v)]) ∧ ∀ base : Heap, K.In base → base.Ns mainGlobals mg → FnG P HasW.w K mg base 9 f fd ["_law_script"] (spP K 1 g_law) := by
  have c := cx.toB
  have Fx := facts X G c
  have e0 := hf.symm.trans (glo_ok' X G (c.test 67 rfl))
  cases e0
  obtain ⟨fd_is_name, F_is_name⟩ := c.fun 0 (d := d_is_name) rfl
  obtain ⟨fd_is_sequence, F_is_sequence⟩ := c.fun 1 (d := d_is_sequence) rfl
  obtain ⟨fd_are_unlike, F_are_unlike⟩ := c.fun 2 (d := d_are_unlike) rfl
  obtain ⟨fd_is_word, F_is_word⟩ := c.fun 3 (d := d_is_word) rfl
  obtain ⟨fd_Row_fits, F_Row_fits⟩ := c.fun 4 (d := d_Row_fits) rfl
  obtain ⟨fd_Row_str, F_Row_str⟩ := c.fun 5 (d := d_Row_str) rfl
  obtain ⟨fd_told_of, F_told_of⟩ := c.fun 6 (d := d_told_of) rfl
  obtain ⟨fd_numbered, F_numbered⟩ := c.fun 7 (d := d_numbered) rfl
  obtain ⟨fd_once_each, F_once_each⟩ := c.fun 8 (d := d_once_each) rfl
  obtain ⟨fd_Row_init, F_Row_init⟩ := c.fun 9 (d := d_Row_init) rfl
  obtain ⟨fd_are_names, F_are_names⟩ := c.fun 10 (d := d_are_names) rfl
  obtain ⟨fd_names_in, F_names_in⟩ := c.fun 11 (d := d_names_in) rfl
  obtain ⟨fd_Tool_row_for, F_Tool_row_for⟩ := c.fun 12 (d := d_Tool_row_for) rfl
  obtain ⟨fd_Tool_init, F_Tool_init⟩ := c.fun 13 (d := d_Tool_init) rfl
  obtain ⟨fd_Tool_becomes, F_Tool_becomes⟩ := c.fun 14 (d := d_Tool_becomes) rfl
  obtain ⟨fd_Row_read, F_Row_read⟩ := c.fun 15 (d := d_Row_read) rfl
  obtain ⟨fd_Tool_str, F_Tool_str⟩ := c.fun 16 (d := d_Tool_str) rfl
  obtain ⟨fd_parting, F_parting⟩ := c.fun 17 (d := d_parting) rfl
  obtain ⟨fd_heads_of, F_heads_of⟩ := c.fun 18 (d := d_heads_of) rfl
  obtain ⟨fd_Tool_read, F_Tool_read⟩ := c.fun 19 (d := d_Tool_read) rfl
  obtain ⟨fd_alike, F_alike⟩ := c.fun 20 (d := d_alike) rfl
  obtain ⟨fd_merged, F_merged⟩ := c.fun 21 (d := d_merged) rfl
  obtain ⟨fd__law_text, F__law_text⟩ := c.fun 22 (d := d__law_text) rfl
  obtain ⟨fd__law_size, F__law_size⟩ := c.fun 23 (d := d__law_size) rfl
  obtain ⟨fd_Tool_eq, F_Tool_eq⟩ := c.fun 24 (d := d_Tool_eq) rfl
  obtain ⟨fd_law, F_law⟩ := c.fun 25 (d := d_law) rfl
  have b0 := F_law.bindsA (ps := ["_law_script"]) fun _ _ _ _ _ _ us hl => match us, hl with | [_], _ => rfl
  refine ⟨fd_law, fun s v => b0 s [v] rfl, fun base _ _ => ?_⟩
  have K_is_name := kept0 F_is_name (ok_is_name (P := P) (base := base) Fx  F_is_name) fun _ _ _ _ _ _ us hl => match us, hl with | [_], _ => rfl
  have K_is_sequence := kept0 F_is_sequence (ok_is_sequence (P := P) (base := base) Fx  F_is_sequence) fun _ _ _ _ _ _ us hl => match us, hl with | [_], _ => rfl
  have K_are_unlike := kept0 F_are_unlike (ok_are_unlike (P := P) (base := base) Fx  F_are_unlike) fun _ _ _ _ _ _ us hl => match us, hl with | [_], _ => rfl
  have K_is_word := kept0 F_is_word (ok_is_word (P := P) (base := base) Fx  F_is_word) fun _ _ _ _ _ _ us hl => match us, hl with | [_, _], _ => rfl
  have K_Row_fits := kept0 F_Row_fits (ok_Row_fits (P := P) (base := base) Fx  F_Row_fits) fun _ _ _ _ _ _ us hl => match us, hl with | [_, _, _], _ => rfl
  have K_Row_str := kept0 F_Row_str (ok_Row_str (P := P) (base := base) Fx  F_Row_str) fun _ _ _ _ _ _ us hl => match us, hl with | [_], _ => rfl
  have K_told_of := kept0 F_told_of (ok_told_of (P := P) (base := base) Fx  F_told_of) fun _ _ _ _ _ _ us hl => match us, hl with | [_, _], _ => rfl
  have K_numbered := kept0 F_numbered (ok_numbered (P := P) (base := base) Fx  F_numbered) fun _ _ _ _ _ _ us hl => match us, hl with | [_], _ => rfl
  have K_once_each := kept0 F_once_each (ok_once_each (P := P) (base := base) Fx  F_once_each) fun _ _ _ _ _ _ us hl => match us, hl with | [_], _ => rfl
  have K_Row_init := keptA F_Row_init (ok_Row_init (P := P) (base := base) Fx K_is_word K_is_name F_Row_init) (by simp [DefB.dvs, d_Row_init]) fun _ _ _ _ _ _ _ us its hl hi => match us, its, hl, hi with | [_, _, _, _, _], [_], _, _ => ⟨_, rfl, rfl⟩
  have K_are_names := kept0 F_are_names (ok_are_names (P := P) (base := base) Fx K_is_sequence K_is_name K_are_unlike F_are_names) fun _ _ _ _ _ _ us hl => match us, hl with | [_], _ => rfl
  have K_names_in := kept0 F_names_in (ok_names_in (P := P) (base := base) Fx K_is_name F_names_in) fun _ _ _ _ _ _ us hl => match us, hl with | [_, _], _ => rfl
  have K_Tool_row_for := kept0 F_Tool_row_for (ok_Tool_row_for (P := P) (base := base) Fx K_Row_fits F_Tool_row_for) fun _ _ _ _ _ _ us hl => match us, hl with | [_, _, _], _ => rfl
  have K_Tool_init := keptA F_Tool_init (ok_Tool_init (P := P) (base := base) Fx K_are_names K_is_sequence F_Tool_init) (by simp [DefB.dvs, d_Tool_init]) fun _ _ _ _ _ _ _ us its hl hi => match us, its, hl, hi with | [_, _, _, _, _], [_], _, _ => ⟨_, rfl, rfl⟩
  have K_Tool_becomes := kept0 F_Tool_becomes (ok_Tool_becomes (P := P) (base := base) Fx K_Tool_row_for F_Tool_becomes) fun _ _ _ _ _ _ us hl => match us, hl with | [_, _, _], _ => rfl
  have K_Row_read := kept0 F_Row_read (ok_Row_read (P := P) (base := base) Fx K_Row_init F_Row_read) fun _ _ _ _ _ _ us hl => match us, hl with | [_, _], _ => rfl
  have K_Tool_str := kept0 F_Tool_str (ok_Tool_str (P := P) (base := base) Fx K_Row_str F_Tool_str) fun _ _ _ _ _ _ us hl => match us, hl with | [_], _ => rfl
  have K_parting := kept0 F_parting (ok_parting (P := P) (base := base) Fx K_told_of K_Tool_becomes F_parting) fun _ _ _ _ _ _ us hl => match us, hl with | [_, _], _ => rfl
  have K_heads_of := kept0 F_heads_of (ok_heads_of (P := P) (base := base) Fx K_told_of K_Tool_becomes K_numbered F_heads_of) fun _ _ _ _ _ _ us hl => match us, hl with | [_], _ => rfl
  have K_Tool_read := kept0 F_Tool_read (ok_Tool_read (P := P) (base := base) Fx K_names_in K_Row_read K_Tool_init F_Tool_read) fun _ _ _ _ _ _ us hl => match us, hl with | [_, _], _ => rfl
  have K_alike := kept0 F_alike (ok_alike (P := P) (base := base) Fx K_parting F_alike) fun _ _ _ _ _ _ us hl => match us, hl with | [_, _], _ => rfl
  have K_merged := kept0 F_merged (ok_merged (P := P) (base := base) Fx K_heads_of K_Row_init K_once_each K_Tool_init F_merged) fun _ _ _ _ _ _ us hl => match us, hl with | [_], _ => rfl
  have K__law_text := kept0 F__law_text (ok__law_text (P := P) (base := base) Fx K_Tool_read F__law_text) fun _ _ _ _ _ _ us hl => match us, hl with | [_, _, _, _], _ => rfl
  have K__law_size := kept0 F__law_size (ok__law_size (P := P) (base := base) Fx K_parting K_alike F__law_size) fun _ _ _ _ _ _ us hl => match us, hl with | [_, _], _ => rfl
  have K_Tool_eq := kept0 F_Tool_eq (ok_Tool_eq (P := P) (base := base) Fx K_Tool_str F_Tool_eq) fun _ _ _ _ _ _ us hl => match us, hl with | [_, _], _ => rfl
  exact ok_law (P := P) (base := base) Fx K__law_text K__law_size K_alike K_Tool_eq K_merged K_Tool_str K_parting F_law
def loose0 : List PySem.Str := ["_wall", "WordError", "InvalidRow", "InvalidTool", "InvalidText", "NoRow", "NoMark", "HAPPENINGS", "BARRED", "LETTERS", "MOST_LETTERS", "is_integer", "is_name", "is_sequence", "are_unlike", "is_word", "TAKINGS", "Row", "HEADS", "are_names", "names_in", "Tool", "told_of", "parting", "alike", "heads_of", "numbered", "once_each", "merged", "_law_text"]
def loose1 : List PySem.Str := ["_law_size"]
def looseL : List PySem.Str := loose0 ++ loose1
abbrev Rw : PySem.W.OpenRow := PySem.W.OpenLaw.row PySem.Challenge.rw_wordingkept_k57_comparing_known_by_hand
abbrev Vw : Program := PySem.W.view Rw.prog [37]
abbrev hkL : PySem.W.Hook := hookR 1500 tsL dsL xsL
def obL (s : PySem.W.SharedT) : AlB := obsXR 1500 tsL dsL xsL (HandSHeadRun.getT s)
theorem obL_eq (s : PySem.W.SharedT) : obL s = hkL.obs s.abs := obsXR_eq (HandSHeadRun.getT_eq s)
section
open PySem.W PySem.Calls
theorem runL1 (w : World) (os : OsState) : (HandSHeadRun.endF (HandSHeadRun.stepQ (HandSHeadRun.denQ HandSHeadRun.tabQ) Rw.prog w) 60000 Rw.prog w os).map (fun s => HandSHeadRun.looksF Rw.prog (boot_heap w.params) s.abs) = some true := by kernel_rfl
theorem runL2 (w : World) (os : OsState) : (HandSHeadRun.endF (HandSHeadRun.stepQ (HandSHeadRun.denQ HandSHeadRun.tabQ) Rw.prog w) 60000 Rw.prog w os).map (fun s => HandSHeadRun.seenQ Vw looseL (importedModules Rw.prog.main.body) (fun s => xlAt Vw [] s && recOk Rw.toRowW.records s) s.abs) = some (openGood Vw looseL) := by kernel_rfl
theorem runO0 (w : World) (os : OsState) : (HandSHeadRun.endF (HandSHeadRun.stepQ (HandSHeadRun.denQ HandSHeadRun.tabQ) Rw.prog w) 60000 Rw.prog w os).map (fun s => obsXR 1500 tsL dsL xsL (HandSHeadRun.getT s)) = some (valX dsL xsL) := by kernel_rfl
theorem runL (w : World) : HandSHeadRun.RunEq Rw Vw hkL obL 60000 looseL w := runEq_of (runL1 w) (runL2 w) fun os => runO0 w os
end
end Lw
set_option Elab.async false
set_option linter.all false
set_option maxRecDepth 100000
set_option maxHeartbeats 4000000
/-! The law, statement by statement: no cell of the script is looked at, so the kernel runs it. -/
namespace Lw
open PySem PySem.Spec L2 Bv
open PyProof.Rows hiding St
variable [HasW]
def rw57 (r : Str × Str × Str × Bool) : D := .obj "Row" [("word", .str r.1), ("old", .str r.2.1), ("then", .str r.2.2.1), ("take", .bl r.2.2.2)]
def tl57 (ms sh as : List Str) (m0 : Str) (rows : List (Str × Str × Str × Bool)) : D := .obj "Tool" [("marks", .tup (ms.map D.str)), ("shown", .tup (sh.map D.str)), ("asked", .tup (as.map D.str)), ("rows", .tup (rows.map rw57)), ("blank", .str m0)]
def sD (l : List Str) : D := .lst (l.map D.str)
def pr57 (t : D) (i : Int) : Bv.X := .d (.tup [t, .int i])
theorem seq_go {m1 m2 : MS} {e e1 : Ev} {S S1 : Sto} {r : RO} (h1 : m1 e S = .go (.nx e1) S1) (h2 : m2 e1 S1 = r) : s_seq m1 m2 e S = r := by
  unfold s_seq
  rw [h1]
  exact h2
def T1 : D := tl57 ["none", "doubt", "good"] ["good"] ["none"] "none" [("give", "any", "good", true), ("carry", "any", "doubt", true), ("right", "any", "good", true), ("wrong", "any", "none", true)]
def T2 : D := tl57 ["none", "doubt", "good"] ["good"] ["none"] "none" [("wrong", "any", "none", true), ("right", "any", "good", true), ("carry", "any", "doubt", true), ("give", "any", "good", true)]
def T3 : D := tl57 ["none", "good", "doubt"] ["good"] ["none"] "none" [("give", "any", "good", true), ("carry", "any", "doubt", true), ("right", "any", "good", true), ("wrong", "any", "none", true), ("give", "good", "doubt", false)]
def T4 : D := tl57 ["none", "doubt", "good"] ["good"] [] "none" [("give", "any", "good", true), ("carry", "any", "doubt", true), ("right", "any", "good", true), ("wrong", "any", "none", true)]
def T5 : D := tl57 ["none", "doubt", "good"] ["doubt", "good"] ["none"] "none" [("give", "any", "good", true), ("carry", "any", "doubt", true), ("right", "any", "good", true), ("wrong", "any", "none", true)]
def T6 : D := tl57 ["none", "doubt", "good"] ["good"] ["none"] "none" [("give", "any", "good", false), ("carry", "any", "doubt", true), ("right", "any", "good", true), ("wrong", "any", "none", true)]
def T7 : D := tl57 ["none", "doubt", "good"] ["good"] ["none"] "none" [("give", "none", "good", true), ("carry", "any", "doubt", true), ("right", "any", "good", true), ("wrong", "any", "none", true)]
def T8 : D := tl57 ["none", "doubt", "good"] ["good"] ["none"] "none" [("give", "any", "good", true), ("right", "any", "good", true), ("wrong", "any", "none", true)]
def T9 : D := tl57 ["none", "doubt", "good"] ["good"] ["none"] "none" [("give", "any", "good", true), ("carry", "any", "doubt", true), ("right", "any", "good", true)]
def T10 : D := tl57 ["none", "doubt", "good"] ["good"] ["none"] "none" [("give", "any", "good", true), ("carry", "any", "doubt", true), ("right", "doubt", "doubt", true), ("right", "any", "good", true), ("wrong", "any", "none", true)]
def T11 : D := tl57 ["none", "doubt", "good"] ["good"] ["none"] "none" [("give", "any", "good", true), ("carry", "any", "doubt", true), ("right", "any", "good", true), ("wrong", "any", "none", true), ("drop", "any", "none", true)]
def T12 : D := tl57 ["none", "doubt", "good"] ["good"] ["none"] "none" [("give", "any", "good", true), ("carry", "any", "doubt", true), ("right", "any", "good", true), ("wrong", "any", "none", true), ("back", "doubt", "none", true)]
def T13 : D := tl57 ["none", "doubt", "good", "fine"] ["good", "fine"] ["none"] "none" [("give", "any", "fine", true), ("carry", "any", "doubt", true), ("right", "any", "good", true), ("wrong", "any", "none", true)]
def T14 : D := tl57 ["a", "b", "c"] ["c"] ["a", "b"] "a" []
def q1 : MS := s_set 1 (m_lst (m_cons (m_c (.str "give any take to good")) (m_cons (m_c (.str "carry any to doubt")) (m_cons (m_c (.str "right any to good")) (m_cons (m_c (.str "wrong any to none")) (m_nil))))))
def q2 : MS := s_set 2 (m_call (arity 4 (withD [] (callP g__law_text))) (m_cons (m_var 1) (m_cons (m_c (.str "none doubt good")) (m_cons (m_c (.str "good")) (m_cons (m_c (.str "none")) (m_nil))))))
def q3 : MS := s_set 3 (m_lstN (m_cons (m_tup (m_cons (m_var 2) (m_cons (m_op2 subD (m_c (.int 0)) (m_c (.int 1))) (m_nil)))) (m_cons (m_tup (m_cons (m_call (arity 4 (withD [] (callP g__law_text))) (m_cons (m_rev (m_var 1)) (m_cons (m_c (.str "none doubt good")) (m_cons (m_c (.str "good")) (m_cons (m_c (.str "none")) (m_nil)))))) (m_cons (m_op2 subD (m_c (.int 0)) (m_c (.int 1))) (m_nil)))) (m_nil))))
def q4 : MS := s_expr (m_bm isLst g_append (m_var 3) (m_cons (m_tup (m_cons (m_call (arity 4 (withD [] (callP g__law_text))) (m_cons (m_op2 addD (m_var 1) (m_lst (m_cons (m_c (.str "give good keep to doubt")) (m_nil)))) (m_cons (m_c (.str "none good doubt")) (m_cons (m_c (.str "good")) (m_cons (m_c (.str "none")) (m_nil)))))) (m_cons (m_op2 subD (m_c (.int 0)) (m_c (.int 1))) (m_nil)))) (m_nil)))
def q5 : MS := s_expr (m_bm isLst g_append (m_var 3) (m_cons (m_tup (m_cons (m_call (arity 4 (withD [] (callP g__law_text))) (m_cons (m_var 1) (m_cons (m_c (.str "none doubt good")) (m_cons (m_c (.str "good")) (m_cons (m_c (.str "")) (m_nil)))))) (m_cons (m_c (.int 0)) (m_nil)))) (m_nil)))
def q6 : MS := s_expr (m_bm isLst g_append (m_var 3) (m_cons (m_tup (m_cons (m_call (arity 4 (withD [] (callP g__law_text))) (m_cons (m_var 1) (m_cons (m_c (.str "none doubt good")) (m_cons (m_c (.str "good doubt")) (m_cons (m_c (.str "none")) (m_nil)))))) (m_cons (m_c (.int 2)) (m_nil)))) (m_nil)))
def q7 : MS := s_expr (m_bm isLst g_append (m_var 3) (m_cons (m_tup (m_cons (m_call (arity 4 (withD [] (callP g__law_text))) (m_cons (m_op2 addD (m_lst (m_cons (m_c (.str "give any keep to good")) (m_nil))) (m_slice (m_var 1) (m_part (m_c (.int 1))) (m_no))) (m_cons (m_c (.str "none doubt good")) (m_cons (m_c (.str "good")) (m_cons (m_c (.str "none")) (m_nil)))))) (m_cons (m_c (.int 1)) (m_nil)))) (m_nil)))
def q8 : MS := s_expr (m_bm isLst g_append (m_var 3) (m_cons (m_tup (m_cons (m_call (arity 4 (withD [] (callP g__law_text))) (m_cons (m_op2 addD (m_lst (m_cons (m_c (.str "give none take to good")) (m_nil))) (m_slice (m_var 1) (m_part (m_c (.int 1))) (m_no))) (m_cons (m_c (.str "none doubt good")) (m_cons (m_c (.str "good")) (m_cons (m_c (.str "none")) (m_nil)))))) (m_cons (m_c (.int 2)) (m_nil)))) (m_nil)))
def q9 : MS := s_expr (m_bm isLst g_append (m_var 3) (m_cons (m_tup (m_cons (m_call (arity 4 (withD [] (callP g__law_text))) (m_cons (m_op2 addD (m_slice (m_var 1) (m_no) (m_part (m_c (.int 1)))) (m_slice (m_var 1) (m_part (m_c (.int 2))) (m_no))) (m_cons (m_c (.str "none doubt good")) (m_cons (m_c (.str "good")) (m_cons (m_c (.str "none")) (m_nil)))))) (m_cons (m_c (.int 2)) (m_nil)))) (m_nil)))
def q10 : MS := s_expr (m_bm isLst g_append (m_var 3) (m_cons (m_tup (m_cons (m_call (arity 4 (withD [] (callP g__law_text))) (m_cons (m_slice (m_var 1) (m_no) (m_part (m_c (.int 3)))) (m_cons (m_c (.str "none doubt good")) (m_cons (m_c (.str "good")) (m_cons (m_c (.str "none")) (m_nil)))))) (m_cons (m_c (.int 2)) (m_nil)))) (m_nil)))
def q11 : MS := s_expr (m_bm isLst g_append (m_var 3) (m_cons (m_tup (m_cons (m_call (arity 4 (withD [] (callP g__law_text))) (m_cons (m_op2 addD (m_op2 addD (m_slice (m_var 1) (m_no) (m_part (m_c (.int 2)))) (m_lst (m_cons (m_c (.str "right doubt to doubt")) (m_nil)))) (m_slice (m_var 1) (m_part (m_c (.int 2))) (m_no))) (m_cons (m_c (.str "none doubt good")) (m_cons (m_c (.str "good")) (m_cons (m_c (.str "none")) (m_nil)))))) (m_cons (m_c (.int 3)) (m_nil)))) (m_nil)))
def q12 : MS := s_expr (m_bm isLst g_append (m_var 3) (m_cons (m_tup (m_cons (m_call (arity 4 (withD [] (callP g__law_text))) (m_cons (m_op2 addD (m_var 1) (m_lst (m_cons (m_c (.str "drop any to none")) (m_nil)))) (m_cons (m_c (.str "none doubt good")) (m_cons (m_c (.str "good")) (m_cons (m_c (.str "none")) (m_nil)))))) (m_cons (m_c (.int 2)) (m_nil)))) (m_nil)))
def q13 : MS := s_expr (m_bm isLst g_append (m_var 3) (m_cons (m_tup (m_cons (m_call (arity 4 (withD [] (callP g__law_text))) (m_cons (m_op2 addD (m_var 1) (m_lst (m_cons (m_c (.str "back doubt to none")) (m_nil)))) (m_cons (m_c (.str "none doubt good")) (m_cons (m_c (.str "good")) (m_cons (m_c (.str "none")) (m_nil)))))) (m_cons (m_c (.int 3)) (m_nil)))) (m_nil)))
def q14 : MS := s_for (.tp [(.nm 4), (.nm 5)]) (i_val (m_var 3)) (s_if (m_tb (m_op2 neD (m_call (arity 2 (withD [] (callP g__law_size))) (m_cons (m_var 2) (m_cons (m_var 4) (m_nil)))) (m_var 5))) (s_retP (m_c (.bl false))) (s_nil))
def q15 : MS := s_set 6 (m_lc (.nm 9) (i_val (m_var 1)) (b_true) (m_repl "none" "void" (m_repl "doubt" "weak" (m_repl "good" "fine" (m_var 9)))) [9])
def q16 : MS := s_if (m_orb (m_notb (m_truth (m_call (arity 2 (withD [] (callP g_alike))) (m_cons (m_var 2) (m_cons (m_call (arity 4 (withD [] (callP g__law_text))) (m_cons (m_var 6) (m_cons (m_c (.str "void fine weak")) (m_cons (m_c (.str "fine")) (m_cons (m_c (.str "void")) (m_nil)))))) (m_nil)))))) (m_tb (m_op2 (eqO "Tool" g_Tool_eq true) (m_call (arity 1 (withD [] (callP g_merged))) (m_cons (m_var 2) (m_nil))) (m_var 2)))) (s_retP (m_c (.bl false))) (s_nil)
def q17 : MS := s_set 7 (m_call (arity 4 (withD [] (callP g__law_text))) (m_cons (m_op2 addD (m_lst (m_cons (m_c (.str "give any take to fine")) (m_nil))) (m_slice (m_var 1) (m_part (m_c (.int 1))) (m_no))) (m_cons (m_c (.str "none doubt good fine")) (m_cons (m_c (.str "good fine")) (m_cons (m_c (.str "none")) (m_nil))))))
def q18 : MS := s_if (m_orb (m_notb (m_truth (m_call (arity 2 (withD [] (callP g_alike))) (m_cons (m_var 7) (m_cons (m_var 2) (m_nil)))))) (m_orb (m_tb (m_op2 (eqO "Tool" g_Tool_eq true) (m_call (arity 1 (withD [] (callP g_merged))) (m_cons (m_var 7) (m_nil))) (m_var 2))) (m_tb (m_op2 (eqO "Tool" g_Tool_eq true) (m_call (arity 1 (withD [] (callP g_merged))) (m_cons (m_call (arity 1 (withD [] (callP g_merged))) (m_cons (m_var 7) (m_nil))) (m_nil))) (m_var 2))))) (s_retP (m_c (.bl false))) (s_nil)
def q19 : MS := s_set 8 (m_call (arity 4 (withD [] (callP g__law_text))) (m_cons (m_lst (m_nil)) (m_cons (m_c (.str "a b c")) (m_cons (m_c (.str "c")) (m_cons (m_c (.str "a b")) (m_nil))))))
def q20 : MS := s_retP (m_and (m_op2 eqD (m_call (g_strO "Tool" g_Tool_str) (m_cons (m_call (arity 1 (withD [] (callP g_merged))) (m_cons (m_var 8) (m_nil))) (m_nil))) (m_c (.str "marks a b c\nshown c\nasked a b"))) (m_op2 isD (m_call (arity 2 (withD [] (callP g_parting))) (m_cons (m_var 2) (m_cons (m_var 2) (m_nil)))) (m_c .non)))
theorem law_is : b_law = s_seq q1 (s_seq q2 (s_seq q3 (s_seq q4 (s_seq q5 (s_seq q6 (s_seq q7 (s_seq q8 (s_seq q9 (s_seq q10 (s_seq q11 (s_seq q12 (s_seq q13 (s_seq q14 (s_seq q15 (s_seq q16 (s_seq q17 (s_seq q18 (s_seq q19 (q20))))))))))))))))))) := rfl
def e0 (x : D) : Ev := [some (.d x), none, none, none, none, none, none, none, none, none]
def S0 : Sto := []
def e1 (x : D) : Ev := [some (.d x), some (.d (sD ["give any take to good", "carry any to doubt", "right any to good", "wrong any to none"])), none, none, none, none, none, none, none, none]
def S1 : Sto := []
theorem k1 (x : D) : q1 (e0 x) S0 = .go (.nx (e1 x)) S1 := by kernel_rfl
def e2 (x : D) : Ev := [some (.d x), some (.d (sD ["give any take to good", "carry any to doubt", "right any to good", "wrong any to none"])), some (.d T1), none, none, none, none, none, none, none]
def S2 : Sto := []
theorem k2 (x : D) : q2 (e1 x) S1 = .go (.nx (e2 x)) S2 := by kernel_rfl
def e3 (x : D) : Ev := [some (.d x), some (.d (sD ["give any take to good", "carry any to doubt", "right any to good", "wrong any to none"])), some (.d T1), some (.r 0), none, none, none, none, none, none]
def S3 : Sto := [.lst [pr57 T1 (-1), pr57 T2 (-1)]]
theorem k3 (x : D) : q3 (e2 x) S2 = .go (.nx (e3 x)) S3 := by kernel_rfl
def e4 (x : D) : Ev := [some (.d x), some (.d (sD ["give any take to good", "carry any to doubt", "right any to good", "wrong any to none"])), some (.d T1), some (.r 0), none, none, none, none, none, none]
def S4 : Sto := [.lst [pr57 T1 (-1), pr57 T2 (-1), pr57 T3 (-1)]]
theorem k4 (x : D) : q4 (e3 x) S3 = .go (.nx (e4 x)) S4 := by kernel_rfl
def e5 (x : D) : Ev := [some (.d x), some (.d (sD ["give any take to good", "carry any to doubt", "right any to good", "wrong any to none"])), some (.d T1), some (.r 0), none, none, none, none, none, none]
def S5 : Sto := [.lst [pr57 T1 (-1), pr57 T2 (-1), pr57 T3 (-1), pr57 T4 0]]
theorem k5 (x : D) : q5 (e4 x) S4 = .go (.nx (e5 x)) S5 := by kernel_rfl
def e6 (x : D) : Ev := [some (.d x), some (.d (sD ["give any take to good", "carry any to doubt", "right any to good", "wrong any to none"])), some (.d T1), some (.r 0), none, none, none, none, none, none]
def S6 : Sto := [.lst [pr57 T1 (-1), pr57 T2 (-1), pr57 T3 (-1), pr57 T4 0, pr57 T5 2]]
theorem k6 (x : D) : q6 (e5 x) S5 = .go (.nx (e6 x)) S6 := by kernel_rfl
def e7 (x : D) : Ev := [some (.d x), some (.d (sD ["give any take to good", "carry any to doubt", "right any to good", "wrong any to none"])), some (.d T1), some (.r 0), none, none, none, none, none, none]
def S7 : Sto := [.lst [pr57 T1 (-1), pr57 T2 (-1), pr57 T3 (-1), pr57 T4 0, pr57 T5 2, pr57 T6 1]]
theorem k7 (x : D) : q7 (e6 x) S6 = .go (.nx (e7 x)) S7 := by kernel_rfl
def e8 (x : D) : Ev := [some (.d x), some (.d (sD ["give any take to good", "carry any to doubt", "right any to good", "wrong any to none"])), some (.d T1), some (.r 0), none, none, none, none, none, none]
def S8 : Sto := [.lst [pr57 T1 (-1), pr57 T2 (-1), pr57 T3 (-1), pr57 T4 0, pr57 T5 2, pr57 T6 1, pr57 T7 2]]
theorem k8 (x : D) : q8 (e7 x) S7 = .go (.nx (e8 x)) S8 := by kernel_rfl
def e9 (x : D) : Ev := [some (.d x), some (.d (sD ["give any take to good", "carry any to doubt", "right any to good", "wrong any to none"])), some (.d T1), some (.r 0), none, none, none, none, none, none]
def S9 : Sto := [.lst [pr57 T1 (-1), pr57 T2 (-1), pr57 T3 (-1), pr57 T4 0, pr57 T5 2, pr57 T6 1, pr57 T7 2, pr57 T8 2]]
theorem k9 (x : D) : q9 (e8 x) S8 = .go (.nx (e9 x)) S9 := by kernel_rfl
def e10 (x : D) : Ev := [some (.d x), some (.d (sD ["give any take to good", "carry any to doubt", "right any to good", "wrong any to none"])), some (.d T1), some (.r 0), none, none, none, none, none, none]
def S10 : Sto := [.lst [pr57 T1 (-1), pr57 T2 (-1), pr57 T3 (-1), pr57 T4 0, pr57 T5 2, pr57 T6 1, pr57 T7 2, pr57 T8 2, pr57 T9 2]]
theorem k10 (x : D) : q10 (e9 x) S9 = .go (.nx (e10 x)) S10 := by kernel_rfl
def e11 (x : D) : Ev := [some (.d x), some (.d (sD ["give any take to good", "carry any to doubt", "right any to good", "wrong any to none"])), some (.d T1), some (.r 0), none, none, none, none, none, none]
def S11 : Sto := [.lst [pr57 T1 (-1), pr57 T2 (-1), pr57 T3 (-1), pr57 T4 0, pr57 T5 2, pr57 T6 1, pr57 T7 2, pr57 T8 2, pr57 T9 2, pr57 T10 3]]
theorem k11 (x : D) : q11 (e10 x) S10 = .go (.nx (e11 x)) S11 := by kernel_rfl
def e12 (x : D) : Ev := [some (.d x), some (.d (sD ["give any take to good", "carry any to doubt", "right any to good", "wrong any to none"])), some (.d T1), some (.r 0), none, none, none, none, none, none]
def S12 : Sto := [.lst [pr57 T1 (-1), pr57 T2 (-1), pr57 T3 (-1), pr57 T4 0, pr57 T5 2, pr57 T6 1, pr57 T7 2, pr57 T8 2, pr57 T9 2, pr57 T10 3, pr57 T11 2]]
theorem k12 (x : D) : q12 (e11 x) S11 = .go (.nx (e12 x)) S12 := by kernel_rfl
def e13 (x : D) : Ev := [some (.d x), some (.d (sD ["give any take to good", "carry any to doubt", "right any to good", "wrong any to none"])), some (.d T1), some (.r 0), none, none, none, none, none, none]
def S13 : Sto := [.lst [pr57 T1 (-1), pr57 T2 (-1), pr57 T3 (-1), pr57 T4 0, pr57 T5 2, pr57 T6 1, pr57 T7 2, pr57 T8 2, pr57 T9 2, pr57 T10 3, pr57 T11 2, pr57 T12 3]]
theorem k13 (x : D) : q13 (e12 x) S12 = .go (.nx (e13 x)) S13 := by kernel_rfl
def e14 (x : D) : Ev := [some (.d x), some (.d (sD ["give any take to good", "carry any to doubt", "right any to good", "wrong any to none"])), some (.d T1), some (.r 0), some (.d T12), some (.d (.int 3)), none, none, none, none]
def S14 : Sto := [.lst [pr57 T1 (-1), pr57 T2 (-1), pr57 T3 (-1), pr57 T4 0, pr57 T5 2, pr57 T6 1, pr57 T7 2, pr57 T8 2, pr57 T9 2, pr57 T10 3, pr57 T11 2, pr57 T12 3]]
theorem k14 (x : D) : q14 (e13 x) S13 = .go (.nx (e14 x)) S14 := by kernel_rfl
def e15 (x : D) : Ev := [some (.d x), some (.d (sD ["give any take to good", "carry any to doubt", "right any to good", "wrong any to none"])), some (.d T1), some (.r 0), some (.d T12), some (.d (.int 3)), some (.d (sD ["give any take to fine", "carry any to weak", "right any to fine", "wrong any to void"])), none, none, none]
def S15 : Sto := [.lst [pr57 T1 (-1), pr57 T2 (-1), pr57 T3 (-1), pr57 T4 0, pr57 T5 2, pr57 T6 1, pr57 T7 2, pr57 T8 2, pr57 T9 2, pr57 T10 3, pr57 T11 2, pr57 T12 3]]
theorem k15 (x : D) : q15 (e14 x) S14 = .go (.nx (e15 x)) S15 := by kernel_rfl
theorem M1 : g_merged [T1] = .ok T1 := by kernel_rfl
theorem E11 : eqO "Tool" g_Tool_eq true T1 T1 = some (.bl false) := by kernel_rfl
def e16 (x : D) : Ev := [some (.d x), some (.d (sD ["give any take to good", "carry any to doubt", "right any to good", "wrong any to none"])), some (.d T1), some (.r 0), some (.d T12), some (.d (.int 3)), some (.d (sD ["give any take to fine", "carry any to weak", "right any to fine", "wrong any to void"])), none, none, none]
def S16 : Sto := [.lst [pr57 T1 (-1), pr57 T2 (-1), pr57 T3 (-1), pr57 T4 0, pr57 T5 2, pr57 T6 1, pr57 T7 2, pr57 T8 2, pr57 T9 2, pr57 T10 3, pr57 T11 2, pr57 T12 3]]
theorem k16 (x : D) : q16 (e15 x) S15 = .go (.nx (e16 x)) S16 := st_iff (ev_orf (ev_nott (ev_truth (x := .d (.bl true)) (S1 := S15) (by kernel_rfl) rfl)) (ev_tb (ev_op2 (ev_call (ev_cons (ev_var rfl) ev_nil) (ev_def rfl (ev_P1 M1))) (ev_var rfl) rfl rfl E11))) st_nil
def e17 (x : D) : Ev := [some (.d x), some (.d (sD ["give any take to good", "carry any to doubt", "right any to good", "wrong any to none"])), some (.d T1), some (.r 0), some (.d T12), some (.d (.int 3)), some (.d (sD ["give any take to fine", "carry any to weak", "right any to fine", "wrong any to void"])), some (.d T13), none, none]
def S17 : Sto := [.lst [pr57 T1 (-1), pr57 T2 (-1), pr57 T3 (-1), pr57 T4 0, pr57 T5 2, pr57 T6 1, pr57 T7 2, pr57 T8 2, pr57 T9 2, pr57 T10 3, pr57 T11 2, pr57 T12 3]]
theorem k17 (x : D) : q17 (e16 x) S16 = .go (.nx (e17 x)) S17 := by kernel_rfl
theorem A13 : g_alike [T13, T1] = .ok (.bl true) := by kernel_rfl
theorem M13 : g_merged [T13] = .ok T1 := by kernel_rfl
def e18 (x : D) : Ev := [some (.d x), some (.d (sD ["give any take to good", "carry any to doubt", "right any to good", "wrong any to none"])), some (.d T1), some (.r 0), some (.d T12), some (.d (.int 3)), some (.d (sD ["give any take to fine", "carry any to weak", "right any to fine", "wrong any to void"])), some (.d T13), none, none]
def S18 : Sto := [.lst [pr57 T1 (-1), pr57 T2 (-1), pr57 T3 (-1), pr57 T4 0, pr57 T5 2, pr57 T6 1, pr57 T7 2, pr57 T8 2, pr57 T9 2, pr57 T10 3, pr57 T11 2, pr57 T12 3]]
theorem k18 (x : D) : q18 (e17 x) S17 = .go (.nx (e18 x)) S18 := st_iff (ev_orf (ev_nott (ev_truth (ev_call (ev_cons (ev_var rfl) (ev_cons (ev_var rfl) ev_nil)) (ev_def rfl (ev_P2 A13))) rfl)) (ev_orf (ev_tb (ev_op2 (ev_call (ev_cons (ev_var rfl) ev_nil) (ev_def rfl (ev_P1 M13))) (ev_var rfl) rfl rfl E11)) (ev_tb (ev_op2 (ev_call (ev_cons (ev_call (ev_cons (ev_var rfl) ev_nil) (ev_def rfl (ev_P1 M13))) ev_nil) (ev_def rfl (ev_P1 M1))) (ev_var rfl) rfl rfl E11)))) st_nil
def e19 (x : D) : Ev := [some (.d x), some (.d (sD ["give any take to good", "carry any to doubt", "right any to good", "wrong any to none"])), some (.d T1), some (.r 0), some (.d T12), some (.d (.int 3)), some (.d (sD ["give any take to fine", "carry any to weak", "right any to fine", "wrong any to void"])), some (.d T13), some (.d T14), none]
def S19 : Sto := [.lst [pr57 T1 (-1), pr57 T2 (-1), pr57 T3 (-1), pr57 T4 0, pr57 T5 2, pr57 T6 1, pr57 T7 2, pr57 T8 2, pr57 T9 2, pr57 T10 3, pr57 T11 2, pr57 T12 3]]
theorem k19 (x : D) : q19 (e18 x) S18 = .go (.nx (e19 x)) S19 := by kernel_rfl
theorem k20 (x : D) : q20 (e19 x) S19 = .go (.rp (.bl true)) S19 := by kernel_rfl
theorem law_run (x : D) : b_law (e0 x) S0 = .go (.rp (.bl true)) S19 := by
  rw [law_is]
  exact seq_go (k1 x) (seq_go (k2 x) (seq_go (k3 x) (seq_go (k4 x) (seq_go (k5 x) (seq_go (k6 x) (seq_go (k7 x) (seq_go (k8 x) (seq_go (k9 x) (seq_go (k10 x) (seq_go (k11 x) (seq_go (k12 x) (seq_go (k13 x) (seq_go (k14 x) (seq_go (k15 x) (seq_go (k16 x) (seq_go (k17 x) (seq_go (k18 x) (seq_go (k19 x) (k20 x)))))))))))))))))))
theorem plain_any (x : D) : g_law [x] = .ok (.bl true) := by
  show endP (b_law (e0 x) S0) = _
  rw [law_run]
  rfl
theorem plain (ns : List Int) (hl : ns.length ≤ 63) : g_law [.scr ns] = .ok (.bl true) := plain_any _
end Lw
set_option Elab.async false
set_option linter.all false
set_option maxRecDepth 100000
set_option maxHeartbeats 0
namespace Lw
end Lw
open PySem PySem.W PySem.Calls PyProof.Rows
theorem PySem.Challenge.cw_wordingkept_k57_comparing_known_by_hand_holds : PySem.Challenge.rw_wordingkept_k57_comparing_known_by_hand.Holds := by
  w_on; o_law
  refine HandSHeadRun.head_any (r := Lw.Rw) (q := Lw.Vw) (H := Lw.hkL) (ob := Lw.obL) (M := 60000) (loose := Lw.looseL) (d := HandSHeadRun.topDef Lw.Rw.prog 37) (kwd := []) Lw.obL_eq
    (by kernel_rfl) (fun s => by kernel_rfl) Lw.runL (by kernel_rfl) (by kernel_rfl) (by kernel_rfl) (by rfl) (by first | assumption | decide +kernel) (by decide +kernel) ⟨rfl, rfl, rfl, rfl, rfl, by decide +kernel⟩ ?hw ?hc
  case hw => w_witness2
  case hc =>
    refine Bv.walk_ofG (l := PySem.Challenge.rw_wordingkept_k57_comparing_known_by_hand) (n := 63) (k := 9) (x := "_law_script") rfl (by decide) (by kernel_rfl) ⟨rfl, by decide, by decide⟩ ?F
    intro w mg fa h Y G hmg0
    obtain ⟨K, KX, c⟩ := Y
    have hmg : mg ("law" : PySem.Str) = some (.ref fa) := by
      have e : (HandSHeadRun.topDef Lw.Rw.prog 37).name = ("law" : PySem.Str) := by kernel_rfl
      rw [← e]
      exact hmg0
    letI : Bv.HasW := ⟨w⟩
    obtain ⟨fd, hb, hF⟩ := Lw.all (P := (PySem.Challenge.rw_wordingkept_k57_comparing_known_by_hand).prog) KX G c (by kernel_rfl) (by kernel_rfl) hmg
    exact ⟨K, fd, Bv.spP K 1 Lw.g_law, KX, hb, fun H a ns hl only hS => Bv.law_sp Lw.plain H a ns hl only hS, hF⟩
