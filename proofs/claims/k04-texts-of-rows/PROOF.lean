import PyProof.Rows.All
import Wide.All
import OpenK.AllK
import Wide.FinOn
import HandS.ForMost
import HandS.Exc
import HandS.WordsExc
import HandS.IsInst
import HandS.Flow
import HandS.HeadHook1
import KE.KDictCopyH
import HandS.TupAny
import HandS.Deep
import HandS.Wide
import HandS.Star
import HandS.Walk
import HandS.ExcOwn
import HandS.ExcCtx
import HandS.SuiteRaise
import HandS.RaiseFrom
import KE.KExcRaise
import HandS.CallSlots
import HandS.Defaults
import HandS.HeadEnd
import HandS.Dict
import HandS.More
import HandS.List
import HandS.Text
import HandS.Style
import HandS.RaiseMore
import PyProof.ReprRoads
import HandS.NamedTupSort
import HandS.OwnEq
import KE.KCallOwn
import KE.KFmtOwn
import PyProof.InstNe
import HandS.HeadHook2
import HandS.ClsMeth
import HandS.Strs
import KE.GoesMore
import PyProof.Draws
import PyProof.EnumMake
import KE.GoesZip
import HandS.ExcInit
import KE.KExcInit
import KE.KExcSuper
import KE.KExcIs
import HandS.ExcIs
import HandS.ExcField
import OpenK.KOps
import OpenK.KMeth
import Lean
import KE.KStateDown
import HandS.Head0
import HandS.Head1
import HandS.Head2
import PySem.Challenge.RW_wordingkept_k04_texts_of_rows
set_option Elab.async false
set_option linter.all false
set_option maxRecDepth 100000
set_option maxHeartbeats 4000000
/-! By value: the data that a program hands about, the store of what it changes, and how both stand in the layer's heap. -/
namespace Bv
open PySem PySem.Spec L2
open PyProof.Rows hiding St
/-- the world of the run (its hashes) -/
class HasW where
  w : World
variable [HasW]

/-- data that nobody changes -/
inductive D where
  | non | bl (b : Bool) | int (i : Int) | str (x : Str)
  | tup (ds : List D) | lst (ds : List D) | dic (kvs : List (D × D))
  | obj (C : Str) (fs : List (Str × D)) | gl (x : Str) | scr (ns : List Int)
/-- a value: data, or the number of a thing in the store -/
inductive X where
  | d (v : D) | r (n : Nat)
/-- a thing that is changed -/
inductive O where
  | lst (xs : List X) | dic (kvs : List (D × X)) | ins (C : Str) (fs : List (Str × X))
  /-- a dict that stays as it is; a dict whose keys are tuples -/
  | fdc (kvs : List (D × X)) | tdc (kvs : List (D × X))
abbrev Sto := List O
abbrev Ev := List (Option X)
/-- what comes of a step -/
inductive R (α : Type) where
  | ok (a : α) (S : Sto) | err (C : Str) (fs : List (Str × D)) (S : Sto) | bad

def D.key? : D → Option Key
  | .int i => some (.inl i)
  | .str x => some (.inr x)
  | _ => none
/-- a leaf of a tuple that is a key -/
def D.leaf? : D → Option Leaf
  | .non => some .none
  | .bl b => some (.num (if b = true then 1 else 0))
  | .int i => some (.num i)
  | .str x => some (.text x)
  | _ => none
def leafs? : List D → Option (List Leaf)
  | [] => some []
  | d :: r => match d.leaf?, leafs? r with
    | some k, some l => some (k :: l)
    | _, _ => none
def D.tkey? : D → Option (List Leaf)
  | .tup ds => leafs? ds
  | _ => none
/-- a dict with such keys, as it lies in the heap -/
def lHash (ks : List Leaf) : Int := reduceHash (Builtin.Tuple.tupleHashOf (ks.map fun k => k.key.hash HasW.w))
def TDx (a : Addr) (xs : List (List Leaf × Addr × V)) (h : Heap) : Prop := (a == sysModules) = false ∧ ∃ ys : List (List Leaf × Addr × Value), Paired (fun p q => p.1 = q.1 ∧ p.2.1 = q.2.1 ∧ RelV p.2.2 q.2.2) xs ys ∧
  ∃ o es ep, h.get? a = some o ∧ o.ExactDict ∧ o.data = .dict es ep ∧ es.toList = ys.map (fun x => (⟨lHash x.1, .ref x.2.1, x.2.2⟩ : DictEntry)) ∧ (ys.map (·.1)).Nodup
abbrev TDo (a : Addr) (xs : List (List Leaf × Addr × V)) : HO := .ext (TDx a xs)

/-! ### data in the heap -/
abbrev Wd := Addr → Prop
def Wn (Z : Wd) (ρ : List Addr) : Wd := fun a => Z a ∨ a ∈ ρ
/-- a tuple of the written part -/
def KTup (K : PySem.W.Frag) (a : Addr) (xs : List V) : Prop := ∃ (o : Obj) (its : Array Value) (n : Nat), K.lookup a = some o ∧ o.cls = .type "tuple" ∧ o.data = .seq its n ∧ its.size ≤ sizeLine ∧ Vals xs its.toList
def Tp (K : PySem.W.Frag) (W : Wd) (H : Hp) (a : Addr) (xs : List V) : Prop := (¬ W a ∧ H a = some (.tup xs)) ∨ KTup K a xs
theorem Tp.sq {K : PySem.W.Frag} {W : Wd} {H : Hp} {a : Addr} {xs : List V} (h : Tp K W H a xs) : SqT K H a xs := by
  rcases h with ⟨_, h⟩ | h
  · exact .inl (.inl h)
  · exact .inr h

/-- a list that nobody changes: tracked, or of the written part -/
def KLst (K : PySem.W.Frag) (a : Addr) (xs : List V) : Prop := ∃ (o : Obj) (its : Array Value) (n : Nat), K.lookup a = some o ∧ o.cls = .type "list" ∧ o.dict = none ∧ o.data = .seq its n ∧ its.size ≤ sizeLine ∧ Vals xs its.toList
def Lp (K : PySem.W.Frag) (W : Wd) (H : Hp) (a : Addr) (xs : List V) : Prop := (¬ W a ∧ Rd H a (.lst xs)) ∨ KLst K a xs
theorem Lp.sl {K : PySem.W.Frag} {W : Wd} {H : Hp} {a : Addr} {xs : List V} (h : Lp K W H a xs) : SqL K H a xs := by
  rcases h with ⟨_, h⟩ | h
  · exact .inl h
  · exact .inr h

mutual
inductive AV (K : PySem.W.Frag) (W : Wd) (H : Hp) : D → V → Prop
  | non : AV K W H .non .non
  | bl (b : Bool) : AV K W H (.bl b) (.bl b)
  | int (i : Int) : AV K W H (.int i) (.int i)
  | str {x : Str} : PyData.strOk x = true → AV K W H (.str x) (.str x)
  | gl (x : Str) : AV K W H (.gl x) (.ref (He.ga K x))
  | scr {a : Addr} {ns : List Int} : Lp K W H a (ns.map V.int) → AV K W H (.scr ns) (.ref a)
  | tup {a : Addr} {xs : List V} {ds : List D} : Tp K W H a xs → AVs K W H ds xs → AV K W H (.tup ds) (.ref a)
  | lst {a : Addr} {xs : List V} {ds : List D} : ¬ W a → H a = some (.lst xs) → AVs K W H ds xs → AV K W H (.lst ds) (.ref a)
  | dic {a : Addr} {o : Obj} {ks : List (Key × V)} {kvs : List (D × D)} : ¬ W a → H a = some (.frz o (.dK ks)) → AVk K W H kvs ks → AV K W H (.dic kvs) (.ref a)
  | obj {C : Str} {a dx : Addr} {vs : List (Str × V)} {fs : List (Str × D)} : ¬ W a → H a = some (.ins (He.ga K C) dx vs) → AVf K W H fs vs → AV K W H (.obj C fs) (.ref a)
inductive AVs (K : PySem.W.Frag) (W : Wd) (H : Hp) : List D → List V → Prop
  | nil : AVs K W H [] []
  | cons {d : D} {v : V} {ds : List D} {vs : List V} : AV K W H d v → AVs K W H ds vs → AVs K W H (d :: ds) (v :: vs)
inductive AVk (K : PySem.W.Frag) (W : Wd) (H : Hp) : List (D × D) → List (Key × V) → Prop
  | nil : AVk K W H [] []
  | cons {k d : D} {q : Key} {v : V} {ds : List (D × D)} {vs : List (Key × V)} : k.key? = some q → AV K W H d v → AVk K W H ds vs → AVk K W H ((k, d) :: ds) ((q, v) :: vs)
inductive AVf (K : PySem.W.Frag) (W : Wd) (H : Hp) : List (Str × D) → List (Str × V) → Prop
  | nil : AVf K W H [] []
  | cons {f : Str} {d : D} {v : V} {ds : List (Str × D)} {vs : List (Str × V)} : AV K W H d v → AVf K W H ds vs → AVf K W H ((f, d) :: ds) ((f, v) :: vs)
end

/-- from W, H to W', H': what none may write stays so, and stays as it is -/
def Mv (W : Wd) (H : Hp) (W' : Wd) (H' : Hp) : Prop := ∀ a o, ¬ W a → H a = some o → ¬ W' a ∧ H' a = some o
theorem Mv.rd {W W' : Wd} {H H' : Hp} {a : Addr} {u : HO} (m : Mv W H W' H') (h : ¬ W a) (r : Rd H a u) : ¬ W' a ∧ Rd H' a u := by
  rcases r with r | ⟨o, r⟩
  · obtain ⟨h1, h2⟩ := m a _ h r
    exact ⟨h1, .inl h2⟩
  · obtain ⟨h1, h2⟩ := m a _ h r
    exact ⟨h1, .inr ⟨o, h2⟩⟩
theorem Mv.lp {K : PySem.W.Frag} {W W' : Wd} {H H' : Hp} {a : Addr} {xs : List V} (m : Mv W H W' H') (h : Lp K W H a xs) : Lp K W' H' a xs := by
  rcases h with ⟨h1, h2⟩ | h
  · exact .inl (m.rd h1 h2)
  · exact .inr h
theorem Mv.tp {K : PySem.W.Frag} {W W' : Wd} {H H' : Hp} {a : Addr} {xs : List V} (m : Mv W H W' H') (h : Tp K W H a xs) : Tp K W' H' a xs := by
  rcases h with ⟨h1, h2⟩ | h
  · exact .inl (m _ _ h1 h2)
  · exact .inr h
section
variable {K : PySem.W.Frag} {W W' : Wd} {H H' : Hp}
mutual
theorem AV.mv (m : Mv W H W' H') : ∀ {d : D} {v : V}, AV K W H d v → AV K W' H' d v
  | _, _, .non => .non
  | _, _, .bl b => .bl b
  | _, _, .int i => .int i
  | _, _, .str x => .str x
  | _, _, .scr h => .scr (m.lp h)
  | _, _, .gl x => .gl x
  | _, _, .tup h hs => .tup (m.tp h) (AVs.mv m hs)
  | _, _, .lst w h hs => .lst (m _ _ w h).1 (m _ _ w h).2 (AVs.mv m hs)
  | _, _, .dic w h hs => .dic (m _ _ w h).1 (m _ _ w h).2 (AVk.mv m hs)
  | _, _, .obj w h hs => .obj (m _ _ w h).1 (m _ _ w h).2 (AVf.mv m hs)
theorem AVs.mv (m : Mv W H W' H') : ∀ {ds : List D} {vs : List V}, AVs K W H ds vs → AVs K W' H' ds vs
  | _, _, .nil => .nil
  | _, _, .cons h hs => .cons (AV.mv m h) (AVs.mv m hs)
theorem AVk.mv (m : Mv W H W' H') : ∀ {ds : List (D × D)} {vs : List (Key × V)}, AVk K W H ds vs → AVk K W' H' ds vs
  | _, _, .nil => .nil
  | _, _, .cons k h hs => .cons k (AV.mv m h) (AVk.mv m hs)
theorem AVf.mv (m : Mv W H W' H') : ∀ {ds : List (Str × D)} {vs : List (Str × V)}, AVf K W H ds vs → AVf K W' H' ds vs
  | _, _, .nil => .nil
  | _, _, .cons h hs => .cons (AV.mv m h) (AVf.mv m hs)
end
end

/-! ### values and the store -/
/-- the place r of the store stands at the r-th address -/
inductive AX (K : PySem.W.Frag) (W : Wd) (ρ : List Addr) (H : Hp) : X → V → Prop
  | d {v : D} {u : V} : AV K W H v u → AX K W ρ H (.d v) u
  | r {n : Nat} {a : Addr} : ρ[n]? = some a → AX K W ρ H (.r n) (.ref a)
abbrev AXs (K : PySem.W.Frag) (W : Wd) (ρ : List Addr) (H : Hp) : List X → List V → Prop := Paired (AX K W ρ H)
theorem AX.mv {K : PySem.W.Frag} {W W' : Wd} {ρ ρ' : List Addr} {H H' : Hp} (m : Mv W H W' H') (p : ρ <+: ρ') {x : X} {v : V} (h : AX K W ρ H x v) : AX K W' ρ' H' x v := by
  cases h with
  | d h => exact .d (h.mv m)
  | r h =>
    refine .r ?_
    obtain ⟨t, rfl⟩ := p
    rw [List.getElem?_append_left (List.getElem?_eq_some_iff.mp h).1]
    exact h
theorem AXs.mv {K : PySem.W.Frag} {W W' : Wd} {ρ ρ' : List Addr} {H H' : Hp} (m : Mv W H W' H') (p : ρ <+: ρ') {xs : List X} {vs : List V} (h : AXs K W ρ H xs vs) : AXs K W' ρ' H' xs vs := Paired.mapP h fun _ _ q => q.mv m p

def AO (K : PySem.W.Frag) (W : Wd) (ρ : List Addr) (H : Hp) (o : O) (a : Addr) : Prop :=
  match o with
  | .lst xs => ∃ vs, H a = some (.lst vs) ∧ AXs K W ρ H xs vs
  | .dic kvs => ∃ ks : List (Key × V), H a = some (.dK ks) ∧ Paired (fun (p : D × X) (q : Key × V) => p.1.key? = some q.1 ∧ AX K W ρ H p.2 q.2) kvs ks
  | .fdc kvs => ∃ (ob : Obj) (ks : List (Key × V)), H a = some (.frz ob (.dK ks)) ∧ Paired (fun (p : D × X) (q : Key × V) => p.1.key? = some q.1 ∧ AX K W ρ H p.2 q.2) kvs ks
  | .tdc kvs => ∃ xs : List (List Leaf × Addr × V), H a = some (TDo a xs) ∧ Paired (fun (p : D × X) (q : List Leaf × Addr × V) => p.1.tkey? = some q.1 ∧ AV K W H p.1 (.ref q.2.1) ∧ AX K W ρ H p.2 q.2.2) kvs xs
  | .ins C fs => ∃ (dx : Addr) (vs : List (Str × V)), H a = some (.ins (He.ga K C) dx vs) ∧ Paired (fun (p : Str × X) (q : Str × V) => p.1 = q.1 ∧ AX K W ρ H p.2 q.2) fs vs
theorem AO.mv {K : PySem.W.Frag} {W W' : Wd} {ρ ρ' : List Addr} {H H' : Hp} {o : O} {a : Addr} (m : Mv W H W' H') (p : ρ <+: ρ') (k : ∀ u, H a = some u → H' a = some u) (x : AO K W ρ H o a) : AO K W' ρ' H' o a := by
  cases o with
  | lst xs => obtain ⟨vs, e, q⟩ := x; exact ⟨vs, k _ e, AXs.mv m p q⟩
  | dic kvs => obtain ⟨vs, e, q⟩ := x; exact ⟨vs, k _ e, Paired.mapP q fun _ _ z => ⟨z.1, z.2.mv m p⟩⟩
  | fdc kvs => obtain ⟨ob, vs, e, q⟩ := x; exact ⟨ob, vs, k _ e, Paired.mapP q fun _ _ z => ⟨z.1, z.2.mv m p⟩⟩
  | tdc kvs => obtain ⟨vs, e, q⟩ := x; exact ⟨vs, k _ e, Paired.mapP q fun _ _ z => ⟨z.1, z.2.1.mv m, z.2.2.mv m p⟩⟩
  | ins C fs => obtain ⟨dx, vs, e, q⟩ := x; exact ⟨dx, vs, k _ e, Paired.mapP q fun _ _ z => ⟨z.1, z.2.mv m p⟩⟩
theorem AO.there {K : PySem.W.Frag} {W : Wd} {ρ : List Addr} {H : Hp} {o : O} {a : Addr} (x : AO K W ρ H o a) : ∃ u, H a = some u := by
  cases o with
  | lst xs => obtain ⟨vs, e, _⟩ := x; exact ⟨_, e⟩
  | dic kvs => obtain ⟨vs, e, _⟩ := x; exact ⟨_, e⟩
  | fdc kvs => obtain ⟨ob, vs, e, _⟩ := x; exact ⟨_, e⟩
  | tdc kvs => obtain ⟨vs, e, _⟩ := x; exact ⟨_, e⟩
  | ins C fs => obtain ⟨dx, vs, e, _⟩ := x; exact ⟨_, e⟩
/-- frozen -/
def O.isF : O → Bool
  | .fdc _ => true
  | _ => false
theorem AO.nofrz {K : PySem.W.Frag} {W : Wd} {ρ : List Addr} {H : Hp} {o : O} {a : Addr} (x : AO K W ρ H o a) (h : o.isF = false) : ∀ ob u, H a ≠ some (.frz ob u) := fun ob u q => by
  cases o with
  | lst xs => obtain ⟨vs, e, _⟩ := x; rw [q] at e; cases e
  | dic kvs => obtain ⟨vs, e, _⟩ := x; rw [q] at e; cases e
  | fdc kvs => cases h
  | tdc kvs => obtain ⟨vs, e, _⟩ := x; rw [q] at e; cases e
  | ins C fs => obtain ⟨dx, vs, e, _⟩ := x; rw [q] at e; cases e
/-- the store S stands in H, at the addresses ρ; Z: what others may write -/
structure Sta (K : PySem.W.Frag) (Z : Wd) (ρ : List Addr) (S : Sto) (H : Hp) : Prop where
  nd : ρ.Nodup
  z : ∀ a, Z a → a ∉ ρ ∧ ∃ o, H a = some o
  len : S.length = ρ.length
  ob : ∀ (n : Nat) (o : O) (a : Addr), S[n]? = some o → ρ[n]? = some a → AO K (Wn Z ρ) ρ H o a
theorem Sta.mem {K : PySem.W.Frag} {Z : Wd} {ρ : List Addr} {S : Sto} {H : Hp} (s : Sta K Z ρ S H) {a : Addr} (h : a ∈ ρ) : ∃ (n : Nat) (o : O), S[n]? = some o ∧ ρ[n]? = some a := by
  obtain ⟨n, hn, e⟩ := List.getElem_of_mem h
  have h2 : n < S.length := by rw [s.len]; exact hn
  exact ⟨n, S[n], List.getElem?_eq_getElem h2, by rw [List.getElem?_eq_getElem hn, e]⟩
/-- steps of the store: new things come behind; what is not of it is kept -/
structure Go (ρ : List Addr) (H : Hp) (ρ' : List Addr) (H' : Hp) : Prop where
  pre : ρ <+: ρ'
  keep : ∀ a o, a ∉ ρ → H a = some o → a ∉ ρ' ∧ H' a = some o
  fz : ∀ a ob u, H a = some (.frz ob u) → H' a = some (.frz ob u)
theorem Go.refl (ρ : List Addr) (H : Hp) : Go ρ H ρ H := ⟨List.prefix_refl _, fun _ _ h q => ⟨h, q⟩, fun _ _ _ q => q⟩
theorem Go.trans {ρ ρ1 ρ2 : List Addr} {H H1 H2 : Hp} (a : Go ρ H ρ1 H1) (b : Go ρ1 H1 ρ2 H2) : Go ρ H ρ2 H2 :=
  ⟨a.pre.trans b.pre, fun c o h q => let ⟨h1, q1⟩ := a.keep c o h q; b.keep c o h1 q1, fun c ob u q => b.fz c ob u (a.fz c ob u q)⟩
theorem Go.mv {K : PySem.W.Frag} {Z : Wd} {ρ ρ' : List Addr} {S : Sto} {H H' : Hp} (s : Sta K Z ρ S H) (g : Go ρ H ρ' H') : Mv (Wn Z ρ) H (Wn Z ρ') H' := fun a o h q => by
  have h1 : a ∉ ρ := fun z => h (.inr z)
  obtain ⟨h2, q2⟩ := g.keep a o h1 q
  exact ⟨fun z => z.elim (fun z => h (.inl z)) h2, q2⟩
/-- the slots -/
structure EvOk (K : PySem.W.Frag) (W : Wd) (ρ : List Addr) (H : Hp) (e : Ev) (σ : St) : Prop where
  len : e.length = σ.length
  at_ : ∀ (i : Nat) (x : X), e[i]? = some (some x) → ∃ v, σ[i]? = some (some v) ∧ AX K W ρ H x v
theorem EvOk.mv {K : PySem.W.Frag} {W W' : Wd} {ρ ρ' : List Addr} {H H' : Hp} (m : Mv W H W' H') (p : ρ <+: ρ') {e : Ev} {σ : St} (h : EvOk K W ρ H e σ) : EvOk K W' ρ' H' e σ :=
  ⟨h.len, fun i x q => let ⟨v, h1, h2⟩ := h.at_ i x q; ⟨v, h1, h2.mv m p⟩⟩
theorem EvOk.set {K : PySem.W.Frag} {W : Wd} {ρ : List Addr} {H : Hp} {e : Ev} {σ : St} {i : Nat} {x : X} {v : V} (h : EvOk K W ρ H e σ) (a : AX K W ρ H x v) : EvOk K W ρ H (e.set i (some x)) (σ.set i (some v)) := by
  refine ⟨by rw [List.length_set, List.length_set]; exact h.len, fun j y q => ?_⟩
  by_cases hj : i = j
  · subst hj
    have hl : i < e.length := by
      have := (List.getElem?_eq_some_iff.mp q).1
      rwa [List.length_set] at this
    rw [List.getElem?_set_self hl] at q
    cases q
    exact ⟨v, by rw [List.getElem?_set_self (by rw [← h.len]; exact hl)], a⟩
  · rw [List.getElem?_set_ne hj] at q
    obtain ⟨u, h1, h2⟩ := h.at_ j y q
    exact ⟨u, by rw [List.getElem?_set_ne hj]; exact h1, h2⟩

/-! ### the readings -/
/-- what is wanted of an exception, at the slots where it comes -/
def ErrP (K : PySem.W.Frag) (Z : Wd) (ρ : List Addr) (H : Hp) (Wx : WX) (σ : St) (C : Str) (fs : List (Str × D)) (S' : Sto) : Prop :=
  ∀ (ρ' : List Addr) (H' : Hp) (d : Option Addr), Sta K Z ρ' S' H' → Go ρ H ρ' H' →
    ((d = none ∧ fs = []) ∨ ∃ (dd : Addr) (vs : List (Str × V)), d = some dd ∧ H dd = none ∧ ¬ Wn Z ρ' dd ∧ H' dd = some (.xd vs) ∧ AVf K (Wn Z ρ') H' fs vs) → Wx (.ref (He.ga K C)) d σ H'
/-- what is wanted of a step that hands back something of which rel tells how it stands -/
def PostG {α β : Type} (rel : Wd → List Addr → Hp → α → β → Prop) (K : PySem.W.Frag) (Z : Wd) (ρ : List Addr) (H : Hp) (Wx : WX) (σ : St) (Q : β → Hp → Prop) : R α → Prop
  | .ok x S' => ∀ (ρ' : List Addr) (H' : Hp) (v : β), Sta K Z ρ' S' H' → Go ρ H ρ' H' → rel (Wn Z ρ') ρ' H' x v → Q v H'
  | .err C fs S' => ErrP K Z ρ H Wx σ C fs S'
  | .bad => False
/-- a step by value -/
abbrev MG (α : Type) := Ev → Sto → R α
def RG {α β : Type} (rel : Wd → List Addr → Hp → α → β → Prop) (K : PySem.W.Frag) (Wx : WX) (m : MG α) : St → Hp → (β → Hp → Prop) → Prop := fun σ H Q => ∃ (Z : Wd) (ρ : List Addr) (e : Ev) (S : Sto), Sta K Z ρ S H ∧ EvOk K (Wn Z ρ) ρ H e σ ∧ PostG rel K Z ρ H Wx σ Q (m e S)
/-- an expression, an argument list, a test -/
abbrev M := MG X
abbrev Post (K : PySem.W.Frag) := PostG (AX K) K
abbrev RE (K : PySem.W.Frag) (Wx : WX) (m : M) : TE := RG (AX K) K Wx m
abbrev ME (X : Cx) (Wx : WX) (e : Expr) (m : M) : Prop := PE X e (RE X.K Wx m)
abbrev RA (K : PySem.W.Frag) (Wx : WX) (m : MG (List X)) : TA := RG (AXs K) K Wx m
abbrev MA (X : Cx) (Wx : WX) (es : List Expr) (m : MG (List Bv.X)) : Prop := PA X es (RA X.K Wx m)
abbrev relB : Wd → List Addr → Hp → Bool → Bool → Prop := fun _ _ _ b c => b = c
abbrev RB (K : PySem.W.Frag) (Wx : WX) (m : MG Bool) : L2.TT := RG relB K Wx m
abbrev MT (X : Cx) (Wx : WX) (e : Expr) (m : MG Bool) : Prop := PT X e (RB X.K Wx m)

def R.bind {α β : Type} (r : R α) (k : α → Sto → R β) : R β := match r with
  | .ok a S => k a S
  | .err C fs S => .err C fs S
  | .bad => .bad
theorem ErrP.shift {K : PySem.W.Frag} {Z : Wd} {ρ ρ1 : List Addr} {H H1 : Hp} {Wx : WX} {σ : St} {C : Str} {fs : List (Str × D)} {S' : Sto} (g : Go ρ H ρ1 H1) (s1 : ∀ a o, H a = some o → ∃ u, H1 a = some u) (h : ErrP K Z ρ H Wx σ C fs S') : ErrP K Z ρ1 H1 Wx σ C fs S' := fun ρ' H' d st go q => by
  refine h ρ' H' d st (g.trans go) ?_
  rcases q with q | ⟨dd, vs, h1, h2, h3⟩
  · exact .inl q
  · refine .inr ⟨dd, vs, h1, ?_, h3⟩
    cases e : H dd with
    | none => rfl
    | some o =>
      obtain ⟨u, z⟩ := s1 dd o e
      rw [h2] at z; cases z
theorem there_of {K : PySem.W.Frag} {Z : Wd} {ρ ρ1 : List Addr} {S1 : Sto} {H H1 : Hp} (g : Go ρ H ρ1 H1) (s1 : Sta K Z ρ1 S1 H1) : ∀ a o, H a = some o → ∃ u, H1 a = some u := fun a o q => by
  by_cases h : a ∈ ρ
  · have h1 : a ∈ ρ1 := g.pre.subset h
    obtain ⟨n, o, e1, e2⟩ := s1.mem h1
    exact (s1.ob n o a e1 e2).there
  · exact ⟨o, (g.keep a o h q).2⟩
theorem PostG.shift {α β : Type} {rel : Wd → List Addr → Hp → α → β → Prop} {K : PySem.W.Frag} {Z : Wd} {ρ ρ1 : List Addr} {S1 : Sto} {H H1 : Hp} {Wx : WX} {σ : St} {Q : β → Hp → Prop} {r : R α} (g : Go ρ H ρ1 H1) (s1 : Sta K Z ρ1 S1 H1) (h : PostG rel K Z ρ H Wx σ Q r) : PostG rel K Z ρ1 H1 Wx σ Q r := by
  cases r with
  | ok x S' => exact fun ρ' H' v st go a => h ρ' H' v st (g.trans go) a
  | err C fs S' => exact ErrP.shift g (there_of g s1) h
  | bad => exact h
/-- one step, then the rest -/
theorem tt_bind {α β γ δ : Type} {rel : Wd → List Addr → Hp → α → β → Prop} {rel' : Wd → List Addr → Hp → γ → δ → Prop} {K : PySem.W.Frag} {Wx : WX} {Z : Wd} {ρ : List Addr} {e : Ev} {S : Sto} {σ : St} {H : Hp} {Q : δ → Hp → Prop} {m : MG α} {k : α → Sto → R γ} {R' : β → Hp → Prop} (st : Sta K Z ρ S H) (ev : EvOk K (Wn Z ρ) ρ H e σ) (h : PostG rel' K Z ρ H Wx σ Q ((m e S).bind k))
    (next : ∀ ρ1 H1 v x S1, Sta K Z ρ1 S1 H1 → Go ρ H ρ1 H1 → EvOk K (Wn Z ρ1) ρ1 H1 e σ → rel (Wn Z ρ1) ρ1 H1 x v → PostG rel' K Z ρ1 H1 Wx σ Q (k x S1) → R' v H1) : RG rel K Wx m σ H R' := by
  refine ⟨Z, ρ, e, S, st, ev, ?_⟩
  cases q : m e S with
  | ok x S1 =>
    rw [q] at h
    exact fun ρ1 H1 v s1 g a => next ρ1 H1 v x S1 s1 g (ev.mv (g.mv st) g.pre) a (PostG.shift g s1 h)
  | err C fs S1 => rw [q] at h; exact h
  | bad => rw [q] at h; exact h

/-- the heap has grown by things that are not of the store -/
theorem Sta.grow {K : PySem.W.Frag} {Z : Wd} {ρ : List Addr} {S : Sto} {H H' : Hp} (s : Sta K Z ρ S H) (k : ∀ a o, H a = some o → H' a = some o) : Sta K Z ρ S H' := by
  have m : Mv (Wn Z ρ) H (Wn Z ρ) H' := fun a o h q => ⟨h, k a o q⟩
  refine ⟨s.nd, fun a h => ⟨(s.z a h).1, let ⟨o, q⟩ := (s.z a h).2; ⟨o, k a o q⟩⟩, s.len, fun n o a e1 e2 => ?_⟩
  exact AO.mv m (List.prefix_refl _) (k a) (s.ob n o a e1 e2)
theorem Go.grow {ρ : List Addr} {H H' : Hp} (k : ∀ a o, H a = some o → H' a = some o) : Go ρ H ρ H' := ⟨List.prefix_refl _, fun a o h q => ⟨h, k a o q⟩, fun a _ _ q => k a _ q⟩
theorem Sta.thereW {K : PySem.W.Frag} {Z : Wd} {ρ : List Addr} {S : Sto} {H : Hp} (s : Sta K Z ρ S H) {a : Addr} (h : Wn Z ρ a) : ∃ o, H a = some o := by
  rcases h with h | h
  · exact (s.z a h).2
  · obtain ⟨n, o, e1, e2⟩ := s.mem h
    exact (s.ob n o a e1 e2).there
/-- a thing of the store is changed -/
theorem Sta.put {K : PySem.W.Frag} {Z : Wd} {ρ : List Addr} {S : Sto} {H : Hp} {n : Nat} {a : Addr} {o' : O} {u : HO} (s : Sta K Z ρ S H) (hn : ρ[n]? = some a) (nf : ∀ ob u, H a ≠ some (.frz ob u)) (new : AO K (Wn Z ρ) ρ (upd H a u) o' a) : Sta K Z ρ (S.set n o') (upd H a u) ∧ Go ρ H ρ (upd H a u) := by
  have ha : a ∈ ρ := List.mem_of_getElem? hn
  have m : Mv (Wn Z ρ) H (Wn Z ρ) (upd H a u) := fun b o h q => ⟨h, by rw [upd_ne (fun z => h (.inr (by rw [z]; exact ha)))]; exact q⟩
  refine ⟨⟨s.nd, fun b h => ⟨(s.z b h).1, ?_⟩, by rw [List.length_set]; exact s.len, fun k o b e1 e2 => ?_⟩, ⟨List.prefix_refl _, fun b o h q => ⟨h, by rw [upd_ne (fun z => h (by rw [z]; exact ha))]; exact q⟩, fun b ob w q => by rw [upd_ne (fun z => nf ob w (by rw [← z]; exact q))]; exact q⟩⟩
  · obtain ⟨o, q⟩ := (s.z b h).2
    exact ⟨o, by rw [upd_ne (fun z => (s.z b h).1 (by rw [z]; exact ha))]; exact q⟩
  · by_cases hk : n = k
    · subst hk
      rw [hn] at e2; cases e2
      have hl : n < S.length := by
        have := (List.getElem?_eq_some_iff.mp e1).1
        rwa [List.length_set] at this
      rw [List.getElem?_set_self hl] at e1
      cases e1
      exact new
    · rw [List.getElem?_set_ne hk] at e1
      have hb : b ≠ a := fun z => by
        subst z
        obtain ⟨h1, q1⟩ := List.getElem?_eq_some_iff.mp hn
        obtain ⟨h2, q2⟩ := List.getElem?_eq_some_iff.mp e2
        exact hk ((List.getElem_inj s.nd).mp (q1.trans q2.symm))
      exact AO.mv m (List.prefix_refl _) (fun w q => by rw [upd_ne hb]; exact q) (s.ob k o b e1 e2)
/-- a new thing of the store -/
theorem Sta.push {K : PySem.W.Frag} {Z : Wd} {ρ : List Addr} {S : Sto} {H H' : Hp} {a : Addr} {o' : O} (s : Sta K Z ρ S H) (hn : H a = none) (k : ∀ b o, H b = some o → H' b = some o) (new : AO K (Wn Z (ρ ++ [a])) (ρ ++ [a]) H' o' a) : Sta K Z (ρ ++ [a]) (S ++ [o']) H' ∧ Go ρ H (ρ ++ [a]) H' := by
  have hne : ∀ b o, H b = some o → b ≠ a := fun b o q z => by rw [z, hn] at q; cases q
  have g : Go ρ H (ρ ++ [a]) H' := ⟨List.prefix_append _ _, fun b o h q => ⟨fun z => by
    rcases List.mem_append.mp z with z | z
    · exact h z
    · exact hne b o q (by simpa using z), k b o q⟩, fun b _ _ q => k b _ q⟩
  have hna : a ∉ ρ := fun z => by
    obtain ⟨n, o, e1, e2⟩ := s.mem z
    obtain ⟨w, q⟩ := (s.ob n o a e1 e2).there
    exact hne a w q rfl
  refine ⟨⟨?_, fun b h => ⟨fun z => ?_, ?_⟩, by rw [List.length_append, List.length_append, s.len]; rfl, fun m o b e1 e2 => ?_⟩, g⟩
  · rw [List.nodup_append]
    exact ⟨s.nd, by simp, fun x hx y hy z => by
      have : y = a := by simpa using hy
      subst this; subst z; exact hna hx⟩
  · obtain ⟨o, q⟩ := (s.z b h).2
    rcases List.mem_append.mp z with z | z
    · exact (s.z b h).1 z
    · exact hne b o q (by simpa using z)
  · obtain ⟨o, q⟩ := (s.z b h).2
    exact ⟨o, k b o q⟩
  · by_cases hm : m < ρ.length
    · rw [List.getElem?_append_left hm] at e2
      rw [List.getElem?_append_left (by rw [s.len]; exact hm)] at e1
      exact AO.mv (g.mv s) g.pre (k b) (s.ob m o b e1 e2)
    · rw [List.getElem?_append_right (by omega)] at e2
      rw [List.getElem?_append_right (by rw [s.len]; omega)] at e1
      have hz : m - ρ.length = 0 := by
        have := (List.getElem?_eq_some_iff.mp e2).1
        simp at this; omega
      rw [hz] at e2
      rw [s.len, hz] at e1
      cases e1; cases e2
      exact new
/-- a fresh place is of nobody -/
theorem Sta.fresh {K : PySem.W.Frag} {Z : Wd} {ρ : List Addr} {S : Sto} {H : Hp} (s : Sta K Z ρ S H) {a : Addr} (h : H a = none) : ¬ Wn Z ρ a := fun z => by
  obtain ⟨o, e⟩ := s.thereW z
  rw [h] at e; cases e
theorem upd_keep {H : Hp} {p : Addr} {o : HO} (h : H p = none) : ∀ a u, H a = some u → upd H p o a = some u := fun a u q => by
  rw [upd_ne (ne_of_none q h)]; exact q
/-- a value that is handed back by an operation which lays nothing of the store -/
theorem PostG.ret {α β : Type} {rel : Wd → List Addr → Hp → α → β → Prop} {K : PySem.W.Frag} {Z : Wd} {ρ : List Addr} {S : Sto} {H H' : Hp} {Wx : WX} {σ : St} {Q : β → Hp → Prop} {x : α} {v : β} (h : PostG rel K Z ρ H Wx σ Q (.ok x S)) (s : Sta K Z ρ S H) (k : ∀ a o, H a = some o → H' a = some o) (a : rel (Wn Z ρ) ρ H' x v) : Q v H' :=
  h ρ H' v (s.grow k) (Go.grow k) a
theorem PostG.ret0 {α β : Type} {rel : Wd → List Addr → Hp → α → β → Prop} {K : PySem.W.Frag} {Z : Wd} {ρ : List Addr} {S : Sto} {H : Hp} {Wx : WX} {σ : St} {Q : β → Hp → Prop} {x : α} {v : β} (h : PostG rel K Z ρ H Wx σ Q (.ok x S)) (s : Sta K Z ρ S H) (a : rel (Wn Z ρ) ρ H x v) : Q v H :=
  h ρ H v s (Go.refl _ _) a
end Bv
set_option Elab.async false
set_option linter.all false
set_option maxRecDepth 100000
set_option maxHeartbeats 4000000
/-! By value: expressions. -/
namespace Bv
open PySem PySem.Spec L2
open PyProof.Rows hiding St
variable [HasW]

/-! ### operands: as AV, or a list, a dict of the store by its items -/
inductive AW (K : PySem.W.Frag) (W : Wd) (H : Hp) : D → V → Prop
  | av {d : D} {v : V} : AV K W H d v → AW K W H d v
  | lst {a : Addr} {xs : List V} {ds : List D} : H a = some (.lst xs) → AVs K W H ds xs → AW K W H (.lst ds) (.ref a)
  | fdc {a : Addr} {ob : Obj} {ks : List (Key × V)} {kvs : List (D × D)} : H a = some (.frz ob (.dK ks)) → AVk K W H kvs ks → AW K W H (.dic kvs) (.ref a)
def X.d? : X → Option D
  | .d v => some v
  | .r _ => none
def ds? : List X → Option (List D)
  | [] => some []
  | x :: r => match x, ds? r with
    | .d v, some l => some (v :: l)
    | _, _ => none
def ks? : List (D × X) → Option (List (D × D))
  | [] => some []
  | (k, x) :: r => match x, ks? r with
    | .d v, some l => some ((k, v) :: l)
    | _, _ => none
/-- data that a value is at the moment -/
def X.get (S : Sto) : X → Option D
  | .d v => some v
  | .r n => match S[n]? with
    | some (.lst xs) => (ds? xs).map .lst
    | some (.fdc kvs) => (ks? kvs).map .dic
    | _ => none
section
variable {K : PySem.W.Frag} {W : Wd} {ρ : List Addr} {H : Hp}
theorem AXs.ds : ∀ {xs : List X} {vs : List V} {ds : List D}, AXs K W ρ H xs vs → ds? xs = some ds → AVs K W H ds vs
  | _, _, _, .nil, e => by cases e; exact .nil
  | x :: r, _, ds, .cons h hs, e => by
    cases x with
    | r n => simp [ds?] at e
    | d v =>
      unfold ds? at e
      cases q : ds? r with
      | none => rw [q] at e; cases e
      | some l =>
        rw [q] at e
        cases e
        cases h with
        | d h => exact .cons h (AXs.ds hs q)
theorem AXk.ks : ∀ {xs : List (D × X)} {vs : List (Key × V)} {ds : List (D × D)}, Paired (fun (p : D × X) (q : Key × V) => p.1.key? = some q.1 ∧ AX K W ρ H p.2 q.2) xs vs → ks? xs = some ds → AVk K W H ds vs
  | _, _, _, .nil, e => by cases e; exact .nil
  | (k, x) :: r, _, ds, .cons h hs, e => by
    cases x with
    | r n => simp [ks?] at e
    | d v =>
      unfold ks? at e
      cases q : ks? r with
      | none => rw [q] at e; cases e
      | some l =>
        rw [q] at e
        cases e
        obtain ⟨h1, h2⟩ := h
        cases h2 with
        | d h => exact .cons h1 h (AXk.ks hs q)
theorem Sta.at_ {Z : Wd} {S : Sto} (s : Sta K Z ρ S H) {n : Nat} {o : O} (e : S[n]? = some o) : ∃ a, ρ[n]? = some a ∧ AO K (Wn Z ρ) ρ H o a := by
  have h : n < ρ.length := by rw [← s.len]; exact (List.getElem?_eq_some_iff.mp e).1
  exact ⟨ρ[n], List.getElem?_eq_getElem h, s.ob n o _ e (List.getElem?_eq_getElem h)⟩
theorem AX.get {Z : Wd} {S : Sto} (s : Sta K Z ρ S H) {x : X} {v : V} {d : D} (a : AX K (Wn Z ρ) ρ H x v) (e : x.get S = some d) : AW K (Wn Z ρ) H d v := by
  cases a with
  | d h => cases e; exact .av h
  | r h =>
    rename_i n a
    have e1 : (match S[n]? with
      | some (.lst xs) => (ds? xs).map .lst
      | some (.fdc kvs) => (ks? kvs).map .dic
      | _ => none) = some d := e
    cases q : S[n]? with
    | none => rw [q] at e1; cases e1
    | some o =>
      rw [q] at e1
      obtain ⟨b, hb, x⟩ := s.at_ q
      rw [h] at hb; cases hb
      cases o with
      | lst xs =>
        obtain ⟨l, h1, h2⟩ := Option.map_eq_some_iff.mp (show (ds? xs).map D.lst = some d from e1)
        subst h2
        obtain ⟨vs, h3, h4⟩ := x
        exact .lst h3 (AXs.ds h4 h1)
      | fdc kvs =>
        obtain ⟨l, h1, h2⟩ := Option.map_eq_some_iff.mp (show (ks? kvs).map D.dic = some d from e1)
        subst h2
        obtain ⟨ob, vs, h3, h4⟩ := x
        exact .fdc h3 (AXk.ks h4 h1)
      | _ => cases e1
theorem AW.mv {W' : Wd} {H' : Hp} (m : Mv W H W' H') (k : ∀ a o, H a = some o → H' a = some o) {d : D} {v : V} (h : AW K W H d v) : AW K W' H' d v := by
  cases h with
  | av h => exact .av (h.mv m)
  | lst h hs => exact .lst (k _ _ h) (hs.mv m)
  | fdc h hs => exact .fdc (k _ _ h) (hs.mv m)
/-- a list that may be read -/
theorem AW.sq {ds : List D} {v : V} (h : AW K W H (.lst ds) v) : ∃ a xs, v = .ref a ∧ H a = some (.lst xs) ∧ AVs K W H ds xs := by
  cases h with
  | av h => cases h with | lst w r hs => exact ⟨_, _, rfl, r, hs⟩
  | lst h hs => exact ⟨_, _, rfl, h, hs⟩
theorem AW.tq {ds : List D} {v : V} (h : AW K W H (.tup ds) v) : ∃ a xs, v = .ref a ∧ Tp K W H a xs ∧ AVs K W H ds xs := by
  cases h with
  | av h => cases h with | tup t hs => exact ⟨_, _, rfl, t, hs⟩
theorem AW.dq {ds : List (D × D)} {v : V} (h : AW K W H (.dic ds) v) : ∃ a ob xs, v = .ref a ∧ H a = some (.frz ob (.dK xs)) ∧ AVk K W H ds xs := by
  cases h with
  | av h => cases h with | dic w r hs => exact ⟨_, _, _, rfl, r, hs⟩
  | fdc h hs => exact ⟨_, _, _, rfl, h, hs⟩
theorem AW.ob {C : Str} {fs : List (Str × D)} {v : V} (h : AW K W H (.obj C fs) v) : ∃ a dx vs, v = .ref a ∧ ¬ W a ∧ H a = some (.ins (He.ga K C) dx vs) ∧ AVf K W H fs vs := by
  cases h with
  | av h => cases h with | obj w r hs => exact ⟨_, _, _, rfl, w, r, hs⟩
theorem AVs.length : ∀ {ds : List D} {vs : List V}, AVs K W H ds vs → ds.length = vs.length
  | _, _, .nil => rfl
  | _, _, .cons _ t => by simp [AVs.length t]
theorem AVs.get : ∀ {ds : List D} {vs : List V} {i : Nat} {d : D}, AVs K W H ds vs → ds[i]? = some d → ∃ v, vs[i]? = some v ∧ AV K W H d v
  | _, _, _, _, .nil, e => by simp at e
  | _, _, 0, _, .cons h _, e => by simp at e; subst e; exact ⟨_, rfl, h⟩
  | _, _, i + 1, d, .cons _ t, e => by
    obtain ⟨v, h1, h2⟩ := AVs.get (i := i) (d := d) t (by simpa using e)
    exact ⟨v, by simpa using h1, h2⟩
theorem AVs.append : ∀ {ds es : List D} {vs us : List V}, AVs K W H ds vs → AVs K W H es us → AVs K W H (ds ++ es) (vs ++ us)
  | _, _, _, _, .nil, s => s
  | _, _, _, _, .cons r t, s => .cons r (AVs.append t s)
theorem AVs.take : ∀ {ds : List D} {vs : List V} (n : Nat), AVs K W H ds vs → AVs K W H (ds.take n) (vs.take n)
  | _, _, 0, _ => .nil
  | _, _, _ + 1, .nil => .nil
  | _, _, n + 1, .cons r t => .cons r (AVs.take n t)
theorem AVs.drop : ∀ {ds : List D} {vs : List V} (n : Nat), AVs K W H ds vs → AVs K W H (ds.drop n) (vs.drop n)
  | _, _, 0, r => r
  | _, _, _ + 1, .nil => .nil
  | _, _, n + 1, .cons _ t => AVs.drop n t
theorem AVf.look : ∀ {fs : List (Str × D)} {vs : List (Str × V)} {f : Str} {d : D}, AVf K W H fs vs → fs.lookup f = some d → ∃ v, vs.lookup f = some v ∧ AV K W H d v
  | _, _, _, _, .nil, e => by cases e
  | (g, x) :: r, _, f, d, .cons h hs, e => by
    rw [List.lookup_cons] at e ⊢
    cases q : f == g with
    | true => rw [q] at e; cases e; exact ⟨_, rfl, h⟩
    | false => rw [q] at e; exact AVf.look hs e
theorem AVf.none_of : ∀ {fs : List (Str × D)} {vs : List (Str × V)} {f : Str}, AVf K W H fs vs → fs.lookup f = none → vs.lookup f = none
  | _, _, _, .nil, e => rfl
  | (g, x) :: r, _, f, .cons h hs, e => by
    rw [List.lookup_cons] at e ⊢
    cases q : f == g with
    | true => rw [q] at e; cases e
    | false => rw [q] at e; exact AVf.none_of hs e
end

/-! ### leaves -/
def m_var (i : Nat) : M := fun e S => match e[i]? with
  | some (some x) => .ok x S
  | _ => .bad
def m_c (d : D) : M := fun _ S => .ok (.d d) S
section
variable {X : Cx} {Wx : WX} {pos : Pos}
theorem PE.of {X : Cx} {e : Expr} {t t' : TE} (h : PE X e t) (w : ∀ σ H Q, t' σ H Q → t σ H Q) : PE X e t' := ⟨fun pins s σ H Q I q => h.run pins s σ H Q I (w σ H Q q)⟩
theorem me_var (i : Nat) {x : Str} (hN : X.N[i]? = some x := by rfl) (hv : Vis X.env.scope x := by first | exact Or.inl rfl | exact Or.inr (Or.inl rfl) | exact Or.inr (Or.inr rfl)) (hd : (x == ("__debug__" : Str)) = false := by decide)
    (hcd : (x == ("__classdict__" : Str)) = false := by decide) : ME X Wx (.Name x pos) (m_var i) := PE.of (pe_var hN hv hd hcd) fun σ H Q ⟨Z, ρ, e, S, st, ev, p⟩ => by
  unfold m_var at p
  cases q : e[i]? with
  | none => rw [q] at p; exact p.elim
  | some o =>
    cases o with
    | none => rw [q] at p; exact p.elim
    | some x =>
      rw [q] at p
      obtain ⟨v, h1, h2⟩ := ev.at_ i x q
      exact ⟨v, h1, p.ret0 st h2⟩
theorem me_of {e : Expr} {d : D} {v : V} (h : PE X e (tC v)) (a : ∀ W H, AV X.K W H d v) : ME X Wx e (m_c d) := PE.of h fun σ H Q ⟨Z, ρ, e, S, st, ev, p⟩ => PostG.ret0 p st (.d (a _ _))
theorem me_int {i : Int} {j} : ME X Wx (.Constant (.int i) j pos) (m_c (.int i)) := me_of pe_int fun _ _ => .int i
theorem me_bl {b : Bool} {j} : ME X Wx (.Constant (.bool b) j pos) (m_c (.bl b)) := me_of pe_bl fun _ _ => .bl b
theorem me_non {j} : ME X Wx (.Constant .none j pos) (m_c .non) := me_of pe_non fun _ _ => .non
theorem me_str {x : Str} {j} (h : PyData.strOk x = true := by decide +kernel) : ME X Wx (.Constant (.str x) j pos) (m_c (.str x)) := me_of pe_str fun _ _ => .str h
/-- a constant of the module -/
theorem me_glob {x : Str} {d : D} {u : Value} (hg : Gl X x) (hm : X.mg x = some u) (h : ∃ v, (∀ W H, AV X.K W H d v) ∧ RelV v u) (hd : (x == ("__debug__" : Str)) = false := by decide) : ME X Wx (.Name x pos) (m_c d) := by
  obtain ⟨v, a, r⟩ := h
  exact me_of (pe_glob hg hm r hd) a
end

/-! ### operators -/
/-- f on data is the operation r -/
def Op2 (K : PySem.W.Frag) (r : R2) (f : D → D → Option D) : Prop := ∀ (W : Wd) (H : Hp) (d1 d2 : D) (v1 v2 : V) (d : D) (Q : VK), (∀ a, W a → ∃ o, H a = some o) → AW K W H d1 v1 → AW K W H d2 v2 → f d1 d2 = some d →
  (∀ H' v, Same H H' → AV K W H' d v → Q v H') → r v1 v2 H Q
def op2 (f : D → D → Option D) (S : Sto) (x y : X) : R X := match x.get S, y.get S with
  | some a, some b => (match f a b with
    | some d => .ok (.d d) S
    | none => .bad)
  | _, _ => .bad
def m_op2 (f : D → D → Option D) (ma mb : M) : M := fun e S => (ma e S).bind fun x S1 => (mb e S1).bind fun y S2 => op2 f S2 x y
section
variable {X : Cx} {Wx : WX} {pos : Pos} {a b c : Expr} {ma mb mc : M}
theorem same_mv {W : Wd} {H H' : Hp} (k : Same H H') : Mv W H W H' := fun a o h q => ⟨h, k a o q⟩
theorem op2_run {r : R2} {f : D → D → Option D} (hf : Op2 X.K r f) {Z : Wd} {ρ : List Addr} {S : Sto} {H : Hp} {σ : St} {Q : VK} {x y : Bv.X} {v1 v2 : V} (st : Sta X.K Z ρ S H) (a1 : AX X.K (Wn Z ρ) ρ H x v1) (a2 : AX X.K (Wn Z ρ) ρ H y v2)
    (p : Post X.K Z ρ H Wx σ Q (op2 f S x y)) : r v1 v2 H Q := by
  unfold op2 at p
  cases e1 : x.get S with
  | none => rw [e1] at p; exact p.elim
  | some d1 =>
    cases e2 : y.get S with
    | none => rw [e1, e2] at p; exact p.elim
    | some d2 =>
      rw [e1, e2] at p
      have p : Post X.K Z ρ H Wx σ Q (match f d1 d2 with
        | some d => .ok (.d d) S
        | none => .bad) := p
      cases e3 : f d1 d2 with
      | none => rw [e3] at p; exact p.elim
      | some d =>
        rw [e3] at p
        exact hf (Wn Z ρ) H d1 d2 v1 v2 d Q (fun _ h => st.thereW h) (a1.get st e1) (a2.get st e2) e3 fun H' v k h => p.ret st k (.d h)
/-- two operands, from the left -/
theorem two_run {r : R2} {f : D → D → Option D} (hf : Op2 X.K r f) {σ : St} {H : Hp} {Q : VK} (h : RE X.K Wx (m_op2 f ma mb) σ H Q) : tOp r (RE X.K Wx ma) (RE X.K Wx mb) σ H Q := by
  obtain ⟨Z, ρ, e, S, st, ev, p⟩ := h
  refine tt_bind st ev p fun ρ1 H1 v1 x S1 st1 g1 ev1 a1 p1 => ?_
  refine tt_bind st1 ev1 p1 fun ρ2 H2 v2 y S2 st2 g2 ev2 a2 p2 => ?_
  exact op2_run hf st2 (a1.mv (g2.mv st1) g2.pre) a2 p2
theorem me_op {op : Operator} {r : R2} {f : D → D → Option D} (ho : OpR X (binaryOp op) r) (hf : Op2 X.K r f) (ha : ME X Wx a ma) (hb : ME X Wx b mb) : ME X Wx (.BinOp a op b pos) (m_op2 f ma mb) :=
  PE.of (pe_op ho ha hb) fun _ _ _ h => two_run hf h
theorem me_cmp {op : CmpOp} {r : R2} {f : D → D → Option D} (ho : OpR X (compareOp op) r) (hf : Op2 X.K r f) (ha : ME X Wx a ma) (hb : ME X Wx b mb) (hm : behindInMarks op b = false := by first | exact nomark _ | (with_unfolding_all rfl)) : ME X Wx (.Compare a [op] [b] pos) (m_op2 f ma mb) :=
  PE.of (pe_cmpR ho ha hb hm) fun _ _ _ h => two_run hf h
/-- a op1 b op2 c -/
def m_chain (f g : D → D → Option D) (ma mb mc : M) : M := fun e S => (ma e S).bind fun x S1 => (mb e S1).bind fun y S2 => (op2 f S2 x y).bind fun z S3 => match z with
  | .d (.bl true) => (mc e S3).bind fun w S4 => op2 g S4 y w
  | .d (.bl false) => .ok (.d (.bl false)) S3
  | _ => .bad
end
end Bv
set_option Elab.async false
set_option linter.all false
set_option maxRecDepth 100000
set_option maxHeartbeats 4000000
/-! By value: operations on data. -/
namespace Bv
open PySem PySem.Spec L2
open PyProof.Rows hiding St
variable [HasW]

/-! ### data as the library's plain data -/
mutual
def D.py : D → Option PyData
  | .non => some .none
  | .bl b => some (.bool b)
  | .int i => some (.int i)
  | .str x => some (.str x)
  | .tup ds => match pys ds with
    | some l => some (.tuple l)
    | none => none
  | .lst ds => match pys ds with
    | some l => some (.list l)
    | none => none
  | .scr ns => some (.list (ns.map .int))
  | .dic _ => none
  | .obj _ _ => none
  | .gl _ => none
def pys : List D → Option (List PyData)
  | [] => some []
  | d :: r => match d.py, pys r with
    | some p, some l => some (p :: l)
    | _, _ => none
end
section
variable {K : PySem.W.Frag} {W : Wd} {H : Hp}
theorem dp_ints : ∀ ns : List Int, DpAll K H (ns.map V.int) (ns.map PyData.int)
  | [] => .nil
  | n :: r => .cons (.int n) (dp_ints r)
theorem lay_ints : ∀ ns : List Int, PyData.canLayAll0 (ns.map PyData.int) = true
  | [] => by simp [PyData.canLayAll0]
  | n :: r => by simp [PyData.canLayAll0, PyData.canLay0, lay_ints r]
mutual
theorem AV.dp : ∀ {d : D} {v : V} {p : PyData}, AV K W H d v → d.py = some p → Dp K H v p ∧ p.canLay0 = true
  | _, _, _, .non, e => by cases e; exact ⟨.non, by simp [PyData.canLay0]⟩
  | _, _, _, .bl b, e => by cases e; exact ⟨.bl b, by simp [PyData.canLay0]⟩
  | _, _, _, .int i, e => by cases e; exact ⟨.int i, by simp [PyData.canLay0]⟩
  | _, _, _, .str h, e => by cases e; exact ⟨.str _, by simpa [PyData.canLay0] using h⟩
  | _, _, _, .gl x, e => by cases e
  | _, _, _, .scr h, e => by cases e; exact ⟨.lst h.sl (dp_ints _), by simpa [PyData.canLay0] using lay_ints _⟩
  | .tup ds, _, p, .tup t hs, e => by
    have e1 : (match pys ds with
      | some l => some (PyData.tuple l)
      | none => none) = some p := by simpa [D.py] using e
    cases q : pys ds with
    | none => rw [q] at e1; cases e1
    | some l =>
      rw [q] at e1; cases e1
      obtain ⟨h1, h2⟩ := AVs.dp hs q
      exact ⟨.tup t.sq h1, by simpa [PyData.canLay0] using h2⟩
  | .lst ds, _, p, .lst w h hs, e => by
    have e1 : (match pys ds with
      | some l => some (PyData.list l)
      | none => none) = some p := by simpa [D.py] using e
    cases q : pys ds with
    | none => rw [q] at e1; cases e1
    | some l =>
      rw [q] at e1; cases e1
      obtain ⟨h1, h2⟩ := AVs.dp hs q
      exact ⟨.lst (.inl (.inl h)) h1, by simpa [PyData.canLay0] using h2⟩
  | _, _, _, .dic w h hs, e => by simp [D.py] at e
  | _, _, _, .obj w h hs, e => by simp [D.py] at e
theorem AVs.dp : ∀ {ds : List D} {vs : List V} {ps : List PyData}, AVs K W H ds vs → pys ds = some ps → DpAll K H vs ps ∧ PyData.canLayAll0 ps = true
  | _, _, _, .nil, e => by simp [pys] at e; subst e; exact ⟨.nil, by simp [PyData.canLayAll0]⟩
  | d :: r, _, ps, .cons h hs, e => by
    cases q1 : d.py with
    | none => simp [pys, q1] at e
    | some p =>
      cases q2 : pys r with
      | none => simp [pys, q1, q2] at e
      | some l =>
        simp [pys, q1, q2] at e
        subst e
        obtain ⟨h1, h2⟩ := AV.dp h q1
        obtain ⟨h3, h4⟩ := AVs.dp hs q2
        exact ⟨.cons h1 h3, by simp [PyData.canLayAll0, h2, h4]⟩
end
theorem AW.dp {d : D} {v : V} {p : PyData} (h : AW K W H d v) (e : d.py = some p) : Dp K H v p ∧ p.canLay0 = true := by
  cases h with
  | av h => exact h.dp e
  | lst h hs =>
    rename_i a xs ds
    have e1 : (match pys ds with
      | some l => some (PyData.list l)
      | none => none) = some p := by simpa [D.py] using e
    cases q : pys ds with
    | none => rw [q] at e1; cases e1
    | some l =>
      rw [q] at e1; cases e1
      obtain ⟨h1, h2⟩ := AVs.dp hs q
      exact ⟨.lst (.inl (.inl h)) h1, by simpa [PyData.canLay0] using h2⟩
  | fdc h hs => simp [D.py] at e
end
def dOk (p : PyData) : Bool := decide (p.depth ≤ 64)
theorem shaped_of {p : PyData} (h : p.canLay0 = true) (d : dOk p = true) : SeqAt.shaped p = true := by
  unfold SeqAt.shaped
  rw [h, Bool.true_and]
  exact d

/-! ### == and != , in and not in -/
def eqD (a b : D) : Option D := match a.py, b.py with
  | some p, some q => if dOk p && dOk q then some (.bl (PyData.eqv p q)) else none
  | _, _ => none
def neD (a b : D) : Option D := match a.py, b.py with
  | some p, some q => if dOk p && dOk q then some (.bl (!PyData.eqv p q)) else none
  | _, _ => none
section
variable {K : PySem.W.Frag}
theorem two_py {a b d : D} {f : PyData → PyData → D} (e : (match a.py, b.py with
  | some p, some q => if dOk p && dOk q then some (f p q) else none
  | _, _ => none) = some d) : ∃ p q, a.py = some p ∧ b.py = some q ∧ dOk p = true ∧ dOk q = true ∧ d = f p q := by
  cases q1 : a.py with
  | none => rw [q1] at e; cases e
  | some p =>
    cases q2 : b.py with
    | none => rw [q1, q2] at e; cases e
    | some q =>
      rw [q1, q2] at e
      have e : (if dOk p && dOk q then some (f p q) else none) = some d := e
      cases q3 : dOk p && dOk q with
      | false => rw [q3] at e; cases e
      | true =>
        rw [q3] at e
        cases e
        obtain ⟨h1, h2⟩ := Bool.and_eq_true_iff.mp q3
        exact ⟨p, q, rfl, rfl, h1, h2, rfl⟩
theorem o_eq : Op2 K (rEqD K) eqD := fun W H d1 d2 v1 v2 d Q hw a1 a2 e k => by
  obtain ⟨p, q, e1, e2, h1, h2, rfl⟩ := two_py (f := fun p q => .bl (PyData.eqv p q)) e
  obtain ⟨x1, y1⟩ := a1.dp e1
  obtain ⟨x2, y2⟩ := a2.dp e2
  exact ⟨p, q, x1, x2, shaped_of y1 h1, shaped_of y2 h2, k H _ (Same.refl H) (.bl _)⟩
theorem o_ne : Op2 K (rNeD K) neD := fun W H d1 d2 v1 v2 d Q hw a1 a2 e k => by
  obtain ⟨p, q, e1, e2, h1, h2, rfl⟩ := two_py (f := fun p q => .bl (!PyData.eqv p q)) e
  obtain ⟨x1, y1⟩ := a1.dp e1
  obtain ⟨x2, y2⟩ := a2.dp e2
  exact ⟨p, q, x1, x2, shaped_of y1 h1, shaped_of y2 h2, k H _ (Same.refl H) (.bl _)⟩
end
/-- in a list or a tuple of data, a sign in a text -/
def inB (a b : D) : Option Bool := match a.py, b.py with
  | some p, some (.list l) => if dOk p && dOk (.list l) then some (l.any fun z => PyData.eqv z p) else none
  | some p, some (.tuple l) => if dOk p && dOk (.tuple l) then some (l.any fun z => PyData.eqv z p) else none
  | some (.str x), some (.str y) => if x.cps.size = 1 then some (y.cps.toList.contains (x.cps.getD 0 0)) else none
  | _, _ => none
def inD (a b : D) : Option D := (inB a b).map .bl
def ninD (a b : D) : Option D := (inB a b).map fun c => .bl (!c)
def rInA (neg : Bool) (K : PySem.W.Frag) : R2 := fun x y H Q => (∃ d ds, Dp K H x d ∧ (Dp K H y (.list ds) ∨ Dp K H y (.tuple ds)) ∧ SeqAt.shaped d = true ∧ SeqAt.shaped (.list ds) = true ∧ Q (.bl (if neg then !ds.any fun z => PyData.eqv z d else ds.any fun z => PyData.eqv z d)) H) ∨
  ∃ (c : Nat) (z : Str), x = .str ⟨#[c]⟩ ∧ y = .str z ∧ Q (.bl (if neg then !decide (c ∈ z.cps.toList) else decide (c ∈ z.cps.toList))) H
theorem op_inA {X : Cx} (hu : X.A.units + 65 < cLine) : OpR X (compareOp .In) (rInA false X.K) := by
  intro pins s σ H x y v u Q I rx ry h
  rcases h with ⟨d, ds, hd, he, sd, se, q⟩ | ⟨c, z, rfl, rfl, q⟩
  · obtain ⟨as, r1⟩ := Dp.reads I d x v hd rx
    rcases he with he | he
    · obtain ⟨bs, r2⟩ := Dp.reads I (.list ds) y u he ry
      exact SeqAt.in_list_reads r2 r1 (SeqAt.canLay_of_shaped se) (SeqAt.canLay_of_shaped sd) (room_in_shaped sd hu) ⟨.bl _, H, I, rfl, q⟩
    · obtain ⟨bs, r2⟩ := Dp.reads I (.tuple ds) y u he ry
      exact SeqAt.in_tuple_reads r2 r1 (SeqAt.canLay_of_shaped se) (SeqAt.canLay_of_shaped sd) (room_in_shaped sd hu) ⟨.bl _, H, I, rfl, q⟩
  · exact op_in_sign pins s σ H _ _ v u Q I rx ry ⟨c, z, rfl, rfl, q⟩
theorem op_ninA {X : Cx} (hu : X.A.units + 65 < cLine) : OpR X (compareOp .NotIn) (rInA true X.K) := by
  intro pins s σ H x y v u Q I rx ry h
  rcases h with ⟨d, ds, hd, he, sd, se, q⟩ | ⟨c, z, rfl, rfl, q⟩
  · obtain ⟨as, r1⟩ := Dp.reads I d x v hd rx
    rcases he with he | he
    · obtain ⟨bs, r2⟩ := Dp.reads I (.list ds) y u he ry
      exact SeqAt.notIn_list_reads r2 r1 (SeqAt.canLay_of_shaped se) (SeqAt.canLay_of_shaped sd) (room_in_shaped sd hu) ⟨.bl _, H, I, rfl, q⟩
    · obtain ⟨bs, r2⟩ := Dp.reads I (.tuple ds) y u he ry
      exact SeqAt.notIn_tuple_reads r2 r1 (SeqAt.canLay_of_shaped se) (SeqAt.canLay_of_shaped sd) (room_in_shaped sd hu) ⟨.bl _, H, I, rfl, q⟩
  · exact op_notIn_sign pins s σ H _ _ v u Q I rx ry ⟨c, z, rfl, rfl, q⟩
theorem one_sign {x : Str} (h : x.cps.size = 1) : x = ⟨#[x.cps.getD 0 0]⟩ := by
  obtain ⟨a⟩ := x
  obtain ⟨l⟩ := a
  cases l with
  | nil => cases h
  | cons c r =>
    cases r with
    | nil => rfl
    | cons c' r => simp at h
theorem inB_ok {K : PySem.W.Frag} {W : Wd} {H : Hp} {a b : D} {v1 v2 : V} {c : Bool} (neg : Bool) {Q : VK} (a1 : AW K W H a v1) (a2 : AW K W H b v2) (e : inB a b = some c) (q : Q (.bl (if neg then !c else c)) H) : rInA neg K v1 v2 H Q := by
  unfold inB at e
  cases e1 : a.py with
  | none => rw [e1] at e; cases e
  | some p =>
    cases e2 : b.py with
    | none => rw [e1, e2] at e; cases p <;> cases e
    | some t =>
      rw [e1, e2] at e
      obtain ⟨x1, y1⟩ := a1.dp e1
      obtain ⟨x2, y2⟩ := a2.dp e2
      have seq : ∀ {l : List PyData}, (Dp K H v2 (.list l) ∨ Dp K H v2 (.tuple l)) → PyData.canLayAll0 l = true → dOk (.list l) = true → dOk p = true → c = (l.any fun z => PyData.eqv z p) → rInA neg K v1 v2 H Q := fun {l} h hl hd hp hc => by
        subst hc
        exact .inl ⟨p, l, x1, h, shaped_of y1 hp, shaped_of (by simpa [PyData.canLay0] using hl) hd, q⟩
      cases t with
      | list l =>
        have e : (if dOk p && dOk (.list l) then some (l.any fun z => PyData.eqv z p) else none) = some c := by cases p <;> exact e
        cases h : dOk p && dOk (.list l) with
        | false => rw [h] at e; cases e
        | true =>
          rw [h] at e
          cases e
          obtain ⟨h1, h2⟩ := Bool.and_eq_true_iff.mp h
          exact seq (.inl x2) (by simpa [PyData.canLay0] using y2) h2 h1 rfl
      | tuple l =>
        have e : (if dOk p && dOk (.tuple l) then some (l.any fun z => PyData.eqv z p) else none) = some c := by cases p <;> exact e
        cases h : dOk p && dOk (.tuple l) with
        | false => rw [h] at e; cases e
        | true =>
          rw [h] at e
          cases e
          obtain ⟨h1, h2⟩ := Bool.and_eq_true_iff.mp h
          exact seq (.inr x2) (by simpa [PyData.canLay0] using y2) (by simpa [dOk, PyData.depth] using h2) h1 rfl
      | str y =>
        cases p with
        | str x =>
          have e : (if x.cps.size = 1 then some (y.cps.toList.contains (x.cps.getD 0 0)) else none) = some c := e
          by_cases h : x.cps.size = 1
          · rw [if_pos h] at e
            cases e
            cases x1
            cases x2
            refine .inr ⟨x.cps.getD 0 0, y, by rw [← one_sign h], rfl, ?_⟩
            rw [List.contains_eq_mem] at q
            exact q
          · rw [if_neg h] at e; cases e
        | _ => cases e
      | none => cases p <;> cases e
      | bool _ => cases p <;> cases e
      | int _ => cases p <;> cases e
      | dict _ => cases p <;> cases e
section
variable {K : PySem.W.Frag}
theorem o_in : Op2 K (rInA false K) inD := fun W H d1 d2 v1 v2 d Q hw a1 a2 e k => by
  obtain ⟨c, h1, h2⟩ := Option.map_eq_some_iff.mp (show (inB d1 d2).map D.bl = some d from e)
  subst h2
  exact inB_ok false a1 a2 h1 (k H _ (Same.refl H) (.bl _))
theorem o_nin : Op2 K (rInA true K) ninD := fun W H d1 d2 v1 v2 d Q hw a1 a2 e k => by
  obtain ⟨c, h1, h2⟩ := Option.map_eq_some_iff.mp (show (inB d1 d2).map (fun c => D.bl (!c)) = some d from e)
  subst h2
  exact inB_ok true a1 a2 h1 (k H _ (Same.refl H) (.bl _))
end

/-! ### numbers -/
section
variable {K : PySem.W.Frag}
def ii (f : Int → Int → Option D) : D → D → Option D
  | .int i, .int j => f i j
  | _, _ => none
theorem AW.int_inv {W : Wd} {H : Hp} {i : Int} {v : V} (h : AW K W H (.int i) v) : v = .int i := by
  cases h with | av h => cases h; rfl
theorem AW.str_inv {W : Wd} {H : Hp} {x : Str} {v : V} (h : AW K W H (.str x) v) : v = .str x ∧ PyData.strOk x = true := by
  cases h with | av h => cases h with | str h => exact ⟨rfl, h⟩
theorem AW.bl_inv {W : Wd} {H : Hp} {b : Bool} {v : V} (h : AW K W H (.bl b) v) : v = .bl b := by
  cases h with | av h => cases h; rfl
theorem AW.non_inv {W : Wd} {H : Hp} {v : V} (h : AW K W H .non v) : v = .non := by
  cases h with | av h => cases h; rfl
theorem ii_inv {f : Int → Int → Option D} {a b d : D} (e : ii f a b = some d) : ∃ i j, a = .int i ∧ b = .int j ∧ f i j = some d := by
  cases a with
  | int i => cases b with
    | int j => exact ⟨i, j, rfl, rfl, e⟩
    | _ => cases e
  | _ => cases b <;> cases e
theorem o_int0 {g : Int → Int → Int} : Op2 K (rI0 fun i j => .int (g i j)) (ii fun i j => some (.int (g i j))) := fun W H d1 d2 v1 v2 d Q hw a1 a2 e k => by
  obtain ⟨i, j, rfl, rfl, e0⟩ := ii_inv e
  clear e
  have e := e0
  clear e0
  cases e
  cases a1.int_inv
  cases a2.int_inv
  exact ⟨i, j, rfl, rfl, k H _ (Same.refl H) (.int _)⟩
theorem o_intC {C : Int → Int → Prop} [∀ i j, Decidable (C i j)] {g : Int → Int → Int} : Op2 K (rI C fun i j => .int (g i j)) (ii fun i j => if C i j then some (.int (g i j)) else none) := fun W H d1 d2 v1 v2 d Q hw a1 a2 e k => by
  obtain ⟨i, j, rfl, rfl, e0⟩ := ii_inv e
  clear e
  have e := e0
  clear e0
  by_cases h : C i j
  · rw [if_pos h] at e
    cases e
    cases a1.int_inv
    cases a2.int_inv
    exact ⟨i, j, rfl, rfl, h, k H _ (Same.refl H) (.int _)⟩
  · rw [if_neg h] at e; cases e
theorem o_cmpI {g : Int → Int → Bool} : Op2 K (rI0 fun i j => .bl (g i j)) (ii fun i j => some (.bl (g i j))) := fun W H d1 d2 v1 v2 d Q hw a1 a2 e k => by
  obtain ⟨i, j, rfl, rfl, e0⟩ := ii_inv e
  clear e
  have e := e0
  clear e0
  cases e
  cases a1.int_inv
  cases a2.int_inv
  exact ⟨i, j, rfl, rfl, k H _ (Same.refl H) (.bl _)⟩
instance (i j : Int) : Decidable (CMul i j) := by unfold CMul; infer_instance
instance (i j : Int) : Decidable (CDiv i j) := by unfold CDiv; infer_instance
instance (i j : Int) : Decidable (CPow i j) := by unfold CPow; infer_instance
def subD : D → D → Option D := ii fun i j => some (.int (i - j))
def mulD : D → D → Option D := ii fun i j => if CMul i j then some (.int (i * j)) else none
def fdivD : D → D → Option D := ii fun i j => if CDiv i j then some (.int (i / j)) else none
def modD : D → D → Option D := ii fun i j => if 0 < j then some (.int (i % j)) else none
def powD : D → D → Option D := ii fun i j => if CPow i j then some (.int (i ^ j.toNat)) else none
def ltD : D → D → Option D := ii fun i j => some (.bl (decide (i < j)))
def leD : D → D → Option D := ii fun i j => some (.bl (decide (i ≤ j)))
def gtD : D → D → Option D := ii fun i j => some (.bl (decide (j < i)))
def geD : D → D → Option D := ii fun i j => some (.bl (decide (j ≤ i)))
end

/-! ### + of ints, texts, lists, tuples -/
section
variable {K : PySem.W.Frag} {W : Wd} {H : Hp}
theorem new_lst {p : Addr} {ds : List D} {xs : List V} (hw : ∀ a, W a → ∃ o, H a = some o) (hp : H p = none) (a : AVs K W H ds xs) : AV K W (upd H p (.lst xs)) (.lst ds) (.ref p) :=
  .lst (fun z => by obtain ⟨o, e⟩ := hw p z; rw [hp] at e; cases e) upd_same (a.mv (same_mv (upd_keep hp)))
theorem new_tup {p : Addr} {ds : List D} {xs : List V} (hw : ∀ a, W a → ∃ o, H a = some o) (hp : H p = none) (a : AVs K W H ds xs) : AV K W (upd H p (.tup xs)) (.tup ds) (.ref p) :=
  .tup (.inl ⟨fun z => (by obtain ⟨o, e⟩ := hw p z; rw [hp] at e; cases e), upd_same⟩) (a.mv (same_mv (upd_keep hp)))
theorem strOk_append {x y : Str} (hx : PyData.strOk x = true) (hy : PyData.strOk y = true) : PyData.strOk (x ++ y) = true := by
  unfold PyData.strOk at *
  have e : (x ++ y).cps = x.cps ++ y.cps := rfl
  rw [e, Array.all_append, hx, hy]; rfl
end
def addD (a b : D) : Option D := match a, b with
  | .int i, .int j => some (.int (i + j))
  | .str x, .str y => if x.length + y.length ≤ sizeLine then some (.str (x ++ y)) else none
  | .lst xs, .lst ys => if xs.length + ys.length ≤ sizeLine then some (.lst (xs ++ ys)) else none
  | .tup xs, .tup ys => if xs.length + ys.length ≤ sizeLine then some (.tup (xs ++ ys)) else none
  | _, _ => none
def rAddA (K : PySem.W.Frag) : R2 := fun x y H Q => ((rI0 fun i j => .int (i + j)) x y H Q) ∨ ((∃ i j, x = .str i ∧ y = .str j ∧ i.length + j.length ≤ sizeLine ∧ Q (.str (i ++ j)) H) ∨ (rCat x y H Q ∨ rCatA K x y H Q))
theorem op_addA {X : Cx} : OpR X (binaryOp .Add) (rAddA X.K) := OpR.or op_add (OpR.or op_add_str (OpR.or op_cat op_catA))
theorem o_add {K : PySem.W.Frag} : Op2 K (rAddA K) addD := fun W H d1 d2 v1 v2 d Q hw a1 a2 e k => by
  cases d1 with
  | int i => cases d2 with
    | int j =>
      cases e
      cases a1.int_inv
      cases a2.int_inv
      exact .inl ⟨i, j, rfl, rfl, k H _ (Same.refl H) (.int _)⟩
    | _ => cases e
  | str x => cases d2 with
    | str y =>
      have e : (if x.length + y.length ≤ sizeLine then some (D.str (x ++ y)) else none) = some d := e
      by_cases h : x.length + y.length ≤ sizeLine
      · rw [if_pos h] at e
        cases e
        obtain ⟨rfl, h1⟩ := a1.str_inv
        obtain ⟨rfl, h2⟩ := a2.str_inv
        exact .inr (.inl ⟨x, y, rfl, rfl, h, k H _ (Same.refl H) (.str (strOk_append h1 h2))⟩)
      · rw [if_neg h] at e; cases e
    | _ => cases e
  | lst xs => cases d2 with
    | lst ys =>
      have e : (if xs.length + ys.length ≤ sizeLine then some (D.lst (xs ++ ys)) else none) = some d := e
      by_cases h : xs.length + ys.length ≤ sizeLine
      · rw [if_pos h] at e
        cases e
        obtain ⟨a, vs, rfl, h1, q1⟩ := a1.sq
        obtain ⟨b, us, rfl, h2, q2⟩ := a2.sq
        refine .inr (.inr (.inl ⟨a, b, vs, us, rfl, rfl, h1, h2, by rw [← q1.length, ← q2.length]; exact h, fun p hp => ?_⟩))
        exact k _ _ (upd_keep hp) (new_lst hw hp (q1.append q2))
      · rw [if_neg h] at e; cases e
    | _ => cases e
  | tup xs => cases d2 with
    | tup ys =>
      have e : (if xs.length + ys.length ≤ sizeLine then some (D.tup (xs ++ ys)) else none) = some d := e
      by_cases h : xs.length + ys.length ≤ sizeLine
      · rw [if_pos h] at e
        cases e
        obtain ⟨a, vs, rfl, h1, q1⟩ := a1.tq
        obtain ⟨b, us, rfl, h2, q2⟩ := a2.tq
        refine .inr (.inr (.inr ⟨a, b, vs, us, rfl, rfl, h1.sq, h2.sq, by rw [← q1.length, ← q2.length]; exact h, fun z => ?_, fun z1 z2 => ?_, fun _ _ p hp => ?_⟩))
        · subst z
          cases q1
          exact k H _ (Same.refl H) (.tup h2 q2)
        · subst z2
          cases q2
          rw [List.append_nil] at k
          exact k H _ (Same.refl H) (.tup h1 q1)
        · exact k _ _ (upd_keep hp) (new_tup hw hp (q1.append q2))
      · rw [if_neg h] at e; cases e
    | _ => cases e
  | _ => cases e

/-! ### is None -/
def D.isNon : D → Bool
  | .non => true
  | _ => false
def isD (a b : D) : Option D := match b with
  | .non => some (.bl a.isNon)
  | _ => none
def isnD (a b : D) : Option D := match b with
  | .non => some (.bl (!a.isNon))
  | _ => none
theorem AW.isN {K : PySem.W.Frag} {W : Wd} {H : Hp} {d : D} {v : V} (h : AW K W H d v) : decide (v = .non) = d.isNon := by
  cases h with
  | av h => cases h <;> simp [D.isNon]
  | lst h hs => simp [D.isNon]
  | fdc h hs => simp [D.isNon]
theorem o_is {K : PySem.W.Frag} : Op2 K (fun x y H Q => y = .non ∧ Q (.bl (decide (x = .non))) H) isD := fun W H d1 d2 v1 v2 d Q hw a1 a2 e k => by
  cases d2 with
  | non =>
    cases a2.non_inv
    refine ⟨rfl, ?_⟩
    rw [a1.isN]
    cases e
    exact k H _ (Same.refl H) (.bl _)
  | _ => cases e
theorem o_isn {K : PySem.W.Frag} : Op2 K (fun x y H Q => y = .non ∧ Q (.bl (!decide (x = .non))) H) isnD := fun W H d1 d2 v1 v2 d Q hw a1 a2 e k => by
  cases d2 with
  | non =>
    cases a2.non_inv
    refine ⟨rfl, ?_⟩
    rw [a1.isN]
    cases e
    exact k H _ (Same.refl H) (.bl _)
  | _ => cases e
end Bv
set_option Elab.async false
set_option linter.all false
set_option maxRecDepth 100000
set_option maxHeartbeats 4000000
/-! By value: truth, tests, and, or, not, conditional expressions; argument lists, displays; attributes; built-in functions. -/
namespace Bv
open PySem PySem.Spec L2
open PyProof.Rows hiding St
variable [HasW]

/-! ### truth -/
def truthD : D → Option Bool
  | .non => some false
  | .bl b => some b
  | .int i => some (i != 0)
  | .str x => if x.length ≤ sizeLine then some ((x.length : Int) != 0) else none
  | .lst ds => some (!ds.isEmpty)
  | .tup ds => some (!ds.isEmpty)
  | .dic _ => none
  | .scr ns => some (!ns.isEmpty)
  | .obj _ _ => none
  | .gl _ => none
theorem AVs.isEmpty {K : PySem.W.Frag} {W : Wd} {H : Hp} : ∀ {ds : List D} {vs : List V}, AVs K W H ds vs → ds.isEmpty = vs.isEmpty
  | _, _, .nil => rfl
  | _, _, .cons _ _ => rfl
theorem AVk.isEmpty {K : PySem.W.Frag} {W : Wd} {H : Hp} : ∀ {ds : List (D × D)} {vs : List (Key × V)}, AVk K W H ds vs → ds.isEmpty = vs.isEmpty
  | _, _, .nil => rfl
  | _, _, .cons _ _ _ => rfl
theorem AW.tru {K : PySem.W.Frag} {W : Wd} {H : Hp} {d : D} {v : V} {b : Bool} (h : AW K W H d v) (e : truthD d = some b) : TruV K v H b := by
  cases d with
  | non => cases h.non_inv; cases e; rfl
  | bl c => cases h.bl_inv; cases e; rfl
  | int i => cases h.int_inv; cases e; rfl
  | str x =>
    obtain ⟨rfl, _⟩ := h.str_inv
    have e : (if x.length ≤ sizeLine then some ((x.length : Int) != 0) else none) = some b := e
    by_cases hx : x.length ≤ sizeLine
    · rw [if_pos hx] at e
      cases e
      exact ⟨hx, rfl⟩
    · rw [if_neg hx] at e; cases e
  | lst ds =>
    obtain ⟨a, xs, rfl, h1, h2⟩ := h.sq
    cases e
    exact .inl ⟨xs, .inl (.inl h1), by rw [h2.isEmpty]⟩
  | tup ds =>
    obtain ⟨a, xs, rfl, h1, h2⟩ := h.tq
    cases e
    exact .inr (.inl ⟨xs, h1.sq, by rw [h2.isEmpty]⟩)
  | dic ds => cases e
  | scr ns =>
    cases e
    cases h with
    | av h => cases h with
      | scr r => exact .inl ⟨_, r.sl, by simp⟩
  | obj _ _ => cases e
  | gl _ => cases e
def truthX (S : Sto) (x : X) : Option Bool := (x.get S).bind truthD
def m_truth (m : M) : MG Bool := fun e S => (m e S).bind fun x S1 => match truthX S1 x with
  | some b => .ok b S1
  | none => .bad
def tb : X → Sto → R Bool := fun x S => match x with
  | .d (.bl b) => .ok b S
  | _ => .bad
/-- a comparison as a test -/
def m_tb (m : M) : MG Bool := fun e S => (m e S).bind tb
def m_notb (m : MG Bool) : MG Bool := fun e S => (m e S).bind fun b S1 => .ok (!b) S1
def m_andb (ma mb : MG Bool) : MG Bool := fun e S => (ma e S).bind fun b S1 => if b then mb e S1 else .ok false S1
def m_orb (ma mb : MG Bool) : MG Bool := fun e S => (ma e S).bind fun b S1 => if b then .ok true S1 else mb e S1
def m_bl (m : MG Bool) : M := fun e S => (m e S).bind fun b S1 => .ok (.d (.bl b)) S1
def m_not (m : M) : M := m_bl (m_notb (m_truth m))
def m_and (ma mb : M) : M := fun e S => (ma e S).bind fun x S1 => match truthX S1 x with
  | some true => mb e S1
  | some false => .ok x S1
  | none => .bad
def m_or (ma mb : M) : M := fun e S => (ma e S).bind fun x S1 => match truthX S1 x with
  | some true => .ok x S1
  | some false => mb e S1
  | none => .bad
def m_if (mt : MG Bool) (ma mb : M) : M := fun e S => (mt e S).bind fun b S1 => if b then ma e S1 else mb e S1
section
variable {X : Cx} {Wx : WX} {pos : Pos} {a b c : Expr} {ma mb mc : M} {rest : List Expr} {mt mu : MG Bool}
theorem AX.tru {K : PySem.W.Frag} {Z : Wd} {ρ : List Addr} {S : Sto} {H : Hp} {x : Bv.X} {v : V} {k : Bool} (st : Sta K Z ρ S H) (h : AX K (Wn Z ρ) ρ H x v) (e : truthX S x = some k) : TruV K v H k := by
  obtain ⟨d, h1, h2⟩ := Option.bind_eq_some_iff.mp e
  exact (h.get st h1).tru h2
theorem mt_truth (h : ME X Wx a ma) (he : ∀ whole, isTrue a X.env whole = (do let v ← whole; standAt a.pos; holding [v] (truthy v)) := by intro _; rfl) : MT X Wx a (m_truth ma) := by
  refine ⟨fun pins s σ H Q I hq => (pt_truth h he).run pins s σ H Q I ?_⟩
  obtain ⟨Z, ρ, e, S, st, ev, p⟩ := hq
  refine tt_bind st ev p fun ρ1 H1 v x S1 st1 g1 ev1 a1 p1 => ?_
  cases q : truthX S1 x with
  | none => rw [q] at p1; exact p1.elim
  | some k =>
    rw [q] at p1
    exact ⟨k, a1.tru st1 q, p1.ret0 st1 rfl⟩
theorem mt_cmp {op : CmpOp} {r : R2} {f : D → D → Option D} (ho : OpR X (compareOp op) r) (hf : Op2 X.K r f) (ha : ME X Wx a ma) (hb : ME X Wx b mb) (hm : behindInMarks op b = false := by first | exact nomark _ | (with_unfolding_all rfl)) : MT X Wx (.Compare a [op] [b] pos) (m_tb (m_op2 f ma mb)) := by
  refine ⟨fun pins s σ H Q I hq => (pt_cmpR ho ha hb hm).run pins s σ H Q I ?_⟩
  obtain ⟨Z, ρ, e, S, st, ev, p⟩ := hq
  show tOp r (RE X.K Wx ma) (RE X.K Wx mb) σ H fun x H' => ∃ k, x = .bl k ∧ Q k H'
  refine two_run (f := f) hf ?_
  refine tt_bind st ev p fun ρ1 H1 v x S1 st1 g1 ev1 a1 p1 => ?_
  cases x with
  | r n => exact p1.elim
  | d d =>
    cases d with
    | bl k =>
      cases a1 with
      | d h =>
        cases h
        exact ⟨k, rfl, p1.ret0 st1 rfl⟩
    | _ => exact p1.elim
theorem mt_not (h : MT X Wx a mt) : MT X Wx (.UnaryOp .Not a pos) (m_notb mt) := by
  refine ⟨fun pins s σ H Q I hq => (pt_not h).run pins s σ H Q I ?_⟩
  obtain ⟨Z, ρ, e, S, st, ev, p⟩ := hq
  refine tt_bind st ev p fun ρ1 H1 v x S1 st1 g1 ev1 a1 p1 => ?_
  cases (show x = v from a1)
  exact p1.ret0 st1 rfl
abbrev MW (X : Cx) (Wx : WX) (e : Expr) (m : MG Bool) : Prop := PW X e (RB X.K Wx m)
theorem mw_and1 (h : MT X Wx a mt) : MW X Wx (.BoolOp .And [a] pos) mt := pw_and1 h
theorem mw_or1 (h : MT X Wx a mt) : MW X Wx (.BoolOp .Or [a] pos) mt := pw_or1 h
theorem mw_and (h : MT X Wx a mt) (h2 : MW X Wx (.BoolOp .And (b :: rest) pos) mu) : MW X Wx (.BoolOp .And (a :: b :: rest) pos) (m_andb mt mu) := by
  refine ⟨fun wh pins s σ H Q I hq => (pw_and h h2).run wh pins s σ H Q I ?_⟩
  obtain ⟨Z, ρ, e, S, st, ev, p⟩ := hq
  refine tt_bind st ev p fun ρ1 H1 v x S1 st1 g1 ev1 a1 p1 => ?_
  cases (show x = v from a1)
  cases v with
  | true => exact ⟨Z, ρ1, e, S1, st1, ev1, p1⟩
  | false => exact p1.ret0 st1 rfl
theorem mw_or (h : MT X Wx a mt) (h2 : MW X Wx (.BoolOp .Or (b :: rest) pos) mu) : MW X Wx (.BoolOp .Or (a :: b :: rest) pos) (m_orb mt mu) := by
  refine ⟨fun wh pins s σ H Q I hq => (pw_or h h2).run wh pins s σ H Q I ?_⟩
  obtain ⟨Z, ρ, e, S, st, ev, p⟩ := hq
  refine tt_bind st ev p fun ρ1 H1 v x S1 st1 g1 ev1 a1 p1 => ?_
  cases (show x = v from a1)
  cases v with
  | true => exact p1.ret0 st1 rfl
  | false => exact ⟨Z, ρ1, e, S1, st1, ev1, p1⟩
theorem mt_w (h : MW X Wx a mt) : MT X Wx a mt := h.pt
/-- as values -/
theorem me_not (h : ME X Wx a ma) : ME X Wx (.UnaryOp .Not a pos) (m_not ma) := PE.of (pe_notT h) fun σ H Q ⟨Z, ρ, e, S, st, ev, p⟩ => by
  have p : Post X.K Z ρ H Wx σ Q ((ma e S).bind fun x S1 => ((match truthX S1 x with
    | some b => R.ok b S1
    | none => .bad).bind fun b S1 => R.ok (!b) S1).bind fun b S1 => .ok (.d (.bl b)) S1) := by
    have e1 : m_not ma e S = _ := rfl
    rw [e1] at p
    unfold m_not m_bl m_notb m_truth at p
    cases q : ma e S with
    | ok x S1 => rw [q] at p; exact p
    | err C fs S1 => rw [q] at p; exact p
    | bad => rw [q] at p; exact p
  refine tt_bind st ev p fun ρ1 H1 v x S1 st1 g1 ev1 a1 p1 => ?_
  cases q : truthX S1 x with
  | none => rw [q] at p1; exact p1.elim
  | some k =>
    rw [q] at p1
    exact ⟨k, a1.tru st1 q, PostG.ret0 p1 st1 (.d (.bl _))⟩
theorem me_one {op} (h : ME X Wx a ma) : ME X Wx (.BoolOp op [a] pos) ma := pe_one h
theorem me_and (h : ME X Wx a ma) (h2 : ME X Wx (.BoolOp .And (b :: rest) pos) mb) : ME X Wx (.BoolOp .And (a :: b :: rest) pos) (m_and ma mb) := PE.of (pe_andT h h2) fun σ H Q ⟨Z, ρ, e, S, st, ev, p⟩ => by
  refine tt_bind st ev p fun ρ1 H1 v x S1 st1 g1 ev1 a1 p1 => ?_
  cases q : truthX S1 x with
  | none => rw [q] at p1; exact p1.elim
  | some k =>
    rw [q] at p1
    refine ⟨k, a1.tru st1 q, ?_⟩
    cases k with
    | true => rw [if_pos rfl]; exact ⟨Z, ρ1, e, S1, st1, ev1, p1⟩
    | false => rw [if_neg Bool.false_ne_true]; exact PostG.ret0 p1 st1 a1
theorem me_or (h : ME X Wx a ma) (h2 : ME X Wx (.BoolOp .Or (b :: rest) pos) mb) : ME X Wx (.BoolOp .Or (a :: b :: rest) pos) (m_or ma mb) := PE.of (pe_orT h h2) fun σ H Q ⟨Z, ρ, e, S, st, ev, p⟩ => by
  refine tt_bind st ev p fun ρ1 H1 v x S1 st1 g1 ev1 a1 p1 => ?_
  cases q : truthX S1 x with
  | none => rw [q] at p1; exact p1.elim
  | some k =>
    rw [q] at p1
    refine ⟨k, a1.tru st1 q, ?_⟩
    cases k with
    | true => rw [if_pos rfl]; exact PostG.ret0 p1 st1 a1
    | false => rw [if_neg Bool.false_ne_true]; exact ⟨Z, ρ1, e, S1, st1, ev1, p1⟩
theorem me_if (hc : MT X Wx c mt) (h : ME X Wx a ma) (h2 : ME X Wx b mb) : ME X Wx (.IfExp c a b pos) (m_if mt ma mb) := PE.of (pe_ifExp hc h h2) fun σ H Q ⟨Z, ρ, e, S, st, ev, p⟩ => by
  refine tt_bind st ev p fun ρ1 H1 v x S1 st1 g1 ev1 a1 p1 => ?_
  cases (show x = v from a1)
  cases v with
  | true => exact ⟨Z, ρ1, e, S1, st1, ev1, p1⟩
  | false => exact ⟨Z, ρ1, e, S1, st1, ev1, p1⟩
/-- a op1 b op2 c -/
theorem chain_run {r r' : R2} {f g : D → D → Option D} (hf : Op2 X.K r f) (hg : Op2 X.K r' g) {σ : St} {H : Hp} {Q : VK} (h : RE X.K Wx (m_chain f g ma mb mc) σ H Q) : tChain r r' (RE X.K Wx ma) (RE X.K Wx mb) (RE X.K Wx mc) σ H Q := by
  obtain ⟨Z, ρ, e, S, st, ev, p⟩ := h
  refine tt_bind st ev p fun ρ1 H1 v x S1 st1 g1 ev1 a1 p1 => ?_
  refine tt_bind st1 ev1 p1 fun ρ2 H2 u y S2 st2 g2 ev2 a2 p2 => ?_
  have a1' := a1.mv (g2.mv st1) g2.pre
  have := ev2
  -- the first link
  have key : ∀ d : D, op2 f S2 x y = R.ok (Bv.X.d d) S2 → ∃ d1 d2, x.get S2 = some d1 ∧ y.get S2 = some d2 ∧ f d1 d2 = some d := fun d q => by
    unfold op2 at q
    cases e1 : x.get S2 with
    | none => rw [e1] at q; cases q
    | some d1 =>
      cases e2 : y.get S2 with
      | none => rw [e1, e2] at q; cases q
      | some d2 =>
        rw [e1, e2] at q
        have q : (match f d1 d2 with
          | some d => R.ok (Bv.X.d d) S2
          | none => .bad) = .ok (Bv.X.d d) S2 := q
        cases e3 : f d1 d2 with
        | none => rw [e3] at q; cases q
        | some d3 => rw [e3] at q; cases q; exact ⟨d1, d2, rfl, rfl, e3⟩
  cases q : op2 f S2 x y with
  | bad => rw [q] at p2; exact p2.elim
  | err C fs S3 => unfold op2 at q; split at q <;> (first | cases q | (split at q <;> cases q))
  | ok z S3 =>
    have hz : ∃ d : D, z = Bv.X.d d ∧ S3 = S2 := by
      unfold op2 at q
      split at q
      · split at q
        · cases q; exact ⟨_, rfl, rfl⟩
        · cases q
      · cases q
    obtain ⟨d, rfl, rfl⟩ := hz
    obtain ⟨d1, d2, e1, e2, e3⟩ := key d q
    rw [q] at p2
    refine hf (Wn Z ρ2) H2 d1 d2 v u d _ (fun _ h => st2.thereW h) (a1'.get st2 e1) (a2.get st2 e2) e3 fun H3 w k a3 => ?_
    cases d with
    | bl kk =>
      cases a3
      refine ⟨kk, rfl, ?_⟩
      have st3 := st2.grow k
      have g3 : Go ρ2 H2 ρ2 H3 := Go.grow k
      have ev3 := ev2.mv (g3.mv st2) g3.pre
      cases kk with
      | true =>
        rw [if_pos rfl]
        refine tt_bind st3 ev3 (PostG.shift g3 st3 p2) fun ρ4 H4 w' y' S4 st4 g4 ev4 a4 p4 => ?_
        exact op2_run hg st4 (a2.mv ((g3.trans g4).mv st2) (g3.trans g4).pre) a4 p4
      | false =>
        rw [if_neg Bool.false_ne_true]
        exact PostG.ret p2 st2 k (.d (.bl _))
    | _ => exact p2.elim
theorem me_chain {op op' : CmpOp} {r r' : R2} {f g : D → D → Option D} (ho : OpR X (compareOp op) r) (ho' : OpR X (compareOp op') r') (hf : Op2 X.K r f) (hg : Op2 X.K r' g) (ha : ME X Wx a ma) (hb : ME X Wx b mb) (hc : ME X Wx c mc)
    (hm : lastMarks [op, op'] [b, c] = false := by with_unfolding_all rfl) : ME X Wx (.Compare a [op, op'] [b, c] pos) (m_chain f g ma mb mc) := PE.of (pe_chain ho ho' ha hb hc hm) fun _ _ _ h => chain_run hf hg h
/-- a test of which the value is a bool, from the reading of the value -/
theorem tb_run {m : M} {σ : St} {H : Hp} {Q : Bool → Hp → Prop} (h : RB X.K Wx (m_tb m) σ H Q) : RE X.K Wx m σ H fun x H' => ∃ k, x = .bl k ∧ Q k H' := by
  obtain ⟨Z, ρ, e, S, st, ev, p⟩ := h
  refine tt_bind st ev p fun ρ1 H1 v x S1 st1 g1 ev1 a1 p1 => ?_
  cases x with
  | r n => exact p1.elim
  | d d =>
    cases d with
    | bl k =>
      cases a1 with
      | d h =>
        cases h
        exact ⟨k, rfl, p1.ret0 st1 rfl⟩
    | _ => exact p1.elim
theorem mt_chain {op op' : CmpOp} {r r' : R2} {f g : D → D → Option D} (ho : OpR X (compareOp op) r) (ho' : OpR X (compareOp op') r') (hf : Op2 X.K r f) (hg : Op2 X.K r' g) (ha : ME X Wx a ma) (hb : ME X Wx b mb) (hc : ME X Wx c mc)
    (hm : lastMarks [op, op'] [b, c] = false := by with_unfolding_all rfl) : MT X Wx (.Compare a [op, op'] [b, c] pos) (m_tb (m_chain f g ma mb mc)) :=
  ⟨fun pins s σ H Q I hq => (pt_chain ho ho' ha hb hc hm).run pins s σ H Q I (chain_run hf hg (tb_run hq))⟩
end
end Bv
set_option Elab.async false
set_option linter.all false
set_option maxRecDepth 100000
set_option maxHeartbeats 4000000
/-! By value: argument lists, displays, attributes, subscripts, slices, calls of what is built in. -/
namespace Bv
open PySem PySem.Spec L2
open PyProof.Rows hiding St
variable [HasW]

/-- a step that may not be there -/
def optR {α : Type} (o : Option α) (S : Sto) : R α := match o with
  | some a => .ok a S
  | none => .bad
theorem PostG.opt {α β : Type} {rel : Wd → List Addr → Hp → α → β → Prop} {K : PySem.W.Frag} {Z : Wd} {ρ : List Addr} {H : Hp} {Wx : WX} {σ : St} {Q : β → Hp → Prop} {o : Option α} {S : Sto} (p : PostG rel K Z ρ H Wx σ Q (optR o S)) : ∃ a, o = some a ∧ PostG rel K Z ρ H Wx σ Q (.ok a S) := by
  cases o with
  | none => exact p.elim
  | some a => exact ⟨a, rfl, p⟩

/-! ### argument lists -/
def m_nil : MG (List X) := fun _ S => .ok [] S
def m_cons (m : M) (ms : MG (List X)) : MG (List X) := fun e S => (m e S).bind fun x S1 => (ms e S1).bind fun xs S2 => .ok (x :: xs) S2
/-- the items of a list, a tuple -/
def items (S : Sto) : X → Option (List X)
  | .d (.lst ds) => some (ds.map .d)
  | .d (.tup ds) => some (ds.map .d)
  | .d _ => none
  | .r n => match S[n]? with
    | some (.lst xs) => some xs
    | _ => none
def m_star (m : M) (ms : MG (List X)) : MG (List X) := fun e S => (m e S).bind fun x S1 => match items S1 x with
  | some ys => (ms e S1).bind fun xs S2 => .ok (ys ++ xs) S2
  | none => .bad
section
variable {X : Cx} {Wx : WX} {pos p : Pos} {a b c : Expr} {es : List Expr} {ma mb mc m : M} {ms : MG (List Bv.X)}
theorem Paired.append {α β : Type} {F : α → β → Prop} : ∀ {l1 l2 : List α} {r1 r2 : List β}, Paired F l1 r1 → Paired F l2 r2 → Paired F (l1 ++ l2) (r1 ++ r2)
  | _, _, _, _, .nil, s => s
  | _, _, _, _, .cons r t, s => .cons r (Paired.append t s)
theorem AVs.axs {K : PySem.W.Frag} {W : Wd} {ρ : List Addr} {H : Hp} : ∀ {ds : List D} {vs : List V}, AVs K W H ds vs → AXs K W ρ H (ds.map .d) vs
  | _, _, .nil => .nil
  | _, _, .cons h hs => .cons (.d h) (AVs.axs hs)
theorem AX.items {K : PySem.W.Frag} {Z : Wd} {ρ : List Addr} {S : Sto} {H : Hp} {x : Bv.X} {v : V} {ys : List Bv.X} (st : Sta K Z ρ S H) (h : AX K (Wn Z ρ) ρ H x v) (e : items S x = some ys) :
    ∃ q xs, v = .ref q ∧ (SqT K H q xs ∨ SqL K H q xs) ∧ AXs K (Wn Z ρ) ρ H ys xs := by
  cases h with
  | d h =>
    cases h with
    | lst w r hs => cases e; exact ⟨_, _, rfl, .inr (.inl (.inl r)), hs.axs⟩
    | tup t hs => cases e; exact ⟨_, _, rfl, .inl t.sq, hs.axs⟩
    | _ => cases e
  | r h =>
    rename_i n q
    have e1 : (match S[n]? with
      | some (.lst xs) => some xs
      | _ => none) = some ys := e
    cases z : S[n]? with
    | none => rw [z] at e1; cases e1
    | some o =>
      rw [z] at e1
      cases o with
      | lst xs =>
        cases e1
        obtain ⟨vs, h1, h2⟩ := st.ob n _ q z h
        exact ⟨q, vs, rfl, .inr (.inl (.inl h1)), h2⟩
      | _ => cases e1
theorem ma_nil : MA X Wx [] m_nil := ⟨fun pos pins s σ H Q I h => pa_nil.run pos pins s σ H Q I (by
  obtain ⟨Z, ρ, e, S, st, ev, p⟩ := h
  exact PostG.ret0 p st .nil)⟩
theorem PA.of {X : Cx} {es : List Expr} {t t' : TA} (h : PA X es t) (w : ∀ σ H Q, t' σ H Q → t σ H Q) : PA X es t' := ⟨fun pos pins s σ H Q I q => h.run pos pins s σ H Q I (w σ H Q q)⟩
theorem ma_cons (h : ME X Wx a ma) (h2 : MA X Wx es ms) (hs : starEach (a :: es) X.env = (false, eval a X.env) :: starEach es X.env := by rfl) : MA X Wx (a :: es) (m_cons ma ms) := PA.of (pa_cons h h2 hs) fun σ H Q ⟨Z, ρ, e, S, st, ev, p⟩ => by
  refine tt_bind st ev p fun ρ1 H1 v x S1 st1 g1 ev1 a1 p1 => ?_
  refine tt_bind st1 ev1 p1 fun ρ2 H2 vs xs S2 st2 g2 ev2 a2 p2 => ?_
  exact PostG.ret0 p2 st2 (.cons (a1.mv (g2.mv st1) g2.pre) a2)
theorem ma_star (h : ME X Wx a ma) (h2 : MA X Wx es ms) (hs : starEach (.Starred a p :: es) X.env = (true, eval a X.env) :: starEach es X.env := by rfl) : MA X Wx (.Starred a p :: es) (m_star ma ms) := PA.of (StX.pa_star h h2 hs) fun σ H Q ⟨Z, ρ, e, S, st, ev, p⟩ => by
  refine tt_bind st ev p fun ρ1 H1 v x S1 st1 g1 ev1 a1 p1 => ?_
  cases q : items S1 x with
  | none => rw [q] at p1; exact p1.elim
  | some ys =>
    rw [q] at p1
    obtain ⟨b, us, rfl, hq, ha⟩ := a1.items st1 q
    refine ⟨b, us, rfl, hq, ?_⟩
    refine tt_bind st1 ev1 p1 fun ρ2 H2 vs xs S2 st2 g2 ev2 a2 p2 => ?_
    exact PostG.ret0 p2 st2 (Paired.append (ha.mv (g2.mv st1) g2.pre) a2)

/-! ### displays -/
def dispT (xs : List Bv.X) (S : Sto) : R Bv.X := match ds? xs with
  | some ds => if ds.length ≤ sizeLine then .ok (.d (.tup ds)) S else .bad
  | none => .bad
def dispL (xs : List Bv.X) (S : Sto) : R Bv.X := match ds? xs with
  | some ds => if ds.length ≤ sizeLine then .ok (.d (.lst ds)) S else .bad
  | none => .bad
/-- a list that will be changed -/
def dispN (xs : List Bv.X) (S : Sto) : R Bv.X := if xs.length ≤ sizeLine then .ok (.r S.length) (S ++ [.lst xs]) else .bad
def m_tup (ms : MG (List Bv.X)) : M := fun e S => (ms e S).bind dispT
def m_lst (ms : MG (List Bv.X)) : M := fun e S => (ms e S).bind dispL
def m_lstN (ms : MG (List Bv.X)) : M := fun e S => (ms e S).bind dispN
theorem Paired.length {α β : Type} {F : α → β → Prop} : ∀ {l : List α} {r : List β}, Paired F l r → l.length = r.length
  | _, _, .nil => rfl
  | _, _, .cons _ t => by simp [Paired.length t]
theorem me_tup {x1} (h : MA X Wx es ms) : ME X Wx (.Tuple es x1 pos) (m_tup ms) := PE.of (pe_tup h) fun σ H Q ⟨Z, ρ, e, S, st, ev, p⟩ => by
  refine tt_bind st ev p fun ρ1 H1 vs xs S1 st1 g1 ev1 a1 p1 => ?_
  unfold dispT at p1
  cases q : ds? xs with
  | none => rw [q] at p1; exact p1.elim
  | some ds =>
    rw [q] at p1
    have p1 : Post X.K Z ρ1 H1 Wx σ Q (if ds.length ≤ sizeLine then .ok (.d (.tup ds)) S1 else .bad) := p1
    by_cases hl : ds.length ≤ sizeLine
    · rw [if_pos hl] at p1
      have av := AXs.ds a1 q
      exact ⟨by rw [← av.length]; exact hl, fun p hp => PostG.ret p1 st1 (upd_keep hp) (.d (new_tup (fun _ h => st1.thereW h) hp av))⟩
    · rw [if_neg hl] at p1; exact p1.elim
theorem me_lst (h : MA X Wx es ms) : ME X Wx (.List es pos) (m_lst ms) := PE.of (pe_lst h) fun σ H Q ⟨Z, ρ, e, S, st, ev, p⟩ => by
  refine tt_bind st ev p fun ρ1 H1 vs xs S1 st1 g1 ev1 a1 p1 => ?_
  unfold dispL at p1
  cases q : ds? xs with
  | none => rw [q] at p1; exact p1.elim
  | some ds =>
    rw [q] at p1
    have p1 : Post X.K Z ρ1 H1 Wx σ Q (if ds.length ≤ sizeLine then .ok (.d (.lst ds)) S1 else .bad) := p1
    by_cases hl : ds.length ≤ sizeLine
    · rw [if_pos hl] at p1
      have av := AXs.ds a1 q
      exact ⟨by rw [← av.length]; exact hl, fun p hp => PostG.ret p1 st1 (upd_keep hp) (.d (new_lst (fun _ h => st1.thereW h) hp av))⟩
    · rw [if_neg hl] at p1; exact p1.elim
theorem Sta.pushL {K : PySem.W.Frag} {Z : Wd} {ρ : List Addr} {S : Sto} {H : Hp} {q : Addr} {xs : List Bv.X} {vs : List V} (s : Sta K Z ρ S H) (hq : H q = none) (a : AXs K (Wn Z ρ) ρ H xs vs) :
    Sta K Z (ρ ++ [q]) (S ++ [.lst xs]) (upd H q (.lst vs)) ∧ Go ρ H (ρ ++ [q]) (upd H q (.lst vs)) := by
  have g : Go ρ H (ρ ++ [q]) (upd H q (.lst vs)) := ⟨List.prefix_append _ _, fun b o h e => ⟨fun z => (by
    rcases List.mem_append.mp z with z | z
    · exact h z
    · have : b = q := by simpa using z
      rw [this, hq] at e; cases e), upd_keep hq b o e⟩, fun b _ _ e => upd_keep hq b _ e⟩
  exact s.push hq (upd_keep hq) ⟨vs, upd_same, a.mv (g.mv s) g.pre⟩
theorem me_lstN (h : MA X Wx es ms) : ME X Wx (.List es pos) (m_lstN ms) := PE.of (pe_lst h) fun σ H Q ⟨Z, ρ, e, S, st, ev, p⟩ => by
  refine tt_bind st ev p fun ρ1 H1 vs xs S1 st1 g1 ev1 a1 p1 => ?_
  unfold dispN at p1
  by_cases hl : xs.length ≤ sizeLine
  · rw [if_pos hl] at p1
    refine ⟨by rw [← Paired.length a1]; exact hl, fun q hq => ?_⟩
    obtain ⟨h1, h2⟩ := st1.pushL hq a1
    exact p1 _ _ _ h1 h2 (.r (by rw [st1.len]; simp))
  · rw [if_neg hl] at p1; exact p1.elim

/-! ### attributes -/
/-- of which classes an attribute is read -/
def attrO (Cs : List Str) (f : Str) (S : Sto) : Bv.X → Option Bv.X
  | .d (.obj C fs) => if Cs.contains C then (fs.lookup f).map .d else none
  | .d _ => none
  | .r n => match S[n]? with
    | some (.ins C fs) => if Cs.contains C then fs.lookup f else none
    | _ => none
def m_attr (Cs : List Str) (f : Str) (m : M) : M := fun e S => (m e S).bind fun x S1 => optR (attrO Cs f S1 x) S1
/-- the classes Cs are plain, none of them has an attribute f of its own -/
def AttrOk (K : PySem.W.Frag) (Cs : List Str) (f : Str) : Prop := ∀ C ∈ Cs, Cls K (He.ga K C) ∧ NoAttr K (He.ga K C) f
theorem pairF_look {K : PySem.W.Frag} {W : Wd} {ρ : List Addr} {H : Hp} : ∀ {fs : List (Str × Bv.X)} {vs : List (Str × V)} {f : Str} {x : Bv.X}, Paired (fun (p : Str × Bv.X) (q : Str × V) => p.1 = q.1 ∧ AX K W ρ H p.2 q.2) fs vs → fs.lookup f = some x → ∃ v, vs.lookup f = some v ∧ AX K W ρ H x v
  | _, _, _, _, .nil, e => by cases e
  | (g, y) :: r, (g', v) :: r', f, x, .cons ⟨h1, h2⟩ hs, e => by
    cases (show g = g' from h1)
    rw [List.lookup_cons] at e ⊢
    cases q : f == g with
    | true => rw [q] at e; cases e; exact ⟨_, rfl, h2⟩
    | false => rw [q] at e; exact pairF_look hs e
theorem pairF_none {K : PySem.W.Frag} {W : Wd} {ρ : List Addr} {H : Hp} : ∀ {fs : List (Str × Bv.X)} {vs : List (Str × V)} {f : Str}, Paired (fun (p : Str × Bv.X) (q : Str × V) => p.1 = q.1 ∧ AX K W ρ H p.2 q.2) fs vs → fs.lookup f = none → vs.lookup f = none
  | _, _, _, .nil, e => rfl
  | (g, y) :: r, (g', v) :: r', f, .cons ⟨h1, h2⟩ hs, e => by
    cases (show g = g' from h1)
    rw [List.lookup_cons] at e ⊢
    cases q : f == g with
    | true => rw [q] at e; cases e
    | false => rw [q] at e; exact pairF_none hs e
theorem ite_some {α : Type} {c : Bool} {o : Option α} {a : α} (h : (if c then o else none) = some a) : c = true ∧ o = some a := by
  cases c with
  | true => exact ⟨rfl, h⟩
  | false => cases h
theorem me_attr {f : Str} (Cs : List Str) (T : AttrOk X.K Cs f) (h : ME X Wx a ma) (hb : attributeBase a f X.env (eval a X.env) = eval a X.env := by rfl) : ME X Wx (.Attribute a f pos) (m_attr Cs f ma) := PE.of (pe_fld h hb) fun σ H Q ⟨Z, ρ, e, S, st, ev, p⟩ => by
  refine tt_bind st ev p fun ρ1 H1 v x S1 st1 g1 ev1 a1 p1 => ?_
  obtain ⟨y, hy, p2⟩ := p1.opt
  clear p1
  cases a1 with
  | d h1 =>
    cases h1 with
    | obj w r hs =>
      rename_i C q dx vs fs
      obtain ⟨hc, hl⟩ := ite_some (show (if Cs.contains C then (fs.lookup f).map Bv.X.d else none) = some y from hy)
      obtain ⟨d, z, rfl⟩ := Option.map_eq_some_iff.mp hl
      obtain ⟨v, h2, h3⟩ := hs.look z
      obtain ⟨t1, t2⟩ := T C (by simpa using hc)
      exact ⟨_, _, _, _, v, rfl, r, t1, t2, h2, PostG.ret0 p2 st1 (.d h3)⟩
    | _ => cases hy
  | r h1 =>
    rename_i n q
    cases z : S1[n]? with
    | none => simp [attrO, z] at hy
    | some o =>
      cases o with
      | ins C fs =>
        obtain ⟨hc, hl⟩ := ite_some (show (if Cs.contains C then fs.lookup f else none) = some y by simpa [attrO, z] using hy)
        obtain ⟨dx, vs, h2, h3⟩ := st1.ob n _ q z h1
        obtain ⟨v, h4, h5⟩ := pairF_look h3 hl
        obtain ⟨t1, t2⟩ := T C (by simpa using hc)
        exact ⟨_, _, _, _, v, rfl, h2, t1, t2, h4, PostG.ret0 p2 st1 h5⟩
      | _ => simp [attrO, z] at hy

/-! ### subscripts and slices -/
def ixD : Bv.X → Int → Option Bv.X
  | .d (.str z), i => if decide (z.length ≤ sizeLine) then (atI z.cps.toList i).map fun c => .d (.str ⟨#[c]⟩) else none
  | .d (.scr ns), i => (atI ns i).map fun z => .d (.int z)
  | _, _ => none
def ixO (S : Sto) (x : Bv.X) (i : Int) : Option Bv.X := match items S x with
  | some xs => atI xs i
  | none => ixD x i
def intX : Bv.X → Option Int
  | .d (.int i) => some i
  | _ => none
def m_ix (ma mb : M) : M := fun e S => (ma e S).bind fun x S1 => (mb e S1).bind fun y S2 => optR ((intX y).bind (ixO S2 x)) S2
theorem AX.int {K : PySem.W.Frag} {W : Wd} {ρ : List Addr} {H : Hp} {x : Bv.X} {v : V} {i : Int} (a : AX K W ρ H x v) (h : intX x = some i) : v = .int i := by
  cases a with
  | r _ => cases h
  | d h1 =>
    cases h1 with
    | int j => cases h; rfl
    | _ => cases h
theorem atI_pair {α β : Type} {F : α → β → Prop} {l : List α} {r : List β} (p : Paired F l r) {i : Int} {a : α} (e : atI l i = some a) : ∃ b, atI r i = some b ∧ F a b := by
  unfold atI at *
  rw [Paired.length p] at e
  cases q : ixN r.length i with
  | none => rw [q] at e; cases e
  | some j =>
    rw [q] at e
    have e : l[j]? = some a := e
    have go : ∀ {l : List α} {r : List β} {j : Nat}, Paired F l r → l[j]? = some a → ∃ b, r[j]? = some b ∧ F a b := fun {l r j} p => by
      induction p generalizing j with
      | nil => intro z; simp at z
      | cons x _ ih =>
        intro z
        cases j with
        | zero => simp at z; subst z; exact ⟨_, rfl, x⟩
        | succ n => simp at z; obtain ⟨b, h1, h2⟩ := ih z; exact ⟨b, by simpa using h1, h2⟩
    obtain ⟨b, h1, h2⟩ := go p e
    exact ⟨b, h1, h2⟩
theorem strOk_mem {z : Str} {c : Nat} (h : PyData.strOk z = true) (m : c ∈ z.cps.toList) : c < 0x110000 := by
  have h2 := Array.all_eq_true_iff_forall_mem.mp (show z.cps.all (· < 0x110000) = true from h) c (by simpa using m)
  simpa using h2
theorem strOk_of {z : Str} (h : ∀ c ∈ z.cps.toList, c < 0x110000) : PyData.strOk z = true := by
  show z.cps.all (· < 0x110000) = true
  exact Array.all_eq_true_iff_forall_mem.mpr fun c m => by simpa using h c (by simpa using m)
theorem atI_mem {α : Type} {l : List α} {i : Int} {a : α} (e : atI l i = some a) : a ∈ l := by
  unfold atI at e
  cases q : ixN l.length i with
  | none => rw [q] at e; cases e
  | some j => rw [q] at e; exact List.mem_of_getElem? e
theorem me_ix (ha : ME X Wx a ma) (hb : ME X Wx b mb) (hs : PlainIx b := by exact fun _ _ => rfl) : ME X Wx (.Subscript a b pos) (m_ix ma mb) := PE.of (pe_ix ix_seq ha hb hs) fun σ H Q ⟨Z, ρ, e, S, st, ev, p⟩ => by
  refine tt_bind st ev p fun ρ1 H1 v x S1 st1 g1 ev1 a1 p1 => ?_
  refine tt_bind st1 ev1 p1 fun ρ2 H2 u y S2 st2 g2 ev2 a2 p2 => ?_
  have a1' := a1.mv (g2.mv st1) g2.pre
  clear a1
  obtain ⟨w, hw0, p2'⟩ := p2.opt
  clear p2 p1 p
  obtain ⟨i, hi, hw⟩ := Option.bind_eq_some_iff.mp hw0
  clear hw0
  have eu := a2.int hi
  subst eu
  cases q : items S2 x with
  | some xs =>
    have q2 : atI xs i = some w := by simpa [ixO, q] using hw
    obtain ⟨b, us, rfl, hq, ha⟩ := a1'.items st2 q
    obtain ⟨w', h1, h2⟩ := atI_pair ha q2
    rcases hq with hq | hq
    · exact .inr (.inl ⟨_, us, i, w', rfl, rfl, hq, h1, PostG.ret0 p2' st2 h2⟩)
    · exact .inl ⟨_, us, i, w', rfl, rfl, hq, h1, PostG.ret0 p2' st2 h2⟩
  | none =>
    have hw2 : ixD x i = some w := by simpa [ixO, q] using hw
    clear hw
    cases a1' with
    | r h => cases hw2
    | d h =>
      cases h with
      | str hz =>
        rename_i z
        obtain ⟨hl, hc⟩ := ite_some hw2
        obtain ⟨c, q2, rfl⟩ := Option.map_eq_some_iff.mp hc
        refine .inr (.inr ⟨z, i, c, rfl, rfl, of_decide_eq_true hl, q2, PostG.ret0 p2' st2 (.d (.str ?_))⟩)
        have hc := strOk_mem hz (atI_mem q2)
        exact strOk_of fun c' m => by
          have : c' = c := by simpa using m
          rw [this]; exact hc
      | scr r =>
        rename_i q' ns
        obtain ⟨z, q2, rfl⟩ := Option.map_eq_some_iff.mp hw2
        refine .inl ⟨_, ns.map V.int, i, .int z, rfl, rfl, r.sl, ?_, PostG.ret0 p2' st2 (.d (.int z))⟩
        unfold atI at *
        rw [List.length_map]
        cases q3 : ixN ns.length i with
        | none => rw [q3] at q2; cases q2
        | some j =>
          rw [q3] at q2
          have q2 : ns[j]? = some z := q2
          show (ns.map V.int)[j]? = some (.int z)
          rw [List.getElem?_map, q2]; rfl
      | _ => cases hw2
end
end Bv
set_option Elab.async false
set_option linter.all false
set_option maxRecDepth 100000
set_option maxHeartbeats 4000000
/-! By value: statements. -/
namespace Bv
open PySem PySem.Spec L2
open PyProof.Rows hiding St
variable [HasW]

/-- how a block ends: it goes on, hands back a value, breaks, continues; or hands back data, its own store thrown away -/
inductive Out where
  | nx (e : Ev) | rt (x : X) | bk (e : Ev) | ct (e : Ev) | rp (d : D)
inductive RO where
  | go (o : Out) (S : Sto) | err (C : Str) (fs : List (Str × D)) (e : Ev) (S : Sto) | bad
abbrev MS := Ev → Sto → RO
/-- an exception's own dict -/
def ErrO (K : PySem.W.Frag) (W : Wd) (H H' : Hp) (fs : List (Str × D)) (d : Option Addr) : Prop :=
  (d = none ∧ fs = []) ∨ ∃ (dd : Addr) (vs : List (Str × V)), d = some dd ∧ H dd = none ∧ ¬ W dd ∧ H' dd = some (.xd vs) ∧ AVf K W H' fs vs
def PostS (K : PySem.W.Frag) (Z : Wd) (ρ : List Addr) (H : Hp) (Wx : WX) (D : Ends) : RO → Prop
  | .go (.nx e) S' => ∀ (ρ' : List Addr) (H' : Hp) (σ' : St), Sta K Z ρ' S' H' → Go ρ H ρ' H' → EvOk K (Wn Z ρ') ρ' H' e σ' → D.nx σ' H'
  | .go (.bk e) S' => ∀ (ρ' : List Addr) (H' : Hp) (σ' : St), Sta K Z ρ' S' H' → Go ρ H ρ' H' → EvOk K (Wn Z ρ') ρ' H' e σ' → D.bk σ' H'
  | .go (.ct e) S' => ∀ (ρ' : List Addr) (H' : Hp) (σ' : St), Sta K Z ρ' S' H' → Go ρ H ρ' H' → EvOk K (Wn Z ρ') ρ' H' e σ' → D.ct σ' H'
  | .go (.rt x) S' => ∀ (ρ' : List Addr) (H' : Hp) (v : V), Sta K Z ρ' S' H' → Go ρ H ρ' H' → AX K (Wn Z ρ') ρ' H' x v → D.rt v H'
  | .go (.rp d) _ => ∀ (H' : Hp) (v : V), (∀ a o, a ∉ ρ → H a = some o → H' a = some o) → AV K Z H' d v → D.rt v H'
  | .err C fs e S' => ∀ (ρ' : List Addr) (H' : Hp) (σ' : St) (d : Option Addr), Sta K Z ρ' S' H' → Go ρ H ρ' H' → EvOk K (Wn Z ρ') ρ' H' e σ' → ErrO K (Wn Z ρ') H H' fs d → Wx (.ref (He.ga K C)) d σ' H'
  | .bad => False
def RS (K : PySem.W.Frag) (Wx : WX) (m : MS) : TS := fun D σ H => ∃ (Z : Wd) (ρ : List Addr) (e : Ev) (S : Sto), Sta K Z ρ S H ∧ EvOk K (Wn Z ρ) ρ H e σ ∧ PostS K Z ρ H Wx D (m e S)
abbrev MP (X : Cx) (Wx : WX) (st : Stmt) (m : MS) : Prop := PS X st (RS X.K Wx m)
abbrev MPs (X : Cx) (Wx : WX) (sts : List Stmt) (m : MS) : Prop := PSs X sts (RS X.K Wx m)
def R.so {α : Type} (r : R α) (e : Ev) (k : α → Sto → RO) : RO := match r with
  | .ok a S => k a S
  | .err C fs S => .err C fs e S
  | .bad => .bad
section
variable {K : PySem.W.Frag} {Z : Wd} {ρ ρ1 : List Addr} {S S1 : Sto} {H H1 : Hp} {Wx : WX} {σ : St} {D : Ends}
theorem ErrO.back {W : Wd} {H' : Hp} {fs : List (Str × Bv.D)} {d : Option Addr} (s1 : ∀ a o, H a = some o → ∃ u, H1 a = some u) (h : ErrO K W H1 H' fs d) : ErrO K W H H' fs d := by
  rcases h with q | ⟨dd, vs, h1, h2, h3⟩
  · exact .inl q
  · refine .inr ⟨dd, vs, h1, ?_, h3⟩
    cases e : H dd with
    | none => rfl
    | some o =>
      obtain ⟨u, z⟩ := s1 dd o e
      rw [h2] at z; cases z
theorem PostS.shift {r : RO} (g : Go ρ H ρ1 H1) (s1 : Sta K Z ρ1 S1 H1) (h : PostS K Z ρ H Wx D r) : PostS K Z ρ1 H1 Wx D r := by
  cases r with
  | go o S' =>
    cases o with
    | nx e => exact fun ρ' H' σ' st go ev => h ρ' H' σ' st (g.trans go) ev
    | bk e => exact fun ρ' H' σ' st go ev => h ρ' H' σ' st (g.trans go) ev
    | ct e => exact fun ρ' H' σ' st go ev => h ρ' H' σ' st (g.trans go) ev
    | rt x => exact fun ρ' H' v st go a => h ρ' H' v st (g.trans go) a
    | rp d => exact fun H' v k a => h H' v (fun b o hb q => let ⟨h1, q1⟩ := g.keep b o hb q; k b o h1 q1) a
  | err C fs e S' => exact fun ρ' H' σ' d st go ev q => h ρ' H' σ' d st (g.trans go) ev (q.back (there_of g s1))
  | bad => exact h
/-- an expression, then the rest of the statement -/
theorem so_bind {α β : Type} {rel : Wd → List Addr → Hp → α → β → Prop} {e : Ev} {m : MG α} {k : α → Sto → RO} {R' : β → Hp → Prop} (st : Sta K Z ρ S H) (ev : EvOk K (Wn Z ρ) ρ H e σ) (h : PostS K Z ρ H Wx D ((m e S).so e k))
    (next : ∀ ρ1 H1 v x S1, Sta K Z ρ1 S1 H1 → Go ρ H ρ1 H1 → EvOk K (Wn Z ρ1) ρ1 H1 e σ → rel (Wn Z ρ1) ρ1 H1 x v → PostS K Z ρ1 H1 Wx D (k x S1) → R' v H1) : RG rel K Wx m σ H R' := by
  refine ⟨Z, ρ, e, S, st, ev, ?_⟩
  cases q : m e S with
  | ok x S1 =>
    rw [q] at h
    exact fun ρ1 H1 v s1 g a => next ρ1 H1 v x S1 s1 g (ev.mv (g.mv st) g.pre) a (PostS.shift g s1 h)
  | err C fs S1 =>
    rw [q] at h
    exact fun ρ' H' d s1 g z => h ρ' H' σ d s1 g (ev.mv (g.mv st) g.pre) z
  | bad => rw [q] at h; exact h
/-- it goes on -/
theorem PostS.next {e : Ev} (h : PostS K Z ρ H Wx D (.go (.nx e) S)) (st : Sta K Z ρ S H) (ev : EvOk K (Wn Z ρ) ρ H e σ) : D.nx σ H := h ρ H σ st (Go.refl _ _) ev
end

/-! ### blocks -/
def s_nil : MS := fun e S => .go (.nx e) S
def RO.then (r : RO) (m : MS) : RO := match r with
  | .go (.nx e) S => m e S
  | r => r
def s_seq (m1 m2 : MS) : MS := fun e S => (m1 e S).then m2
def s_break : MS := fun e S => .go (.bk e) S
def s_cont : MS := fun e S => .go (.ct e) S
def s_expr (m : M) : MS := fun e S => (m e S).so e fun _ S1 => .go (.nx e) S1
def s_set (i : Nat) (m : M) : MS := fun e S => (m e S).so e fun x S1 => .go (.nx (e.set i (some x))) S1
def s_ret (m : M) : MS := fun e S => (m e S).so e fun x S1 => .go (.rt x) S1
/-- data is handed back, whatever else was made -/
def s_retP (m : M) : MS := fun e S => (m e S).so e fun x S1 => match x.get S1 with
  | some d => .go (.rp d) S1
  | none => .bad
def s_retN : MS := fun _ S => .go (.rt (.d .non)) S
def s_retNP : MS := fun _ S => .go (.rp .non) S
/-- data of many values -/
def gets (S : Sto) : List X → Option (List D)
  | [] => some []
  | x :: r => match x.get S, gets S r with
    | some d, some l => some (d :: l)
    | _, _ => none
def s_retT (ms : MG (List X)) : MS := fun e S => (ms e S).so e fun xs S1 => match gets S1 xs with
  | some ds => if ds.length ≤ sizeLine then .go (.rp (.tup ds)) S1 else .bad
  | none => .bad
def s_if (mt : MG Bool) (m1 m2 : MS) : MS := fun e S => (mt e S).so e fun b S1 => if b then m1 e S1 else m2 e S1
section
variable {X : Cx} {Wx : WX} {pos p : Pos} {a b c : Expr} {st : Stmt} {es : List Expr} {rest sts sts2 : List Stmt} {ma mb mc m : M} {ms : MG (List Bv.X)} {mt : MG Bool} {m1 m2 : MS}
theorem PS.of {X : Cx} {st : Stmt} {t t' : TS} (h : PS X st t) (w : ∀ D σ H, t' D σ H → t D σ H) : PS X st t' := ⟨fun pins s σ H D I q => h.run pins s σ H D I (w D σ H q)⟩
theorem PSs.of {X : Cx} {sts : List Stmt} {t t' : TS} (h : PSs X sts t) (w : ∀ D σ H, t' D σ H → t D σ H) : PSs X sts t' := ⟨fun pins s σ H D I q => h.run pins s σ H D I (w D σ H q)⟩
theorem mps_nil : MPs X Wx [] s_nil := PSs.of pss_nil fun D σ H ⟨Z, ρ, e, S, st, ev, p⟩ => p.next st ev
theorem mps_cons (h1 : MP X Wx st m1) (h2 : MPs X Wx rest m2) : MPs X Wx (st :: rest) (s_seq m1 m2) := PSs.of (pss_cons h1 h2) fun D σ H ⟨Z, ρ, e, S, st, ev, p⟩ => by
  refine ⟨Z, ρ, e, S, st, ev, ?_⟩
  have p : PostS X.K Z ρ H Wx D ((m1 e S).then m2) := p
  cases q : m1 e S with
  | go o S1 =>
    rw [q] at p
    cases o with
    | nx e1 => exact fun ρ' H' σ' st' go ev' => ⟨Z, ρ', e1, S1, st', ev', PostS.shift go st' p⟩
    | _ => exact p
  | err C fs e1 S1 => rw [q] at p; exact p
  | bad => rw [q] at p; exact p
theorem mps_one (h1 : MP X Wx st m1) : MPs X Wx [st] m1 := pss_one h1
theorem mp_pass : MP X Wx (.Pass pos) s_nil := PS.of ps_pass fun D σ H ⟨Z, ρ, e, S, st, ev, p⟩ => p.next st ev
theorem mp_doc {x j pos'} : MP X Wx (.Expr (.Constant (.str x) j pos) pos') s_nil := PS.of ps_doc fun D σ H ⟨Z, ρ, e, S, st, ev, p⟩ => p.next st ev
theorem mp_break : MP X Wx (.Break pos) s_break := PS.of ps_break fun D σ H ⟨Z, ρ, e, S, st, ev, p⟩ => p ρ H σ st (Go.refl _ _) ev
theorem mp_continue : MP X Wx (.Continue pos) s_cont := PS.of ps_continue fun D σ H ⟨Z, ρ, e, S, st, ev, p⟩ => p ρ H σ st (Go.refl _ _) ev
theorem mp_expr (h : ME X Wx a ma) (hs : swapsWith a none pos.line X.env = pure false := by rfl) : MP X Wx (.Expr a pos) (s_expr ma) := PS.of (ps_expr h hs) fun D σ H ⟨Z, ρ, e, S, st, ev, p⟩ =>
  so_bind st ev p fun ρ1 H1 v x S1 st1 g1 ev1 a1 p1 => p1.next st1 ev1
theorem mp_set {i : Nat} {x : Str} {pos' : Pos} (hN : X.N.Nodup) (hi : X.N[i]? = some x) (hx : Loc X.env.scope x) (he : ME X Wx a ma) (hs : swapsWith a (some (.Name x pos')) pos.line X.env = pure false := by rfl) (hf : X.fn x = true ∨ X.env.scope.names.lookup x = some .local := by first | exact .inl rfl | exact .inr rfl | assumption) :
    MP X Wx (.Assign [.Name x pos'] a pos) (s_set i ma) := PS.of (ps_set hN hi hx he hs hf) fun D σ H ⟨Z, ρ, e, S, st, ev, p⟩ =>
  so_bind st ev p fun ρ1 H1 v x S1 st1 g1 ev1 a1 p1 => p1.next st1 (ev1.set a1)
theorem mp_ret (h : ME X Wx a ma) : MP X Wx (.Return (some a) pos) (s_ret ma) := PS.of (ps_ret h) fun D σ H ⟨Z, ρ, e, S, st, ev, p⟩ =>
  so_bind st ev p fun ρ1 H1 v x S1 st1 g1 ev1 a1 p1 => p1 ρ1 H1 v st1 (Go.refl _ _) a1
/-- data of a value, when the store is left -/
theorem AW.leave {K : PySem.W.Frag} {Z : Wd} {ρ : List Addr} {S : Sto} {H : Hp} {d : Bv.D} {v : V} (st : Sta K Z ρ S H) (h : AW K (Wn Z ρ) H d v) (hz : ∀ q, v = .ref q → ¬ Z q) : AV K Z H d v := by
  have m : Mv (Wn Z ρ) H Z H := fun a o h q => ⟨fun z => h (.inl z), q⟩
  cases h with
  | av h => exact h.mv m
  | lst h hs => exact .lst (hz _ rfl) h (hs.mv m)
  | fdc h hs => exact .dic (hz _ rfl) h (hs.mv m)
theorem AX.leave {K : PySem.W.Frag} {Z : Wd} {ρ : List Addr} {S : Sto} {H : Hp} {x : Bv.X} {d : Bv.D} {v : V} (st : Sta K Z ρ S H) (h : AX K (Wn Z ρ) ρ H x v) (e : x.get S = some d) : AV K Z H d v := by
  cases h with
  | d h =>
    cases e
    exact h.mv fun a o h q => ⟨fun z => h (.inl z), q⟩
  | r h =>
    refine AW.leave st ((AX.r h).get st e) fun q hq => ?_
    cases hq
    exact fun z => (st.z _ z).1 (List.mem_of_getElem? h)
theorem mp_retP (h : ME X Wx a ma) : MP X Wx (.Return (some a) pos) (s_retP ma) := PS.of (ps_ret h) fun D σ H ⟨Z, ρ, e, S, st, ev, p⟩ =>
  so_bind st ev p fun ρ1 H1 v x S1 st1 g1 ev1 a1 p1 => by
    cases q : x.get S1 with
    | none => rw [q] at p1; exact p1.elim
    | some d =>
      rw [q] at p1
      exact p1 H1 v (fun _ _ _ z => z) (a1.leave st1 q)
theorem mp_retN : MP X Wx (.Return none pos) s_retN := PS.of ps_retN fun D σ H ⟨Z, ρ, e, S, st, ev, p⟩ => p ρ H .non st (Go.refl _ _) (.d .non)
theorem mp_retNP : MP X Wx (.Return none pos) s_retNP := PS.of ps_retN fun D σ H ⟨Z, ρ, e, S, st, ev, p⟩ => p H .non (fun _ _ _ z => z) .non
theorem gets_leave {K : PySem.W.Frag} {Z : Wd} {ρ : List Addr} {S : Sto} {H : Hp} (st : Sta K Z ρ S H) : ∀ {xs : List Bv.X} {vs : List V} {ds : List Bv.D}, AXs K (Wn Z ρ) ρ H xs vs → gets S xs = some ds → AVs K Z H ds vs
  | _, _, _, .nil, e => by cases e; exact .nil
  | x :: r, _, ds, .cons h hs, e => by
    unfold gets at e
    cases q : x.get S with
    | none => rw [q] at e; cases e
    | some d =>
      cases q2 : gets S r with
      | none => rw [q, q2] at e; cases e
      | some l =>
        rw [q, q2] at e
        cases e
        exact .cons (h.leave st q) (gets_leave st hs q2)
theorem mp_retT {x1} {p2 : Pos} (h : MA X Wx es ms) : MP X Wx (.Return (some (.Tuple es x1 p2)) pos) (s_retT ms) := PS.of (ps_ret (pe_tup h)) fun D σ H ⟨Z, ρ, e, S, st, ev, p⟩ =>
  so_bind (rel := AXs X.K) st ev p fun ρ1 H1 vs xs S1 st1 g1 ev1 a1 p1 => by
    cases q : gets S1 xs with
    | none => rw [q] at p1; exact p1.elim
    | some ds =>
      rw [q] at p1
      have p1 : PostS X.K Z ρ1 H1 Wx D (if ds.length ≤ sizeLine then .go (.rp (.tup ds)) S1 else .bad) := p1
      by_cases hl : ds.length ≤ sizeLine
      · rw [if_pos hl] at p1
        have av := gets_leave st1 a1 q
        refine ⟨by rw [← av.length]; exact hl, fun r hr => p1 _ _ (fun b o _ z => upd_keep hr b o z) (new_tup (fun z hz => (st1.z z hz).2) hr av)⟩
      · rw [if_neg hl] at p1; exact p1.elim
theorem mp_if (hc : MT X Wx c mt) (h1 : MPs X Wx sts m1) (h2 : MPs X Wx sts2 m2) : MP X Wx (.If c sts sts2 pos) (s_if mt m1 m2) := PS.of (ps_if hc h1 h2) fun D σ H ⟨Z, ρ, e, S, st, ev, p⟩ =>
  so_bind (rel := relB) st ev p fun ρ1 H1 v x S1 st1 g1 ev1 a1 p1 => by
    cases (show x = v from a1)
    cases v with
    | true => exact ⟨Z, ρ1, e, S1, st1, ev1, p1⟩
    | false => exact ⟨Z, ρ1, e, S1, st1, ev1, p1⟩
/-- what is never come to -/
def s_bad : MS := fun _ _ => .bad
def m_bad : M := fun _ _ => .bad
theorem mp_bad : MP X Wx st s_bad := PS.of ps_never fun D σ H ⟨Z, ρ, e, S, st, ev, p⟩ => p
theorem mps_bad : MPs X Wx sts s_bad := PSs.of pss_never fun D σ H ⟨Z, ρ, e, S, st, ev, p⟩ => p
theorem me_bad : ME X Wx a m_bad := ⟨fun _ _ _ _ _ _ ⟨Z, ρ, e, S, st, ev, p⟩ => p.elim⟩

/-! ### targets -/
/-- a target: a slot, or several -/
inductive Tg where
  | nm (i : Nat) | tp (ts : List Tg)
mutual
def Tg.asg (S : Sto) : Tg → Bv.X → Ev → Option Ev
  | .nm i, x, e => some (e.set i (some x))
  | .tp ts, .d (.tup ds), e => Tg.asgs S ts (ds.map .d) e
  | .tp _, _, _ => none
def Tg.asgs (S : Sto) : List Tg → List Bv.X → Ev → Option Ev
  | [], [], e => some e
  | t :: ts, x :: xs, e => match t.asg S x e with
    | some e1 => Tg.asgs S ts xs e1
    | none => none
  | [], _ :: _, _ => none
  | _ :: _, [], _ => none
end
mutual
def Tg.slots : Tg → List Nat
  | .nm i => [i]
  | .tp ts => Tg.slotss ts
def Tg.slotss : List Tg → List Nat
  | [] => []
  | t :: ts => t.slots ++ Tg.slotss ts
end
def TGt (K : PySem.W.Frag) (t : Tg) : TG := fun v σ H Q => ∃ (Z : Wd) (ρ : List Addr) (e : Ev) (S : Sto) (x : Bv.X) (e' : Ev), Sta K Z ρ S H ∧ EvOk K (Wn Z ρ) ρ H e σ ∧ AX K (Wn Z ρ) ρ H x v ∧ t.asg S x e = some e' ∧ ∀ σ', EvOk K (Wn Z ρ) ρ H e' σ' → (∀ vs : List Nat, (∀ i ∈ t.slots, i ∈ vs) → wipe σ' vs = wipe σ vs) → Q σ' H
def TGs' (K : PySem.W.Frag) (ts : List Tg) : TGs := fun vs σ H Q => ∃ (Z : Wd) (ρ : List Addr) (e : Ev) (S : Sto) (xs : List Bv.X) (e' : Ev), Sta K Z ρ S H ∧ EvOk K (Wn Z ρ) ρ H e σ ∧ AXs K (Wn Z ρ) ρ H xs vs ∧ Tg.asgs S ts xs e = some e' ∧ ∀ σ', EvOk K (Wn Z ρ) ρ H e' σ' → (∀ vs : List Nat, (∀ i ∈ Tg.slotss ts, i ∈ vs) → wipe σ' vs = wipe σ vs) → Q σ' H
theorem wipe_set {σ : St} {i : Nat} {o : Option V} : ∀ {vs : List Nat}, i ∈ vs → wipe (σ.set i o) vs = wipe σ vs
  | [], h => by cases h
  | j :: vs, h => by
    unfold wipe
    by_cases hi : i ∈ vs
    · rw [wipe_set hi]
    · have e : i = j := by
        rcases List.mem_cons.mp h with h | h
        · exact h
        · exact absurd h hi
      subst e
      have go : ∀ {vs : List Nat}, i ∉ vs → wipe (σ.set i o) vs = (wipe σ vs).set i o := fun {vs} => by
        induction vs with
        | nil => intro _; rfl
        | cons k ks ih =>
          intro hk
          rw [List.mem_cons, not_or] at hk
          unfold wipe
          rw [ih hk.2, List.set_comm _ _ hk.1]
      rw [go hi, List.set_set]
theorem PG.of {X : Cx} {e : Expr} {t t' : TG} (h : PG X e t) (w : ∀ v σ H Q, t' v σ H Q → t v σ H Q) : PG X e t' := ⟨fun pins s σ H v u Q I r q => h.run pins s σ H v u Q I r (w v σ H Q q)⟩
theorem PGs.of {X : Cx} {e : List Expr} {t t' : TGs} (h : PGs X e t) (w : ∀ v σ H Q, t' v σ H Q → t v σ H Q) : PGs X e t' := ⟨fun pins s σ H v u Q I r q => h.run pins s σ H v u Q I r (w v σ H Q q)⟩
theorem mg_name {i : Nat} {x : Str} (hN : X.N.Nodup) (hi : X.N[i]? = some x) (hx : Loc X.env.scope x) (hf : X.fn x = true ∨ X.env.scope.names.lookup x = some .local := by first | exact .inl rfl | exact .inr rfl | assumption) : PG X (.Name x pos) (TGt X.K (.nm i)) :=
  PG.of (pg_name hN hi hx hf) fun v σ H Q ⟨Z, ρ, e, S, x, e', st, ev, a, h, k⟩ => by
    have h : some (e.set i (some x)) = some e' := by simpa [Tg.asg] using h
    cases h
    exact k _ (ev.set a) fun vs hv => wipe_set (hv i (by simp [Tg.slots]))
theorem mgs_nil : PGs X [] (TGs' X.K []) := PGs.of pgs_nil fun v σ H Q ⟨Z, ρ, e, S, xs, e', st, ev, a, h, k⟩ => by
  cases a with
  | nil =>
    have h : some e = some e' := by simpa [Tg.asgs] using h
    cases h
    exact ⟨rfl, k σ ev fun _ _ => rfl⟩
  | cons _ _ => simp [Tg.asgs] at h
theorem mgs_cons {t : Tg} {ts : List Tg} (h1 : PG X a (TGt X.K t)) (h2 : PGs X es (TGs' X.K ts)) (hs : (assignEach (a :: es) X.env).map (·.2) = assign a X.env :: (assignEach es X.env).map (·.2) := by rfl) : PGs X (a :: es) (TGs' X.K (t :: ts)) :=
  PGs.of (pgs_cons h1 h2 hs) fun v σ H Q ⟨Z, ρ, e, S, xs, e', st, ev, a, h, k⟩ => by
    cases a with
    | nil => simp [Tg.asgs] at h
    | @cons x v0 xr vr ha hr =>
      cases q : t.asg S x e with
      | none => simp [Tg.asgs, q] at h
      | some e1 =>
        have h : Tg.asgs S ts xr e1 = some e' := by simpa [Tg.asgs, q] using h
        exact ⟨v0, vr, rfl, Z, ρ, e, S, x, e1, st, ev, ha, q, fun σ1 ev1 w1 => ⟨Z, ρ, e1, S, xr, e', st, ev1, hr, h, fun σ2 ev2 w2 => k σ2 ev2 fun vs hv => (w2 vs fun i hi => hv i (by simp [Tg.slotss, hi])).trans (w1 vs fun i hi => hv i (by simp [Tg.slotss, hi]))⟩⟩
theorem asgs_len {S : Sto} : ∀ {ts : List Tg} {xs : List Bv.X} {e e' : Ev}, Tg.asgs S ts xs e = some e' → xs.length = ts.length
  | [], [], _, _, _ => rfl
  | t :: ts, x :: xs, e, e', h => by
    cases q : t.asg S x e with
    | none => simp [Tg.asgs, q] at h
    | some e1 =>
      have h : Tg.asgs S ts xs e1 = some e' := by simpa [Tg.asgs, q] using h
      simp [asgs_len h]
  | [], _ :: _, _, _, h => by simp [Tg.asgs] at h
  | _ :: _, [], _, _, h => by simp [Tg.asgs] at h
theorem mg_tup {k : Nat} {ts : List Tg} (hc : X.calm = true) (h : PGs X es (TGs' X.K ts)) (hn : (assignEach es X.env).length = ts.length := by rfl) (hst : (assignEach es X.env).findIdx? (·.1) = none := by rfl) : PG X (.Tuple es k pos) (TGt X.K (.tp ts)) :=
  PG.of (pg_tup hc h hn hst) fun v σ H Q ⟨Z, ρ, e, S, x, e', st, ev, a, h, kk⟩ => by
    cases a with
    | r _ => simp [Tg.asg] at h
    | d h1 =>
      cases h1 with
      | @tup q xs ds t hs =>
        have h : Tg.asgs S ts (ds.map .d) e = some e' := by simpa [Tg.asg] using h
        have hl := asgs_len h
        rw [List.length_map] at hl
        exact ⟨_, xs, rfl, t.sq, by rw [← hs.length]; exact hl, Z, ρ, e, S, _, e', st, ev, hs.axs, h, fun σ2 ev2 w2 => kk σ2 ev2 fun vs hv => w2 vs fun i hi => hv i (by simpa [Tg.slots] using hi)⟩
      | _ => simp [Tg.asg] at h
def s_asg (t : Tg) (m : M) : MS := fun e S => (m e S).so e fun x S1 => match t.asg S1 x e with
  | some e1 => .go (.nx e1) S1
  | none => .bad
theorem mp_asg {tg : Expr} {t : Tg} (he : ME X Wx a ma) (hg : PG X tg (TGt X.K t)) (hs : swapsWithSole [tg] a pos.line X.env = pure false := by rfl) (hw : swappedStores [tg] a X.env = pure none := by rfl)
    (h1 : (assignEach [tg] X.env).map (·.2) = [assign tg X.env] := by rfl) : MP X Wx (.Assign [tg] a pos) (s_asg t ma) := PS.of (ps_asg he hg hs hw h1) fun D σ H ⟨Z, ρ, e, S, st, ev, p⟩ =>
  so_bind st ev p fun ρ1 H1 v x S1 st1 g1 ev1 a1 p1 => by
    cases q : t.asg S1 x e with
    | none => rw [q] at p1; exact p1.elim
    | some e1 =>
      rw [q] at p1
      exact ⟨Z, ρ1, e, S1, x, e1, st1, ev1, a1, q, fun σ' ev' _ => p1.next st1 ev'⟩

/-! ### self.f = e -/
def putX (f : Str) (x : Bv.X) : List (Str × Bv.X) → List (Str × Bv.X)
  | [] => [(f, x)]
  | (g, y) :: r => if g = f then (g, x) :: r else (g, y) :: putX f x r
theorem pair_put {K : PySem.W.Frag} {W : Wd} {ρ : List Addr} {H : Hp} {f : Str} {x : Bv.X} {v : V} (a : AX K W ρ H x v) : ∀ {fs : List (Str × Bv.X)} {vs : List (Str × V)}, Paired (fun (p : Str × Bv.X) (q : Str × V) => p.1 = q.1 ∧ AX K W ρ H p.2 q.2) fs vs →
    Paired (fun (p : Str × Bv.X) (q : Str × V) => p.1 = q.1 ∧ AX K W ρ H p.2 q.2) (putX f x fs) (putF f v vs)
  | _, _, .nil => .cons ⟨rfl, a⟩ .nil
  | (g, y) :: r, (g', u) :: r', .cons ⟨h1, h2⟩ hs => by
    cases (show g = g' from h1)
    unfold putX putF
    by_cases h : g = f
    · rw [if_pos h, if_pos h]; exact .cons ⟨rfl, a⟩ hs
    · rw [if_neg h, if_neg h]; exact .cons ⟨rfl, h2⟩ (pair_put a hs)
def fldO (Cs : List Str) (f : Str) (S : Sto) (o y : Bv.X) : Option Sto := match o with
  | .r n => (match S[n]? with
    | some (.ins C fs) => if Cs.contains C && decide (fs.length < 1000) then some (S.set n (.ins C (putX f y fs))) else none
    | _ => none)
  | .d _ => none
def s_fld (Cs : List Str) (f : Str) (mo m : M) : MS := fun e S => (m e S).so e fun y S1 => (mo e S1).so e fun o S2 => match fldO Cs f S2 o y with
  | some S3 => .go (.nx e) S3
  | none => .bad
theorem mp_fld {o : Expr} {mo : M} {f : Str} {pos' : Pos} (Cs : List Str) (T : AttrOk X.K Cs f) (ho : ME X Wx o mo) (ha : ME X Wx a ma) (hs : swapsWith a (some (.Attribute o f pos')) pos.line X.env = pure false := by rfl) : MP X Wx (.Assign [.Attribute o f pos'] a pos) (s_fld Cs f mo ma) :=
  PS.of (ps_fld ho ha hs) fun D σ H ⟨Z, ρ, e, S, st, ev, p⟩ =>
  so_bind st ev p fun ρ1 H1 v y S1 st1 g1 ev1 a1 p1 => so_bind st1 ev1 p1 fun ρ2 H2 u o S2 st2 g2 ev2 a2 p2 => by
    have a1 := a1.mv (g2.mv st1) g2.pre
    cases q : fldO Cs f S2 o y with
    | none => rw [q] at p2; exact p2.elim
    | some S3 =>
      rw [q] at p2
      cases a2 with
      | d h => cases q
      | r h =>
        rename_i n q0
        cases z : S2[n]? with
        | none => simp [fldO, z] at q
        | some oo =>
          cases oo with
          | ins C fs =>
            have q1 : (if (Cs.contains C && decide (fs.length < 1000)) = true then some (S2.set n (.ins C (putX f y fs))) else none) = some S3 := by simpa [fldO, z] using q
            by_cases hc : (Cs.contains C && decide (fs.length < 1000)) = true
            · rw [if_pos hc] at q1
              cases q1
              obtain ⟨hc1, hc2⟩ := Bool.and_eq_true_iff.mp hc
              obtain ⟨dx, vs, h2, h3⟩ := st2.ob n _ q0 z h
              obtain ⟨t1, t2⟩ := T C (by simpa using hc1)
              have hl : vs.length < 1000 := by rw [← Paired.length h3]; exact of_decide_eq_true hc2
              have hin : q0 ∈ ρ2 := List.mem_of_getElem? h
              have m : Mv (Wn Z ρ2) H2 (Wn Z ρ2) (upd H2 q0 (.ins (He.ga X.K C) dx (putF f v vs))) := fun b o hb hq => ⟨hb, by rw [upd_ne (fun z => hb (.inr (by rw [z]; exact hin)))]; exact hq⟩
              obtain ⟨st3, g3⟩ := st2.put (o' := .ins C (putX f y fs)) (u := .ins (He.ga X.K C) dx (putF f v vs)) h (fun _ _ q => by rw [h2] at q; cases q) ⟨dx, _, upd_same, Paired.mapP (pair_put a1 h3) fun _ _ w => ⟨w.1, w.2.mv m (List.prefix_refl _)⟩⟩
              exact ⟨_, _, _, vs, rfl, h2, t1, t2, hl, p2 _ _ σ st3 g3 (ev2.mv m (List.prefix_refl _))⟩
            · rw [if_neg hc] at q1; cases q1
          | _ => simp [fldO, z] at q
end
end Bv
set_option Elab.async false
set_option linter.all false
set_option maxRecDepth 100000
set_option maxHeartbeats 4000000
/-! By value: what is walked, for, while, list comprehensions. -/
namespace Bv
open PySem PySem.Spec L2
open PyProof.Rows hiding St
variable [HasW]

/-! ### equal data -/
mutual
def D.beq : D → D → Bool
  | .non, .non => true
  | .bl a, .bl b => a == b
  | .int a, .int b => decide (a = b)
  | .str a, .str b => decide (a = b)
  | .gl a, .gl b => decide (a = b)
  | .scr a, .scr b => decide (a = b)
  | .tup a, .tup b => D.beqs a b
  | .lst a, .lst b => D.beqs a b
  | .dic a, .dic b => D.beqk a b
  | .obj c a, .obj d b => decide (c = d) && D.beqf a b
  | _, _ => false
def D.beqs : List D → List D → Bool
  | [], [] => true
  | a :: r, b :: s => D.beq a b && D.beqs r s
  | _, _ => false
def D.beqk : List (D × D) → List (D × D) → Bool
  | [], [] => true
  | (k, a) :: r, (l, b) :: s => (D.beq k l && D.beq a b) && D.beqk r s
  | _, _ => false
def D.beqf : List (Str × D) → List (Str × D) → Bool
  | [], [] => true
  | (k, a) :: r, (l, b) :: s => (decide (k = l) && D.beq a b) && D.beqf r s
  | _, _ => false
end
mutual
theorem D.eq_of_beq : ∀ (a b : D), D.beq a b = true → a = b
  | .non, b, h => by cases b <;> first | rfl | simp [D.beq] at h
  | .bl x, b, h => by cases b <;> first | (simp [D.beq] at h; rw [h]) | simp [D.beq] at h
  | .int x, b, h => by cases b <;> first | (simp [D.beq] at h; rw [h]) | simp [D.beq] at h
  | .str x, b, h => by cases b <;> first | (simp [D.beq] at h; rw [h]) | simp [D.beq] at h
  | .gl x, b, h => by cases b <;> first | (simp [D.beq] at h; rw [h]) | simp [D.beq] at h
  | .scr x, b, h => by cases b <;> first | (simp [D.beq] at h; rw [h]) | simp [D.beq] at h
  | .tup x, b, h => by
    cases b with
    | tup y => simp only [D.beq] at h; rw [D.eqs_of_beqs x y h]
    | _ => simp [D.beq] at h
  | .lst x, b, h => by
    cases b with
    | lst y => simp only [D.beq] at h; rw [D.eqs_of_beqs x y h]
    | _ => simp [D.beq] at h
  | .dic x, b, h => by
    cases b with
    | dic y => simp only [D.beq] at h; rw [D.eqk_of_beqk x y h]
    | _ => simp [D.beq] at h
  | .obj c x, b, h => by
    cases b with
    | obj d y => simp only [D.beq, Bool.and_eq_true, decide_eq_true_eq] at h; rw [h.1, D.eqf_of_beqf x y h.2]
    | _ => simp [D.beq] at h
theorem D.eqs_of_beqs : ∀ (a b : List D), D.beqs a b = true → a = b
  | [], b, h => by cases b <;> first | rfl | simp [D.beqs] at h
  | x :: r, b, h => by
    cases b with
    | nil => simp [D.beqs] at h
    | cons y s =>
      simp only [D.beqs, Bool.and_eq_true] at h
      rw [D.eq_of_beq x y h.1, D.eqs_of_beqs r s h.2]
theorem D.eqk_of_beqk : ∀ (a b : List (D × D)), D.beqk a b = true → a = b
  | [], b, h => by cases b <;> first | rfl | simp [D.beqk] at h
  | (k, u) :: r, b, h => by
    cases b with
    | nil => simp [D.beqk] at h
    | cons y s =>
      obtain ⟨l, v⟩ := y
      simp only [D.beqk, Bool.and_eq_true] at h
      rw [D.eq_of_beq k l h.1.1, D.eq_of_beq u v h.1.2, D.eqk_of_beqk r s h.2]
theorem D.eqf_of_beqf : ∀ (a b : List (Str × D)), D.beqf a b = true → a = b
  | [], b, h => by cases b <;> first | rfl | simp [D.beqf] at h
  | (k, u) :: r, b, h => by
    cases b with
    | nil => simp [D.beqf] at h
    | cons y s =>
      obtain ⟨l, v⟩ := y
      simp only [D.beqf, Bool.and_eq_true, decide_eq_true_eq] at h
      rw [h.1.1, D.eq_of_beq u v h.1.2, D.eqf_of_beqf r s h.2]
end
mutual
theorem D.beq_self : ∀ a : D, D.beq a a = true
  | .non => by simp [D.beq]
  | .bl _ => by simp [D.beq]
  | .int _ => by simp [D.beq]
  | .str _ => by simp [D.beq]
  | .gl _ => by simp [D.beq]
  | .scr _ => by simp [D.beq]
  | .tup a => by simp [D.beq, D.beqs_self a]
  | .lst a => by simp [D.beq, D.beqs_self a]
  | .dic a => by simp [D.beq, D.beqk_self a]
  | .obj c a => by simp [D.beq, D.beqf_self a]
theorem D.beqs_self : ∀ a : List D, D.beqs a a = true
  | [] => by simp [D.beqs]
  | a :: r => by simp [D.beqs, D.beq_self a, D.beqs_self r]
theorem D.beqk_self : ∀ a : List (D × D), D.beqk a a = true
  | [] => by simp [D.beqk]
  | (k, a) :: r => by simp [D.beqk, D.beq_self k, D.beq_self a, D.beqk_self r]
theorem D.beqf_self : ∀ a : List (Str × D), D.beqf a a = true
  | [] => by simp [D.beqf]
  | (k, a) :: r => by simp [D.beqf, D.beq_self a, D.beqf_self r]
end
instance : DecidableEq D := fun a b => if h : D.beq a b = true then .isTrue (D.eq_of_beq a b h) else .isFalse fun e => h (e ▸ D.beq_self a)
instance : DecidableEq X
  | .d a, .d b => if h : a = b then .isTrue (h ▸ rfl) else .isFalse fun e => h (by cases e; rfl)
  | .r a, .r b => if h : a = b then .isTrue (h ▸ rfl) else .isFalse fun e => h (by cases e; rfl)
  | .d _, .r _ => .isFalse fun e => by cases e
  | .r _, .d _ => .isFalse fun e => by cases e

/-! ### what is walked -/
/-- what must stay while it is walked: a list of the store -/
inductive Lk where
  | free | lst (n : Nat) (xs : List X)
def Lk.ok : Lk → Sto → Bool
  | .free, _ => true
  | .lst n xs, S => match S[n]? with
    | some (.lst zs) => decide (zs = xs)
    | _ => false
/-- the iterator gives ys -/
def Srv (K : PySem.W.Frag) (W : Wd) (ρ : List Addr) (H : Hp) (p : List X × Lk) (J : It) : Prop := ∃ (G : Hp → Prop) (Y : Nat → Hp → V → Hp → Prop), Walk J p.1.length G Y ∧
  ∀ (Z2 : Wd) (ρ2 : List Addr) (S2 : Sto) (H2 : Hp), Sta K Z2 ρ2 S2 H2 → Mv W H (Wn Z2 ρ2) H2 → ρ <+: ρ2 → (∀ a ob u, H a = some (.frz ob u) → H2 a = some (.frz ob u)) → p.2.ok S2 = true → G H2 ∧
    ∀ i x H3, Y i H2 x H3 → Same H2 H3 ∧ ∃ y, p.1[i]? = some y ∧ AX K (Wn Z2 ρ2) ρ2 H3 y x
abbrev MIt := MG (List X × Lk)
abbrev MI (X : Cx) (Wx : WX) (tg iter : Expr) (m : MIt) : Prop := PI X tg iter (RG (Srv X.K) X.K Wx m)
theorem PI.of {X : Cx} {tg e : Expr} {t t' : TI} (h : PI X tg e t) (w : ∀ σ H R, t' σ H R → t σ H R) : PI X tg e t' := ⟨fun pins s σ H R I q => h.run pins s σ H R I (w σ H R q)⟩

/-! ### for -/
def RO.ext (r : RO) (e : Ev) : RO := r
def forL (t : Tg) (l : Lk) (body : MS) : List X → Ev → Sto → RO
  | [], e, S => if l.ok S then .go (.nx e) S else .bad
  | x :: xs, e, S => if l.ok S then (match t.asg S x e with
    | some e1 => (match body e1 S with
      | .go (.nx e2) S2 => forL t l body xs e2 S2
      | .go (.ct e2) S2 => forL t l body xs e2 S2
      | .go (.bk e2) S2 => .go (.nx e2) S2
      | r => r)
    | none => .bad) else .bad
def s_for (t : Tg) (mi : MIt) (body : MS) : MS := fun e S => (mi e S).so e fun p S1 => forL t p.2 body p.1 e S1
section
variable {X : Cx} {Wx : WX} {pos : Pos} {tg iter : Expr} {body : List Stmt} {mi : MIt} {mb : MS} {t : Tg}
theorem drop_get {α : Type} {l : List α} {i : Nat} {a : α} (h : l[i]? = some a) : l.drop i = a :: l.drop (i + 1) := by
  obtain ⟨h1, h2⟩ := List.getElem?_eq_some_iff.mp h
  rw [← h2]
  exact List.drop_eq_getElem_cons h1
theorem mp_for (hp : PassesOwn (model X.prog X.w) X.A X.env X.xe) (hc : X.calm = true) (hi : MI X Wx tg iter mi) (hg : PG X tg (TGt X.K t)) (hb : MPs X Wx body mb)
    (hs : ∀ x, foldedSetIterable iter X.env x = pure x := by intro _; rfl) : MP X Wx (.For tg iter body [] pos) (s_for t mi mb) := PS.of (ps_for hp hc hi hg hb hs) fun D σ H ⟨Z, ρ, e, S, st, ev, p⟩ =>
  so_bind (rel := Srv X.K) st ev p fun ρ1 H1 J p0 S1 st1 g1 ev1 srv p1 => by
    obtain ⟨ys, l⟩ := p0
    obtain ⟨G, Y, w, sv⟩ := srv
    have p1 : PostS X.K Z ρ1 H1 Wx D (forL t l mb ys e S1) := p1
    have sv : ∀ (Z2 : Wd) (ρ2 : List Addr) (S2 : Sto) (H2 : Hp), Sta X.K Z2 ρ2 S2 H2 → Mv (Wn Z ρ1) H1 (Wn Z2 ρ2) H2 → ρ1 <+: ρ2 → (∀ a ob u, H1 a = some (.frz ob u) → H2 a = some (.frz ob u)) → l.ok S2 = true → G H2 ∧
      ∀ i x H3, Y i H2 x H3 → Same H2 H3 ∧ ∃ y, ys[i]? = some y ∧ AX X.K (Wn Z2 ρ2) ρ2 H3 y x := sv
    have w : Walk J ys.length G Y := w
    let Pv : Nat → L2.St → Hp → Prop := fun i σ H => ∃ (ρ : List Addr) (e : Ev) (S : Sto), Sta X.K Z ρ S H ∧ Go ρ1 H1 ρ H ∧ EvOk X.K (Wn Z ρ) ρ H e σ ∧ PostS X.K Z ρ H Wx D (forL t l mb (ys.drop i) e S)
    have okOf : ∀ {xs : List Bv.X} {e : Ev} {S : Sto} {ρ : List Addr} {H : Hp}, PostS X.K Z ρ H Wx D (forL t l mb xs e S) → l.ok S = true := fun {xs e S ρ H} q => by
      cases z : l.ok S with
      | true => rfl
      | false => cases xs <;> (simp only [forL, z] at q; exact q.elim)
    refine for_it w Pv ⟨ρ1, e, S1, st1, Go.refl _ _, ev1, by rw [List.drop_zero]; exact p1⟩ ?_ ?_ ?_
    · rintro i σ2 H2 _ ⟨ρ2, e2, S2, st2, g2, ev2, q2⟩
      exact (sv Z ρ2 S2 H2 st2 (g2.mv st1) g2.pre g2.fz (okOf q2)).1
    · rintro i x σ2 H2 H3 hi ⟨ρ2, e2, S2, st2, g2, ev2, q2⟩ hy
      have hk := okOf q2
      obtain ⟨k, y, e3, a⟩ := (sv Z ρ2 S2 H2 st2 (g2.mv st1) g2.pre g2.fz hk).2 i x H3 hy
      have st3 := st2.grow k
      have g3 : Go ρ2 H2 ρ2 H3 := Go.grow k
      have ev3 := ev2.mv (g3.mv st2) g3.pre
      have q3 := PostS.shift g3 st3 q2
      rw [drop_get e3] at q3
      simp only [forL, hk, if_true] at q3
      cases q4 : t.asg S2 y e2 with
      | none => rw [q4] at q3; exact q3.elim
      | some e4 =>
        rw [q4] at q3
        refine ⟨Z, ρ2, e2, S2, y, e4, st3, ev3, a, q4, fun σ5 ev5 _ => ⟨Z, ρ2, e4, S2, st3, ev5, ?_⟩⟩
        have q3 : PostS X.K Z ρ2 H3 Wx D (match mb e4 S2 with
          | .go (.nx e2) S2 => forL t l mb (ys.drop (i + 1)) e2 S2
          | .go (.ct e2) S2 => forL t l mb (ys.drop (i + 1)) e2 S2
          | .go (.bk e2) S2 => .go (.nx e2) S2
          | r => r) := q3
        cases q5 : mb e4 S2 with
        | bad => rw [q5] at q3; exact q3
        | err C fs e6 S6 => rw [q5] at q3; exact q3
        | go o S6 =>
          rw [q5] at q3
          cases o with
          | nx e6 => exact fun ρ7 H7 σ7 st7 g7 ev7 => ⟨ρ7, e6, S6, st7, g2.trans (g3.trans g7), ev7, PostS.shift g7 st7 q3⟩
          | ct e6 => exact fun ρ7 H7 σ7 st7 g7 ev7 => ⟨ρ7, e6, S6, st7, g2.trans (g3.trans g7), ev7, PostS.shift g7 st7 q3⟩
          | bk e6 => exact q3
          | rt x6 => exact q3
          | rp d6 => exact q3
    · rintro σ2 H2 ⟨ρ2, e2, S2, st2, g2, ev2, q2⟩
      have hk := okOf q2
      rw [List.drop_length] at q2
      simp only [forL, hk, if_true] at q2
      exact q2.next st2 ev2

/-! ### while -/
def whileL (mt : MG Bool) (body : MS) : Nat → Ev → Sto → RO
  | 0, _, _ => .bad
  | n + 1, e, S => (mt e S).so e fun b S1 => if b then (match body e S1 with
    | .go (.nx e2) S2 => whileL mt body n e2 S2
    | .go (.ct e2) S2 => whileL mt body n e2 S2
    | .go (.bk e2) S2 => .go (.nx e2) S2
    | r => r) else .go (.nx e) S1
/-- how often a while may turn -/
def many : Nat := 1000000
def s_while (mt : MG Bool) (body : MS) : MS := whileL mt body many
theorem mp_while {c : Expr} {mt : MG Bool} (hp : PassesOwn (model X.prog X.w) X.A X.env X.xe) (hc : MT X Wx c mt) (hb : MPs X Wx body mb) : MP X Wx (.While c body [] pos) (s_while mt mb) := PS.of (ps_while hp hc hb) fun D σ H ⟨Z, ρ, e, S, st, ev, p⟩ => by
  refine ⟨fun m σ H => ∃ (ρ : List Addr) (e : Ev) (S : Sto), Sta X.K Z ρ S H ∧ EvOk X.K (Wn Z ρ) ρ H e σ ∧ PostS X.K Z ρ H Wx D (whileL mt mb m e S), ⟨many, ρ, e, S, st, ev, p⟩, ?_⟩
  rintro m σ H ⟨ρ, e, S, st, ev, p⟩
  cases m with
  | zero => exact p.elim
  | succ n =>
    refine so_bind (rel := relB) st ev p fun ρ1 H1 v x S1 st1 g1 ev1 a1 p1 => ?_
    cases (show x = v from a1)
    cases v with
    | false => exact p1.next st1 ev1
    | true =>
      refine ⟨fun σ H => ∃ (ρ : List Addr) (e : Ev) (S : Sto), Sta X.K Z ρ S H ∧ EvOk X.K (Wn Z ρ) ρ H e σ ∧ PostS X.K Z ρ H Wx D (whileL mt mb n e S), fun σ' H' q => ⟨n, Nat.lt_succ_self n, q⟩, ⟨Z, ρ1, e, S1, st1, ev1, ?_⟩⟩
      have p1 : PostS X.K Z ρ1 H1 Wx D (match mb e S1 with
        | .go (.nx e2) S2 => whileL mt mb n e2 S2
        | .go (.ct e2) S2 => whileL mt mb n e2 S2
        | .go (.bk e2) S2 => .go (.nx e2) S2
        | r => r) := p1
      cases q5 : mb e S1 with
      | bad => rw [q5] at p1; exact p1
      | err C fs e6 S6 => rw [q5] at p1; exact p1
      | go o S6 =>
        rw [q5] at p1
        cases o with
        | nx e6 => exact fun ρ7 H7 σ7 st7 g7 ev7 => ⟨ρ7, e6, S6, st7, ev7, PostS.shift g7 st7 p1⟩
        | ct e6 => exact fun ρ7 H7 σ7 st7 g7 ev7 => ⟨ρ7, e6, S6, st7, ev7, PostS.shift g7 st7 p1⟩
        | bk e6 => exact p1
        | rt x6 => exact p1
        | rp d6 => exact p1

/-! ### list comprehensions -/
/-- what may not raise -/
def R.ne {α : Type} : R α → R α
  | .ok a S => .ok a S
  | _ => .bad
def wipeE (e : Ev) : List Nat → Ev
  | [] => e
  | v :: vs => (wipeE e vs).set v none
theorem wipeE_length (e : Ev) : ∀ vs : List Nat, (wipeE e vs).length = e.length
  | [] => rfl
  | v :: vs => by unfold wipeE; rw [List.length_set, wipeE_length e vs]
theorem wipeE_some {e : Ev} {i : Nat} {x : Bv.X} : ∀ {vs : List Nat}, (wipeE e vs)[i]? = some (some x) → e[i]? = some (some x) ∧ i ∉ vs
  | [], h => ⟨h, by simp⟩
  | v :: vs, h => by
    unfold wipeE at h
    by_cases hi : v = i
    · subst hi
      by_cases hv : v < (wipeE e vs).length
      · rw [List.getElem?_set_self hv] at h; cases h
      · rw [List.getElem?_eq_none (by simpa using hv)] at h; cases h
    · rw [List.getElem?_set_ne hi] at h
      obtain ⟨h1, h2⟩ := wipeE_some h
      exact ⟨h1, by simp only [List.mem_cons, not_or]; exact ⟨fun e => hi e.symm, h2⟩⟩
theorem wipe_keep {σ : L2.St} {i : Nat} {x : Option V} : ∀ {vs : List Nat}, i ∉ vs → σ[i]? = some x → (wipe σ vs)[i]? = some x
  | [], _, h => h
  | v :: vs, hn, h => by
    rw [List.mem_cons, not_or] at hn
    unfold wipe
    rw [List.getElem?_set_ne (fun z => hn.1 z.symm)]
    exact wipe_keep hn.2 h
theorem EvOk.wipe {K : PySem.W.Frag} {W : Wd} {ρ : List Addr} {H : Hp} {e : Ev} {σ : L2.St} (h : EvOk K W ρ H e σ) (vs : List Nat) : EvOk K W ρ H (wipeE e vs) (wipe σ vs) :=
  ⟨by rw [wipeE_length, wipe_length]; exact h.len, fun i x q => by
    obtain ⟨h1, h2⟩ := wipeE_some q
    obtain ⟨v, h3, h4⟩ := h.at_ i x h1
    exact ⟨v, wipe_keep h2 h3, h4⟩⟩
/-- the items that a comprehension makes -/
def lcL (t : Tg) (l : Lk) (mt : MG Bool) (me : M) (e : Ev) : List Bv.X → Sto → R (List D)
  | [], S => if l.ok S then .ok [] S else .bad
  | x :: xs, S => if l.ok S then (match t.asg S x e with
    | some e1 => (mt e1 S).ne.bind fun b S1 => if b then (me e1 S1).ne.bind fun y S2 => (match y with
        | .d d => (lcL t l mt me e xs S2).bind fun ds S3 => .ok (d :: ds) S3
        | .r _ => .bad) else lcL t l mt me e xs S1
    | none => .bad) else .bad
def finL (ds : List D) (S : Sto) : R Bv.X := if ds.length ≤ sizeLine then .ok (.d (.lst ds)) S else .bad
def m_lc (t : Tg) (mi : MIt) (mt : MG Bool) (me : M) (vs : List Nat) : M := fun e S => (mi e S).bind fun p S1 => (lcL t p.2 mt me (wipeE e vs) p.1 S1).bind finL
/-- no test -/
def b_true : MG Bool := fun _ S => .ok true S
abbrev WX0 : WX := fun _ _ _ _ => False
theorem R.bind_assoc {α β γ : Type} (r : R α) (f : α → Sto → R β) (g : β → Sto → R γ) : (r.bind f).bind g = r.bind fun a S => (f a S).bind g := by cases r <;> rfl
theorem lcL_err {t : Tg} {l : Lk} {mt : MG Bool} {me : M} {e : Ev} : ∀ {xs : List Bv.X} {S : Sto} {C fs S'}, lcL t l mt me e xs S ≠ .err C fs S'
  | [], S, C, fs, S', h => by
    simp only [lcL] at h
    split at h <;> cases h
  | x :: xs, S, C, fs, S', h => by
    simp only [lcL] at h
    split at h
    · split at h
      · rename_i e1 _
        cases q : (mt e1 S).ne with
        | err _ _ _ => cases q2 : mt e1 S <;> rw [q2] at q <;> cases q
        | bad => rw [q] at h; cases h
        | ok b S1 =>
          rw [q] at h
          have h : (if b then (me e1 S1).ne.bind fun y S2 => (match y with
            | .d d => (lcL t l mt me e xs S2).bind fun ds S3 => .ok (d :: ds) S3
            | .r _ => .bad) else lcL t l mt me e xs S1) = .err C fs S' := h
          cases b with
          | false => exact lcL_err h
          | true =>
            cases q3 : (me e1 S1).ne with
            | err _ _ _ => cases q2 : me e1 S1 <;> rw [q2] at q3 <;> cases q3
            | bad => rw [q3] at h; cases h
            | ok y S2 =>
              rw [q3] at h
              cases y with
              | r _ => cases h
              | d d =>
                have h : ((lcL t l mt me e xs S2).bind fun ds S3 => R.ok (d :: ds) S3) = .err C fs S' := h
                cases q4 : lcL t l mt me e xs S2 with
                | ok _ _ => rw [q4] at h; cases h
                | bad => rw [q4] at h; cases h
                | err C' fs' S'' => exact lcL_err q4
      · cases h
    · cases h
/-- a step that does not raise, in a context from which nothing may be raised -/
theorem ne_post {α β : Type} {rel : Wd → List Addr → Hp → α → β → Prop} {K : PySem.W.Frag} {Z : Wd} {ρ : List Addr} {S : Sto} {e : Ev} {H : Hp} {σ : L2.St} {m : MG α} {R' : β → Hp → Prop} (st : Sta K Z ρ S H) (ev : EvOk K (Wn Z ρ) ρ H e σ) {a : α} {S1 : Sto} (h : (m e S).ne = .ok a S1)
    (next : ∀ ρ1 H1 v, Sta K Z ρ1 S1 H1 → Go ρ H ρ1 H1 → EvOk K (Wn Z ρ1) ρ1 H1 e σ → rel (Wn Z ρ1) ρ1 H1 a v → R' v H1) : RG rel K WX0 m σ H R' := by
  refine ⟨Z, ρ, e, S, st, ev, ?_⟩
  cases q : m e S with
  | ok b S2 =>
    rw [q] at h
    cases h
    exact fun ρ1 H1 v s1 g r => next ρ1 H1 v s1 g (ev.mv (g.mv st) g.pre) r
  | err _ _ _ => rw [q] at h; cases h
  | bad => rw [q] at h; cases h
end
end Bv
set_option Elab.async false
set_option linter.all false
set_option maxRecDepth 100000
set_option maxHeartbeats 4000000
/-! By value: list comprehensions. -/
namespace Bv
open PySem PySem.Spec L2
open PyProof.Rows hiding St
variable [HasW]
theorem wipe_none {σ : L2.St} {v : Nat} : ∀ {vs : List Nat}, v ∈ vs → (wipe σ vs).set v none = wipe σ vs
  | w :: ws, h => by
    unfold wipe
    by_cases e : v = w
    · rw [e, List.set_set]
    · have h2 : v ∈ ws := (List.mem_cons.mp h).resolve_left e
      rw [List.set_comm _ _ (fun z => e z.symm), wipe_none h2]
theorem wipe_sub {σ : L2.St} {us : List Nat} : ∀ {vs : List Nat}, (∀ i ∈ vs, i ∈ us) → wipe (wipe σ us) vs = wipe σ us
  | [], _ => rfl
  | v :: vs, h => by
    show (wipe (wipe σ us) vs).set v none = wipe σ us
    rw [wipe_sub fun i hi => h i (List.mem_cons_of_mem _ hi)]
    exact wipe_none (h v List.mem_cons_self)
theorem wipe_twice {σ : L2.St} (vs : List Nat) : wipe (wipe σ vs) vs = wipe σ vs := wipe_sub fun _ h => h
abbrev MTs (X : Cx) (Wx : WX) (ifs : List Expr) (m : MG Bool) : Prop := PTs X ifs (RB X.K Wx m)
section
variable {X : Cx} {Wx : WX} {pos : Pos} {tg iter elt c : Expr} {ifs : List Expr} {mi : MIt} {mt : MG Bool} {me : M} {t : Tg} {vs : List Nat}
theorem mts_nil : MTs X Wx [] b_true := ⟨fun pins s σ H Q I h => pts_nil.run pins s σ H Q I (by
  obtain ⟨Z, ρ, e, S, st, ev, p⟩ := h
  exact PostG.ret0 p st rfl)⟩
theorem mts_one (h : MT X Wx c mt) : MTs X Wx [c] mt := pts_one h
/-- the readings are about the store and the slots alone: a step that does not raise may stand in any wish -/
theorem lc_run (hs : ∀ i ∈ t.slots, i ∈ vs) {σ : L2.St} {H : Hp} {Q : VK} (h : RE X.K Wx (m_lc t mi mt me vs) σ H Q) : tLc (RG (Srv X.K) X.K Wx mi) (TGt X.K t) (RB X.K WX0 mt) (RE X.K WX0 me) vs σ H Q := by
  obtain ⟨Z, ρ, e, S, st, ev, p⟩ := h
  refine tt_bind (rel := Srv X.K) st ev p fun ρ1 H1 J p0 S1 st1 g1 ev1 srv p1 => ?_
  obtain ⟨ys, l⟩ := p0
  obtain ⟨G, Y, w, sv⟩ := srv
  intro D0 hD
  have p1 : Post X.K Z ρ1 H1 Wx σ Q ((lcL t l mt me (wipeE e vs) ys S1).bind finL) := p1
  have sv : ∀ (Z2 : Wd) (ρ2 : List Addr) (S2 : Sto) (H2 : Hp), Sta X.K Z2 ρ2 S2 H2 → Mv (Wn Z ρ1) H1 (Wn Z2 ρ2) H2 → ρ1 <+: ρ2 → (∀ a ob u, H1 a = some (.frz ob u) → H2 a = some (.frz ob u)) → l.ok S2 = true → G H2 ∧
    ∀ i x H3, Y i H2 x H3 → Same H2 H3 ∧ ∃ y, ys[i]? = some y ∧ AX X.K (Wn Z2 ρ2) ρ2 H3 y x := sv
  have w : Walk J ys.length G Y := w
  have evw := ev1.wipe vs
  -- what others may write: the new list too
  let Z' : Wd := fun a => Z a ∨ a = D0
  let Pv : Nat → Hp → Prop := fun i H => ∃ (ρ : List Addr) (S : Sto) (acc : List D) (xs : List V), Sta X.K Z' ρ S H ∧ ρ1 <+: ρ ∧ (∀ a o, a ∉ ρ1 → H1 a = some o → a ∉ ρ ∧ H a = some o) ∧ (∀ a ob u, H1 a = some (.frz ob u) → H a = some (.frz ob u)) ∧ H D0 = some (.lst xs) ∧ AVs X.K (Wn Z' ρ) H acc xs ∧
    EvOk X.K (Wn Z' ρ) ρ H (wipeE e vs) (wipe σ vs) ∧ Post X.K Z ρ1 H1 Wx σ Q ((lcL t l mt me (wipeE e vs) (ys.drop i) S).bind fun ds S' => finL (acc ++ ds) S')
  have mvOf : ∀ {ρ : List Addr} {S : Sto} {H : Hp}, Sta X.K Z' ρ S H → (∀ a o, a ∉ ρ1 → H1 a = some o → a ∉ ρ ∧ H a = some o) → Mv (Wn Z ρ1) H1 (Wn Z' ρ) H := fun {ρ S H} s k a o hn hq => by
    have h1 : a ∉ ρ1 := fun z => hn (.inr z)
    obtain ⟨h2, h3⟩ := k a o h1 hq
    refine ⟨fun z => ?_, h3⟩
    rcases z with (z | z) | z
    · exact hn (.inl z)
    · rw [z, hD] at hq; cases hq
    · exact h2 z
  have okOf : ∀ {xs : List Bv.X} {S : Sto} {acc : List D}, Post X.K Z ρ1 H1 Wx σ Q ((lcL t l mt me (wipeE e vs) xs S).bind fun ds S' => finL (acc ++ ds) S') → l.ok S = true := fun {xs S acc} q => by
    cases z : l.ok S with
    | true => rfl
    | false => cases xs <;> (simp only [lcL, z] at q; exact q.elim)
  refine lc_it w Pv ?_ ?_ ?_ ?_
  · -- the start
    have k := upd_keep (o := .lst []) hD
    have s0 := st1.grow k
    have hnw : ¬ Wn Z ρ1 D0 := st1.fresh hD
    have m0 : Mv (Wn Z ρ1) H1 (Wn Z' ρ1) (upd H1 D0 (.lst [])) := fun a o hn hq => ⟨fun z => by
      rcases z with (z | z) | z
      · exact hn (.inl z)
      · rw [z, hD] at hq; cases hq
      · exact hn (.inr z), k a o hq⟩
    refine ⟨ρ1, S1, [], [], ⟨st1.nd, fun a z => ?_, st1.len, fun n o a e1 e2 => AO.mv m0 (List.prefix_refl _) (fun u q => k _ _ q) (st1.ob n o a e1 e2)⟩, List.prefix_refl _, fun a o hn hq => ⟨hn, k a o hq⟩, fun a _ _ q => k a _ q, upd_same, .nil, evw.mv m0 (List.prefix_refl _), ?_⟩
    · rcases z with z | z
      · exact ⟨(st1.z a z).1, let ⟨o, q⟩ := (st1.z a z).2; ⟨o, k a o q⟩⟩
      · exact ⟨fun z2 => hnw (.inr (by rw [← z]; exact z2)), ⟨_, by rw [z]; exact upd_same⟩⟩
    · rw [List.drop_zero]
      exact p1
  · rintro i H2 _ ⟨ρ2, S2, acc, xs, st2, pr2, k2, f2, d2, a2, ev2, q2⟩
    exact (sv Z' ρ2 S2 H2 st2 (mvOf st2 k2) pr2 f2 (okOf q2)).1
  · rintro i x H2 H3 hi ⟨ρ2, S2, acc, xs, st2, pr2, k2, f2, d2, a2, ev2, q2⟩ hy
    have hk := okOf q2
    obtain ⟨k, y, e3, a⟩ := (sv Z' ρ2 S2 H2 st2 (mvOf st2 k2) pr2 f2 hk).2 i x H3 hy
    have st3 := st2.grow k
    have m23 : Mv (Wn Z' ρ2) H2 (Wn Z' ρ2) H3 := same_mv k
    have ev3 := ev2.mv m23 (List.prefix_refl _)
    rw [drop_get e3] at q2
    simp only [lcL, hk, if_true] at q2
    cases q4 : t.asg S2 y (wipeE e vs) with
    | none => rw [q4] at q2; exact q2.elim
    | some e4 =>
      rw [q4] at q2
      refine ⟨Z', ρ2, wipeE e vs, S2, y, e4, st3, ev3, a, q4, fun σ5 ev5 w5 => ⟨?_, ?_⟩⟩
      · rw [w5 vs hs, wipe_twice]
      have q2 : Post X.K Z ρ1 H1 Wx σ Q (((mt e4 S2).ne.bind fun b S1 => if b then (me e4 S1).ne.bind fun y S2 => (match y with
          | .d d => (lcL t l mt me (wipeE e vs) (ys.drop (i + 1)) S2).bind fun ds S3 => .ok (d :: ds) S3
          | .r _ => .bad) else lcL t l mt me (wipeE e vs) (ys.drop (i + 1)) S1).bind fun ds S' => finL (acc ++ ds) S') := q2
      cases q5 : (mt e4 S2).ne with
      | err _ _ _ => cases q6 : mt e4 S2 <;> rw [q6] at q5 <;> cases q5
      | bad => rw [q5] at q2; exact q2.elim
      | ok b S6 =>
        rw [q5] at q2
        refine ne_post (rel := relB) st3 ev5 q5 fun ρ6 H6 v st6 g6 ev6 r6 => ?_
        cases (show b = v from r6)
        have pr6 : ρ1 <+: ρ6 := pr2.trans g6.pre
        have nD : D0 ∉ ρ2 := (st2.z D0 (.inr rfl)).1
        obtain ⟨nD6, d6⟩ := g6.keep D0 _ nD (k _ _ d2)
        have k6 : ∀ a o, a ∉ ρ1 → H1 a = some o → a ∉ ρ6 ∧ H6 a = some o := fun a o h1 h2 => by
          obtain ⟨h3, h4⟩ := k2 a o h1 h2
          exact g6.keep a o h3 (k _ _ h4)
        have m36 := g6.mv st3
        have ev6' : EvOk X.K (Wn Z' ρ6) ρ6 H6 (wipeE e vs) (wipe σ vs) := ev3.mv m36 g6.pre
        have a6 := (a2.mv m23).mv m36
        cases b with
        | false =>
          rw [if_neg Bool.false_ne_true]
          exact ⟨ρ6, S6, acc, xs, st6, pr6, k6, fun a ob u q => g6.fz a ob u (k _ _ (f2 a ob u q)), d6, a6, ev6', q2⟩
        | true =>
          rw [if_pos rfl]
          have q2 : Post X.K Z ρ1 H1 Wx σ Q (((me e4 S6).ne.bind fun y S2 => (match y with
            | .d d => (lcL t l mt me (wipeE e vs) (ys.drop (i + 1)) S2).bind fun ds S3 => .ok (d :: ds) S3
            | .r _ => .bad)).bind fun ds S' => finL (acc ++ ds) S') := q2
          cases q7 : (me e4 S6).ne with
          | err _ _ _ => cases q6 : me e4 S6 <;> rw [q6] at q7 <;> cases q7
          | bad => rw [q7] at q2; exact q2.elim
          | ok z S7 =>
            rw [q7] at q2
            refine ne_post (rel := AX X.K) st6 ev6 q7 fun ρ7 H7 v st7 g7 ev7 r7 => ?_
            cases z with
            | r _ => exact q2.elim
            | d d =>
              have q2 : Post X.K Z ρ1 H1 Wx σ Q (((lcL t l mt me (wipeE e vs) (ys.drop (i + 1)) S7).bind fun ds S3 => .ok (d :: ds) S3).bind fun ds S' => finL (acc ++ ds) S') := q2
              rw [R.bind_assoc] at q2
              have nD6' : D0 ∉ ρ6 := nD6
              obtain ⟨nD7, d7⟩ := g7.keep D0 _ nD6' d6
              have m67 := g7.mv st6
              have a7 := a6.mv m67
              have k7 : ∀ a o, a ∉ ρ1 → H1 a = some o → a ∉ ρ7 ∧ H7 a = some o := fun a o h1 h2 => by
                obtain ⟨h3, h4⟩ := k6 a o h1 h2
                exact g7.keep a o h3 h4
              cases r7 with
              | d r7 =>
                -- the length
                have hlen : acc.length < sizeLine := by
                  cases q8 : lcL t l mt me (wipeE e vs) (ys.drop (i + 1)) S7 with
                  | bad => rw [q8] at q2; exact q2.elim
                  | err C fs S8 => exact absurd q8 lcL_err
                  | ok ds S8 =>
                    rw [q8] at q2
                    have q2 : Post X.K Z ρ1 H1 Wx σ Q (if (acc ++ d :: ds).length ≤ sizeLine then .ok (.d (.lst (acc ++ d :: ds))) S8 else .bad) := q2
                    by_cases hl : (acc ++ d :: ds).length ≤ sizeLine
                    · rw [List.length_append, List.length_cons] at hl; omega
                    · rw [if_neg hl] at q2; exact q2.elim
                have wD : Wn Z' ρ7 D0 := .inl (.inr rfl)
                have m8 : Mv (Wn Z' ρ7) H7 (Wn Z' ρ7) (upd H7 D0 (.lst (xs ++ [v]))) := fun a o hn hq => ⟨hn, by rw [upd_ne (fun z => hn (by rw [z]; exact wD))]; exact hq⟩
                have neD : ∀ b, b ∈ ρ7 → b ≠ D0 := fun b hb z => nD7 (by rw [← z]; exact hb)
                refine ⟨xs, d7, by rw [← a7.length]; exact hlen, ρ7, S7, acc ++ [d], xs ++ [v], ⟨st7.nd, fun a z => ⟨(st7.z a z).1, ?_⟩, st7.len, fun n o a e1 e2 => AO.mv m8 (List.prefix_refl _) (fun u q => by rw [upd_ne (neD a (List.mem_of_getElem? e2))]; exact q) (st7.ob n o a e1 e2)⟩, pr6.trans g7.pre, fun a o h1 h2 => ?_, fun a ob u q => by rw [upd_ne (fun z => by rw [z, hD] at q; cases q)]; exact g7.fz a ob u (g6.fz a ob u (k _ _ (f2 a ob u q))), upd_same, (a7.append (.cons r7 .nil)).mv m8, (ev6'.mv m67 g7.pre).mv m8 (List.prefix_refl _), ?_⟩
                · by_cases hz : a = D0
                  · exact ⟨_, by rw [hz]; exact upd_same⟩
                  · obtain ⟨o, q⟩ := (st7.z a z).2
                    exact ⟨o, by rw [upd_ne hz]; exact q⟩
                · obtain ⟨h3, h4⟩ := k7 a o h1 h2
                  exact ⟨h3, by rw [upd_ne (fun z => by rw [z, hD] at h2; cases h2)]; exact h4⟩
                · have e9 : (fun (ds : List D) (S' : Sto) => finL (acc ++ [d] ++ ds) S') = fun ds S' => finL (acc ++ (d :: ds)) S' := by
                    funext ds S'
                    rw [List.append_assoc]; rfl
                  show Post X.K Z ρ1 H1 Wx σ Q ((lcL t l mt me (wipeE e vs) (ys.drop (i + 1)) S7).bind fun ds S' => finL (acc ++ [d] ++ ds) S')
                  rw [e9]
                  exact q2
  · rintro H2 ⟨ρ2, S2, acc, xs, st2, pr2, k2, f2, d2, a2, ev2, q2⟩
    have hk := okOf q2
    rw [List.drop_length] at q2
    simp only [lcL, hk, if_true] at q2
    have q2 : Post X.K Z ρ1 H1 Wx σ Q (finL (acc ++ []) S2) := q2
    rw [List.append_nil] at q2
    have q2 : Post X.K Z ρ1 H1 Wx σ Q (if acc.length ≤ sizeLine then .ok (.d (.lst acc)) S2 else .bad) := q2
    by_cases hl : acc.length ≤ sizeLine
    · rw [if_pos hl] at q2
      have m : Mv (Wn Z' ρ2) H2 (Wn Z ρ2) H2 := fun a o hn hq => ⟨fun z => hn (z.elim (fun z => .inl (.inl z)) .inr), hq⟩
      refine q2 ρ2 H2 (.ref D0) ⟨st2.nd, fun a z => st2.z a (.inl z), st2.len, fun n o a e1 e2 => AO.mv m (List.prefix_refl _) (fun u q => q) (st2.ob n o a e1 e2)⟩ ⟨pr2, k2, f2⟩ (.d (.lst (fun z => ?_) d2 (a2.mv m)))
      rcases z with z | z
      · exact st1.fresh hD (.inl z)
      · exact (st2.z D0 (.inr rfl)).1 z
    · rw [if_neg hl] at q2; exact q2.elim
theorem me_lc {scope : Scope} {own : List (Str × Nat)} (hc : X.calm = true) (hN : X.N.Nodup) (hi : MI X Wx tg iter mi) (ok : BlkOk X.N X.env.scope scope own) (hsl : ∀ i ∈ t.slots, i ∈ own.map (·.2))
    (hg : ∀ (s : Shared) (H : Hp) (C : Addr) (cl : List (Str × Addr)) (fp : List Addr), PG (X.blk s H scope (compEnvC scope cl C X.env) fp) tg (TGt X.K t)) (ht : ∀ (s : Shared) (H : Hp) (C : Addr) (cl : List (Str × Addr)) (fp : List Addr), MTs (X.blk s H scope (compEnvC scope cl C X.env) fp) WX0 ifs mt)
    (he : ∀ (s : Shared) (H : Hp) (C : Addr) (cl : List (Str × Addr)) (fp : List Addr), ME (X.blk s H scope (compEnvC scope cl C X.env) fp) WX0 elt me) (hs : ∀ x, foldedSetIterable iter X.env x = pure x := by intro _; rfl) :
    ME X Wx (.ListComp elt [⟨tg, iter, ifs, 0⟩] scope pos) (m_lc t mi mt me (own.map (·.2))) := PE.of (pe_lc hc hN hi ok hg ht he hs) fun _ _ _ h => lc_run hsl h
theorem mp_setLc {i : Nat} {y : Str} {py spos : Pos} {scope : Scope} {own : List (Str × Nat)} (hc : X.calm = true) (hN : X.N.Nodup) (hy : X.N[i]? = some y) (hyl : X.env.scope.names.lookup y = some .local)
    (hsw : swapsWith (.ListComp elt [⟨tg, iter, ifs, 0⟩] scope pos) (some (.Name y py)) spos.line X.env = pure true) (hi : MI X Wx tg iter mi) (ok : BlkOk X.N X.env.scope scope own) (hsl : ∀ i ∈ t.slots, i ∈ own.map (·.2))
    (hg : ∀ (s : Shared) (H : Hp) (C : Addr) (cl : List (Str × Addr)) (fp : List Addr), PG (X.blk s H scope (compEnvC scope cl C X.env) fp) tg (TGt X.K t)) (ht : ∀ (s : Shared) (H : Hp) (C : Addr) (cl : List (Str × Addr)) (fp : List Addr), MTs (X.blk s H scope (compEnvC scope cl C X.env) fp) WX0 ifs mt)
    (he : ∀ (s : Shared) (H : Hp) (C : Addr) (cl : List (Str × Addr)) (fp : List Addr), ME (X.blk s H scope (compEnvC scope cl C X.env) fp) WX0 elt me) (hs : ∀ x, foldedSetIterable iter X.env x = pure x := by intro _; rfl) :
    MP X Wx (.Assign [.Name y py] (.ListComp elt [⟨tg, iter, ifs, 0⟩] scope pos) spos) (s_set i (m_lc t mi mt me (own.map (·.2)))) := PS.of (ps_setLc hc hN hy hyl hsw hi ok hg ht he hs) fun D σ H ⟨Z, ρ, e, S, st, ev, p⟩ => by
  refine lc_run (mt := mt) (me := me) (t := t) hsl ?_
  exact so_bind (rel := AX X.K) st ev p fun ρ1 H1 v x S1 st1 g1 ev1 a1 p1 => p1.next st1 (ev1.set a1)
end
end Bv
set_option Elab.async false
set_option linter.all false
set_option maxRecDepth 100000
set_option maxHeartbeats 4000000
/-! By value: what is walked. -/
namespace Bv
open PySem PySem.Spec L2
open PyProof.Rows hiding St
variable [HasW]

/-! ### any value that can be walked -/
def iAny (K : PySem.W.Frag) (t : TE) : TI := fun σ H R => t σ H fun x H1 =>
  (∃ a, x = .ref a ∧ (((∃ xs, SqL K H1 a xs) ∧ R (Itl K a) H1) ∨ ((∃ xs, SqT K H1 a xs) ∧ R (Itt K a) H1))) ∨ ∃ z, x = .str z ∧ R (Its z) H1
theorem pi_any {X : Cx} {tg e : Expr} {t : TE} (he : PE X e t) : PI X tg e (iAny X.K t) := ⟨fun pins s σ H R I h => thn (he.run pins s σ H _ I h) fun v s1 ⟨x, H1, I1, r1, q1⟩ => by
  rcases q1 with ⟨a, rfl, ⟨⟨xs, hq⟩, q⟩ | ⟨⟨xs, hq⟩, q⟩⟩ | ⟨z, rfl, q⟩
  · cases r1
    obtain ⟨its, _, p, _⟩ := I1.list hq
    exact wpAny_pyIter_list p.isList (pi_one (tk := s1.toks) I1 _ (turn_list a _) ⟨_, Heap.get?_push_size _ rfl, rfl, rfl⟩ q)
  · cases r1
    obtain ⟨its, _, p, _⟩ := I1.tuple hq
    exact wpAny_pyIter_tuple (show s1.heap.IsTuple a its.toArray from p) (pi_one (tk := s1.toks) I1 _ (turn_tuple a _) ⟨_, Heap.get?_push_size _ rfl, rfl, rfl⟩ q)
  · obtain ⟨t, rfl⟩ := r1
    cases hz : z.cps.all (· < 128) with
    | false => exact wpAny_pyIter_wide hz (pi_one (tk := s1.toks) I1 _ (turn_str _ z t "str_iterator" (.inr rfl)) ⟨_, Heap.get?_push_size _ rfl, rfl, rfl⟩ q)
    | true => exact wpAny_pyIter_ascii hz (pi_one (tk := s1.toks) I1 _ (turn_str _ z t "str_ascii_iterator" (.inl rfl)) ⟨_, Heap.get?_push_size _ rfl, rfl, rfl⟩ q)⟩
def walkX (S : Sto) : X → Option (List X × Lk)
  | .d (.lst ds) => some (ds.map .d, .free)
  | .d (.tup ds) => some (ds.map .d, .free)
  | .d (.scr ns) => some (ns.map fun i => .d (.int i), .free)
  | .d (.str z) => some (z.cps.toList.map fun c => .d (.str ⟨#[c]⟩), .free)
  | .d _ => none
  | .r n => match S[n]? with
    | some (.lst xs) => some (xs, .lst n xs)
    | _ => none
def i_val (m : M) : MIt := fun e S => (m e S).bind fun x S1 => optR (walkX S1 x) S1
/-- the walk over a list whose items may be told otherwise, but as many -/
theorem walk_listN {K : PySem.W.Frag} {a : Addr} (n : Nat) : Walk (Itl K a) n (fun H => ∃ xs, xs.length = n ∧ SqL K H a xs) (fun i H x H' => H' = H ∧ ∀ xs, SqL K H a xs → xs[i]? = some x) :=
  ⟨fun i _ hi ⟨xs, e, q⟩ => ⟨xs, xs[i]'(by omega), q, by simp [show i < xs.length by omega]⟩, fun _ ⟨xs, e, q⟩ => ⟨xs, q, by omega⟩, fun _ _ _ _ _ _ y => y⟩
theorem Same.rfl' {H : Hp} : Same H H := fun _ _ q => q
theorem pair_at {α β : Type} {F : α → β → Prop} : ∀ {l : List α} {r : List β} {j : Nat} {b : β}, Paired F l r → r[j]? = some b → ∃ a, l[j]? = some a ∧ F a b
  | _, _, _, _, .nil, z => by simp at z
  | _, _, 0, _, .cons h _, z => by simp at z; subst z; exact ⟨_, rfl, h⟩
  | _, _, j + 1, _, .cons _ t, z => by
    obtain ⟨a, h1, h2⟩ := pair_at (j := j) t (by simpa using z)
    exact ⟨a, by simpa using h1, h2⟩
theorem AVs.at_ {K : PySem.W.Frag} {W : Wd} {H : Hp} {ds : List D} {vs : List V} {i : Nat} {v : V} (h : AVs K W H ds vs) (e : vs[i]? = some v) : ∃ d, ds[i]? = some d ∧ AV K W H d v := by
  have hl := h.length
  obtain ⟨h1, h2⟩ := List.getElem?_eq_some_iff.mp e
  have hd : ds[i]? = some (ds[i]'(by omega)) := List.getElem?_eq_getElem _
  obtain ⟨u, h3, h4⟩ := h.get hd
  rw [e] at h3
  cases h3
  exact ⟨_, hd, h4⟩
theorem avs_ints {K : PySem.W.Frag} {W : Wd} {H : Hp} : ∀ ns : List Int, AVs K W H (ns.map D.int) (ns.map V.int)
  | [] => .nil
  | i :: r => .cons (.int i) (avs_ints r)
section
variable {X : Cx} {Wx : WX} {pos p : Pos} {tg e a b : Expr} {es : List Expr} {m : M} {ms : MG (List Bv.X)}
theorem srv_list {K : PySem.W.Frag} {W : Wd} {ρ : List Addr} {H : Hp} {a : Addr} {xs : List V} {ds : List D} (r : Lp K W H a xs) (hs : AVs K W H ds xs) : Srv K W ρ H (ds.map .d, .free) (Itl K a) :=
  ⟨fun H => SqL K H a xs, YAt xs, by rw [show (ds.map Bv.X.d, Lk.free).1.length = xs.length by simpa using hs.length]; exact walk_list, fun Z2 ρ2 S2 H2 st m p fz k => ⟨(m.lp r).sl, fun i x H3 y => by
    obtain ⟨rfl, y⟩ := y
    obtain ⟨d, h1, h2⟩ := (hs.mv m).at_ y
    exact ⟨Same.rfl', .d d, by simp [h1], .d h2⟩⟩⟩
theorem mi_val (h : ME X Wx e m) : MI X Wx tg e (i_val m) := PI.of (pi_any h) fun σ H R ⟨Z, ρ, e, S, st, ev, p⟩ => tt_bind st ev p fun ρ1 H1 v x S1 st1 g1 ev1 a1 p1 => by
  obtain ⟨w, hw, p2⟩ := p1.opt
  have fin : ∀ J, Srv X.K (Wn Z ρ1) ρ1 H1 w J → R J H1 := fun J h => PostG.ret0 p2 st1 h
  cases a1 with
  | d a =>
    cases a with
    | lst w r hs => cases hw; exact .inl ⟨_, rfl, .inl ⟨⟨_, .inl (.inl r)⟩, fin _ (srv_list (.inl ⟨w, .inl r⟩) hs)⟩⟩
    | scr r =>
      rename_i q ns
      cases hw
      refine .inl ⟨_, rfl, .inl ⟨⟨_, r.sl⟩, fin _ ?_⟩⟩
      have hs : AVs X.K (Wn Z ρ1) H1 (ns.map D.int) (ns.map V.int) := avs_ints ns
      have e1 : (ns.map D.int).map Bv.X.d = ns.map fun i => Bv.X.d (.int i) := by simp
      rw [← e1]
      exact srv_list r hs
    | tup t hs =>
      rename_i q us ds
      cases hw
      refine .inl ⟨_, rfl, .inr ⟨⟨_, t.sq⟩, fin _ ⟨_, _, by rw [show (ds.map Bv.X.d, Lk.free).1.length = us.length by simpa using hs.length]; exact walk_tup, fun Z2 ρ2 S2 H2 st m p fz k => ⟨(m.tp t).sq, fun i x H3 y => ?_⟩⟩⟩⟩
      obtain ⟨rfl, y⟩ := y
      obtain ⟨d, h1, h2⟩ := (hs.mv m).at_ y
      exact ⟨Same.rfl', .d d, by simp [h1], .d h2⟩
    | str hz =>
      rename_i z
      cases hw
      refine .inr ⟨_, rfl, fin _ ⟨_, _, by rw [show (z.cps.toList.map fun c => Bv.X.d (.str ⟨#[c]⟩), Lk.free).1.length = z.cps.size by simp]; exact walk_str, fun Z2 ρ2 S2 H2 st m p fz k => ⟨trivial, fun i x H3 y => ?_⟩⟩⟩
      obtain ⟨rfl, c, hc, rfl⟩ := y
      have hm : c ∈ z.cps.toList := by
        have := Array.mem_of_getElem? hc
        simpa using this
      have hc' := strOk_mem hz hm
      refine ⟨Same.rfl', .d (.str ⟨#[c]⟩), by simp [hc], .d (.str (strOk_of fun c' m => ?_))⟩
      have : c' = c := by simpa using m
      rw [this]; exact hc'
    | _ => cases hw
  | r h =>
    rename_i n a
    have hw : (match S1[n]? with
      | some (.lst xs) => some (xs, Lk.lst n xs)
      | _ => none) = some w := hw
    cases q : S1[n]? with
    | none => rw [q] at hw; cases hw
    | some o =>
      rw [q] at hw
      cases o with
      | lst xs =>
        cases hw
        obtain ⟨vs, h1, h2⟩ := st1.ob n _ _ q h
        refine .inl ⟨_, rfl, .inl ⟨⟨_, .inl (.inl h1)⟩, fin _ ⟨_, _, walk_listN xs.length, fun Z2 ρ2 S2 H2 st m p fz k => ?_⟩⟩⟩
        have k : (match S2[n]? with
          | some (.lst zs) => decide (zs = xs)
          | _ => false) = true := k
        cases q2 : S2[n]? with
        | none => rw [q2] at k; cases k
        | some o2 =>
          rw [q2] at k
          cases o2 with
          | lst zs =>
            have k : zs = xs := of_decide_eq_true k
            subst k
            have h' : ρ2[n]? = some a := by
              obtain ⟨t, rfl⟩ := p
              rw [List.getElem?_append_left (List.getElem?_eq_some_iff.mp h).1]; exact h
            obtain ⟨us, h3, h4⟩ := st.ob n _ _ q2 h'
            refine ⟨⟨us, (Paired.length h4).symm, .inl (.inl h3)⟩, fun i x H3 y => ?_⟩
            obtain ⟨rfl, y⟩ := y
            obtain ⟨b, h5, h6⟩ := pair_at h4 (y us (.inl (.inl h3)))
            exact ⟨Same.rfl', b, h5, h6⟩
          | _ => cases k
      | _ => cases hw

/-! ### range -/
def smallI (j : Int) : Bool := decide (-(2 ^ 62) ≤ j ∧ j < 2 ^ 62)
def upTo (lo : Int) (n : Nat) : List Bv.X := (List.range n).map fun (i : Nat) => Bv.X.d (.int (lo + i))
def ints? : List Bv.X → Option (List Int)
  | [] => some []
  | x :: r => match intX x, ints? r with
    | some i, some l => some (i :: l)
    | _, _ => none
theorem ints_inv {K : PySem.W.Frag} {W : Wd} {ρ : List Addr} {H : Hp} : ∀ {xs : List Bv.X} {vs : List V} {l : List Int}, AXs K W ρ H xs vs → ints? xs = some l → vs = l.map V.int
  | _, _, _, .nil, e => by cases e; rfl
  | x :: r, _, l, .cons h t, e => by
    unfold ints? at e
    cases q : intX x with
    | none => rw [q] at e; cases e
    | some i =>
      cases q2 : ints? r with
      | none => rw [q, q2] at e; cases e
      | some l2 =>
        rw [q, q2] at e
        cases e
        rw [h.int q, ints_inv t q2]; rfl
def rng1X (xs : List Bv.X) : Option (List Bv.X × Lk) := match ints? xs with
  | some [j] => if smallI j then some (upTo 0 j.toNat, .free) else none
  | _ => none
def rng2X (xs : List Bv.X) : Option (List Bv.X × Lk) := match ints? xs with
  | some [i, j] => if smallI i && smallI j then some (upTo i (j - i).toNat, .free) else none
  | _ => none
def i_rng1 (ms : MG (List Bv.X)) : MIt := fun e S => (ms e S).bind fun xs S1 => optR (rng1X xs) S1
def i_rng2 (ms : MG (List Bv.X)) : MIt := fun e S => (ms e S).bind fun xs S1 => optR (rng2X xs) S1
theorem srv_rng {K : PySem.W.Frag} {W : Wd} {ρ : List Addr} {H : Hp} {lo : Int} {n : Nat} : Srv K W ρ H (upTo lo n, .free) (Itr lo n) :=
  ⟨fun H => True, fun i H x H' => i < n ∧ H' = H ∧ x = .int (lo + i), by rw [show (upTo lo n, Lk.free).1.length = n by simp [upTo]]; exact ⟨fun _ _ hi _ => hi, fun _ _ => Nat.le_refl _, fun i _ _ _ hi _ y => ⟨hi, y.1, y.2⟩⟩, fun Z2 ρ2 S2 H2 st m p fz k => ⟨trivial, fun i x H3 y => by
    obtain ⟨hi, rfl, rfl⟩ := y
    exact ⟨Same.rfl', .d (.int (lo + i)), by simp [upTo, hi], .d (.int _)⟩⟩⟩
theorem smallI_inv {j : Int} (h : smallI j = true) : -(2 ^ 62) ≤ j ∧ j < 2 ^ 62 := of_decide_eq_true h
theorem mi_rng1 (hg : Gl X "range") (hm : X.mg "range" = none) (ha : MA X Wx [a] ms) (hs : starEach [a] X.env = [(false, eval a X.env)] := by rfl) : MI X Wx tg (.Call (.Name "range" p) [a] [] pos) (i_rng1 ms) := PI.of (pi_range1 hg hm ha hs) fun σ H R ⟨Z, ρ, e, S, st, ev, p⟩ => tt_bind st ev p fun ρ1 H1 v xs S1 st1 g1 ev1 a1 p1 => by
  obtain ⟨w, hw, p2⟩ := p1.opt
  unfold rng1X at hw
  cases q : ints? xs with
  | none => rw [q] at hw; cases hw
  | some l =>
    rw [q] at hw
    have e1 := ints_inv a1 q
    match l, hw, e1 with
    | [j], hw, e1 =>
      obtain ⟨h1, h2⟩ := ite_some hw
      cases h2
      exact ⟨j, e1, (smallI_inv h1).1, (smallI_inv h1).2, PostG.ret0 p2 st1 srv_rng⟩
    | [], hw, _ => cases hw
    | _ :: _ :: _, hw, _ => cases hw
theorem mi_rng2 (hg : Gl X "range") (hm : X.mg "range" = none) (ha : MA X Wx [a, b] ms) (hs : starEach [a, b] X.env = [(false, eval a X.env), (false, eval b X.env)] := by rfl) (hs2 : starEach [b] X.env = [(false, eval b X.env)] := by rfl) :
    MI X Wx tg (.Call (.Name "range" p) [a, b] [] pos) (i_rng2 ms) := PI.of (pi_range2 hg hm ha hs hs2) fun σ H R ⟨Z, ρ, e, S, st, ev, p⟩ => tt_bind st ev p fun ρ1 H1 v xs S1 st1 g1 ev1 a1 p1 => by
  obtain ⟨w, hw, p2⟩ := p1.opt
  unfold rng2X at hw
  cases q : ints? xs with
  | none => rw [q] at hw; cases hw
  | some l =>
    rw [q] at hw
    have e1 := ints_inv a1 q
    match l, hw, e1 with
    | [i, j], hw, e1 =>
      obtain ⟨h1, h2⟩ := ite_some hw
      cases h2
      have h1 := Bool.and_eq_true_iff.mp h1
      exact ⟨i, j, e1, ⟨(smallI_inv h1.1).1, (smallI_inv h1.1).2, (smallI_inv h1.2).1, (smallI_inv h1.2).2⟩, PostG.ret0 p2 st1 srv_rng⟩
    | [], hw, _ => cases hw
    | [_], hw, _ => cases hw
    | _ :: _ :: _ :: _, hw, _ => cases hw
end
end Bv
set_option Elab.async false
set_option linter.all false
set_option maxRecDepth 100000
set_option maxHeartbeats 4000000
/-! Exceptions in the air whose contexts are told: a chain of exceptions on the ground, none of them tracked. -/
namespace Xq
open PySem PySem.Spec PyProof.Rows L2
/-- a chain of contexts: each an object of B with fields, out of H's reach -/
inductive Ch (B : Heap) (H : Hp) : Value → Prop
  | nil : Ch B H .none
  | cons {b : Addr} {ob : Obj} {ws : Array Value} {v : Value} (at_ : B.get? b = some ob) (da : ob.data = .fields ws) (fr : H b = none) (nx : ws[2]? = some v) (rest : Ch B H v) : Ch B H (.ref b)
theorem Ch.mono {B B' : Heap} {H H' : Hp} {v : Value} (c : Ch B H v) (k : ∀ b o, H b = none → B.get? b = some o → B'.get? b = some o ∧ H' b = none) : Ch B' H' v := by
  induction c with
  | nil => exact .nil
  | cons at_ da fr nx _ ih => exact .cons (k _ _ fr at_).1 da (k _ _ fr at_).2 nx ih
/-- the object's context begins such a chain -/
def Ctx (B : Heap) (H : Hp) (o : Obj) : Prop := ∀ ws : Array Value, o.data = .fields ws → ∃ v, ws[2]? = some v ∧ Ch B H v
abbrev Zq (B : Heap) (H : Hp) (cls : Value) (d : Option Addr) (o : Obj) : Prop := Zc cls d o ∧ Ctx B H o
theorem ctx_steady {B : Heap} {H : Hp} : PXN.Steady1 (Ctx B H) := fun o v h => by
  obtain ⟨c, d, dt, sl⟩ := o
  cases dt with
  | fields u0 =>
    intro ws e
    cases e
    obtain ⟨v2, e2, q⟩ := h u0 rfl
    exact ⟨v2, HotX.set_other (by decide) e2, q⟩
  | _ => intro ws e; cases e
theorem zq_steady {B : Heap} {H : Hp} {cls : Value} {d : Option Addr} : PXN.Steady1 (Zq B H cls d) := PXN.steady_and (PXN.steady_and PXN.steady_cls PXN.steady_dict) ctx_steady
/-- an exception in the air; sI: the state without it; B: its ground -/
structure Up (X : Cx) (W : WX) (u : Value) (s' : Shared) (a : Addr) (B : Heap) (sI : Shared) (pins : List (Addr × Obj)) (σ : L2.St) (H : Hp) (cls : Value) (d : Option Addr) : Prop where
  isA : u = .ref a
  inv : Inv X pins σ H sI
  gr : ∀ b o, sI.heap.get? b = some o → b ∉ frs X.stack → B.get? b = some o
  up : sI.heap.UpToSlots s'.heap
  sky : Sky B X.stack a (Zq B H cls d) X.env.locals s'.heap
  na : H a = none
  os : s'.os = sI.os
  ag : AllBare s'.gens
  wish : W cls d σ H
def QX (X : Cx) (W : WX) (u : Value) (s' : Shared) : Prop := ∃ a B sI pins σ H cls d, Up X W u s' a B sI pins σ H cls d
def Tk (X : Cx) (W : WX) : Prop := ∀ u s', QX X W u s' → X.xe u s'
theorem Tk.imp {X : Cx} {W W' : WX} (t : Tk X W) (h : ∀ c d σ H, W' c d σ H → W c d σ H) : Tk X W' := fun u s' ⟨a, B, sI, pins, σ, H, cls, d, x⟩ => t u s' ⟨a, B, sI, pins, σ, H, cls, d, { x with wish := h _ _ _ _ x.wish }⟩
/-- behind a call that let an exception out -/
structure Out (P : Program) (w : World) (outer : List Env) (H : Hp) (s : Shared) (E : XK) (u : Value) (s' : Shared) (a : Addr) (B : Heap) (H' : Hp) (cls : Value) (d : Option Addr) : Prop where
  isA : u = .ref a
  fl : HandSPX.FlyingZ B outer a (Zq B H' cls d) s'.heap
  hok : HOk P w H' B
  ub : UB (frs outer) H H' s.heap B s'.heap
  na : H' a = none
  os : s'.os = s.os
  ag : AllBare s'.gens
  wish : E cls d H'
def CQ (P : Program) (w : World) : CXT := fun outer H s E u s' => ∃ a B H' cls d, Out P w outer H s E u s' a B H' cls d
section
variable {X : Cx} {pins : List (Addr × Obj)} {σ : L2.St} {H : Hp} {sI s s' : Shared} {B : Heap} {W : WX} {E : XK}
theorem of_call (I : Inv X pins σ H s) (hW : ∀ cls d H', E cls d H' → W cls d σ H') {u : Value} (c : CQ X.prog X.w X.stack H s E u s') : QX X W u s' := by
  obtain ⟨a, B, H', cls, d, x⟩ := c
  let keep : Addr → Bool := fun b => (B.get? b).isSome || decide (b ∈ frs X.stack)
  obtain ⟨G, inG, outG⟩ := restrict s'.heap keep
  have toG : ∀ b o, B.get? b = some o → G.get? b = some o := fun b o e => (inG b (by show ((B.get? b).isSome || _) = true; rw [e]; rfl)).trans (x.fl.1 b o e)
  have frG : ∀ b, b ∈ frs X.stack → G.get? b = s'.heap.get? b := fun b hb => inG b (by show (_ || decide _) = true; rw [decide_eq_true hb, Bool.or_true])
  have un : Un (frs X.stack) [] H H' s.heap G := by
    refine ⟨fun b o e n hb _ => toG b o (x.ub.keep b o e n hb), fun b o e n hb _ => ?_, fun b o e n _ => x.ub.free b o e n, fun b o e _ => ?_, x.ub.tups, x.ub.frzs, x.ub.tbls⟩
    · rw [frG b hb]; exact x.ub.slot b o e hb
    · by_cases hb : b ∈ frs X.stack
      · rw [frG b hb]; obtain ⟨sl, q⟩ := x.ub.slot b o e hb; exact ⟨_, q⟩
      · obtain ⟨o', q⟩ := x.ub.there b o e hb; exact ⟨o', toG b o' q⟩
  have fromG : ∀ b o, G.get? b = some o → s'.heap.get? b = some o ∧ keep b = true := fun b o e => by
    cases q : keep b with
    | true => exact ⟨(inG b q).symm.trans e, rfl⟩
    | false => rw [outG b q] at e; cases e
  refine ⟨a, B, { s with heap := G, gens := s'.gens, drawn := s'.drawn, toks := s'.toks }, pins, σ, H', cls, d, x.isA, I.call (ch := []) un (x.hok.kept toG) x.ag (fun _ z => nomatch z), fun b o e hb => ?_, Heap.UpToSlots.of_keeps fun b o e => (fromG b o e).1, .inr (.inl x.fl), x.na, x.os, x.ag, hW _ _ _ x.wish⟩
  obtain ⟨e1, k1⟩ := fromG b o e
  rcases Bool.or_eq_true_iff.mp k1 with k2 | k2
  · obtain ⟨o2, q⟩ := Option.isSome_iff_exists.mp k2
    have z := x.fl.1 b o2 q
    rw [e1] at z; cases z; exact q
  · exact absurd (of_decide_eq_true k2) hb
/-- the ground under a new exception -/
theorem born {a : Addr} {oe : Obj} {vs : Array Value} {cls : Value} {d : Option Addr} (I : Inv X pins σ H sI) (k : ∀ b o, sI.heap.get? b = some o → s'.heap.get? b = some o) (hne : sI.heap.get? a = none) (he : s'.heap.get? a = some oe)
    (hz : Zc cls d oe) (hx : Ctx (PySem.W.hideAll sI.heap (frs X.stack)) H oe) (hd : oe.data = .fields vs) (h1 : vs[1]? = some .none) (na : H a = none) (os : s'.os = sI.os) (ag : AllBare s'.gens) (w : W cls d σ H) : QX X W (.ref a) s' := by
  have none_ : (PySem.W.hideAll sI.heap (frs X.stack)).get? a = none := by
    rcases q : (PySem.W.hideAll sI.heap (frs X.stack)).get? a with _ | o
    · rfl
    · have z := PySem.W.of_hideAll _ q
      rw [hne] at z; cases z
  have ff : s'.heap.FunFrames (PySem.W.hideAll sI.heap (frs X.stack)) X.stack := Heap.FunFrames.of_keeps (fun b o e _ => ⟨o, k b o e, rfl⟩) (funFrames_none I.stack fun b hb => PySem.W.hideAll_none _ hb)
  exact ⟨a, _, sI, pins, σ, H, cls, d, rfl, I, fun b o e hb => PySem.W.hideAll_get _ e hb, Heap.UpToSlots.of_keeps k, .inl ⟨fun b o e => k b o (PySem.W.of_hideAll _ e), none_, ff, oe, vs, he, ⟨hz, hx⟩, hd, h1⟩, na, os, ag, w⟩
theorem ctx_none {cls : Value} {d : Option Addr} {oe : Obj} (hz : L2N.Zn cls d oe) : Ctx B H oe := fun ws e => ⟨.none, hz.2.2 ws e, .nil⟩
/-- it leaves the def -/
theorem QX.leave (hs : X.stack = X.env :: X.outer) (hf : X.env.frame = some X.env.locals) (hex : X.ex = []) {E₁ : Value → Shared → Prop} (hW : ∀ cls d σ H, W cls d σ H → E cls d H) {u : Value} (x : QX X W u s') :
    wpAny (model X.prog X.w) X.A (leaving X.env u) (fun _ s'' => CQ X.prog X.w X.outer X.H_0 X.s_0 E u s'') E₁ s' := by
  obtain ⟨a, B, sI, pins, σ, H, cls, d, rfl, I, gr, up, sky, na, os, ag, w⟩ := x
  have frames : X.A.frames = some (X.env :: X.outer) := I.ok.frames.trans (congrArg some hs)
  have hex' : ∀ b, b ∉ X.ex := fun b hb => by rw [hex] at hb; cases hb
  have away : ∀ b o, X.s_0.heap.get? b = some o → b ∉ X.fs → b ∉ frs X.stack := fun b o e hb hm => by
    cases List.mem_cons.mp (I.stkSub b hm) with
    | inl z =>
      have l1 := Heap.lt_size e
      have l2 := I.ok.above
      rw [z] at l1
      exact Nat.lt_irrefl _ (Nat.lt_of_lt_of_le l1 l2)
    | inr z => exact hb z
  have ends : ∀ h', HandSPX.FlyingZ B X.outer a (Zq B H cls d) h' → s'.heap.UpToSlots h' → CQ X.prog X.w X.outer X.H_0 X.s_0 E (.ref a) { s' with heap := h' } := fun h' fl up' => by
    have ub : UB (frs X.outer) X.H_0 H X.s_0.heap B h' := by
      refine ⟨fun b o e n hb => gr b o (I.base.keep b o e n hb (hex' b)) (away b o e hb), fun b o e hb => ?_, fun b o e n => I.base.free b o e n (hex' b), fun b o e hb => ?_, I.base.tups, I.base.frzs, I.base.tbls⟩
      · obtain ⟨_, o0, e0, notF⟩ := I.ok.funs.mem hb
        obtain rfl : o0 = o := by rw [e] at e0; cases e0; rfl
        obtain ⟨l1, q1⟩ := I.base.slot b o0 e (I.ok.frf b hb) hb (hex' b)
        obtain ⟨l2, q2⟩ := up b _ q1 notF
        exact up' b _ q2 notF |>.elim fun l3 q3 => ⟨l3, q3⟩
      · obtain ⟨o', q1⟩ := I.base.there b o e (hex' b)
        exact ⟨o', gr b o' q1 (away b o e hb)⟩
    exact ⟨a, B, H, cls, d, rfl, fl, I.inGround gr, ub, na, os.trans I.os, ag, hW _ _ _ _ w⟩
  rw [hs] at sky
  rcases sky with ⟨b1, b2, b3, oe, vs, b4, b5, b6, b7⟩ | fl | hd
  · exact PXN.leaving_firstZ zq_steady frames b3 hf b4 b1 b2 b6 b7 b5 ends
  · exact PXN.leaves_onZ zq_steady frames hf fl ends
  · exact HandSPX.leaves_heldZ hf hd ends
theorem tk_of (hs : X.stack = X.env :: X.outer) (hf : X.env.frame = some X.env.locals) (hex : X.ex = []) {E₁ : Value → Shared → Prop}
    (hx : X.xe = fun e s' => wpAny (model X.prog X.w) X.A (leaving X.env e) (fun _ s'' => CQ X.prog X.w X.outer X.H_0 X.s_0 E e s'') E₁ s') : Tk X (fun cls d _ H => E cls d H) := fun u s' x => by
  rw [hx]
  exact QX.leave (W := fun cls d _ H => E cls d H) hs hf hex (fun _ _ _ _ h => h) x
theorem passAt (tk : Tk X W) (σ : L2.St) : PassesAt (CQ X.prog X.w) X σ (WE W σ) := fun _ _ _ e s' I c => tk e s' (of_call I (fun _ _ _ h => h) c)
theorem tk0 {X : Cx} : Tk X (fun _ _ _ _ => False) := fun _ _ ⟨_, _, _, _, _, _, _, _, x⟩ => x.wish.elim
/-- raise e, where nothing is handled -/
theorem ps_raiseQ {e : Expr} {t : L2.St → Hp → XK → Prop} {pos : Pos} (hc : X.calm = true) (tk : Tk X W) (he : L2N.PMk X e t) : PS X (.Raise (some e) none pos) (fun _ σ H => t σ H fun cls d H' => W cls d σ H') := by
  refine ⟨fun pins s σ H D I h => ?_⟩
  show wpAny _ _ (do standAt pos; raiseStmt X.env (some (do let v ← eval e X.env; standAt pos; pure v)) none) _ _ _
  refine wpAny_bind (wpAny_standAt (raise_made (I.ok.hd hc) (wpAny_bind (thn (he pins s σ H _ I h) fun u s1 hu => wpAny_bind (wpAny_standAt (wpAny_pure ?_))))))
  obtain ⟨a, oe, vs, s2, H', cls, d, rfl, J, k, hne, ha, hz, hd, h1, na, os, ag, r, q⟩ := hu
  have L := r (model X.prog X.w) s1.heap (J.kIn.keeps k)
  exact ⟨a, oe, vs, cls, rfl, ha, hz.1, hd, h1, L.1, L.2, tk _ _ (born J k hne ha hz.zc (ctx_none hz) hd h1 na os ag q)⟩
end
end Xq
set_option Elab.async false
set_option linter.all false
set_option maxRecDepth 100000
set_option maxHeartbeats 4000000
/-! raise .. (from ..) within an except suite: the chain of the handled exception is walked. -/
namespace Xq
open PySem PySem.Spec PyProof.Rows L2
/-- a chain in a heap, a not in it -/
inductive Hc (h : Heap) (a : Addr) : Value → Prop
  | nil : Hc h a .none
  | cons {b : Addr} {ob : Obj} {ws : Array Value} {v : Value} (ne : b ≠ a) (at_ : h.get? b = some ob) (da : ob.data = .fields ws) (nx : ws[2]? = some v) (rest : Hc h a v) : Hc h a (.ref b)
/-- from c to b in m steps -/
inductive Pth (h : Heap) : Nat → Addr → Addr → Prop
  | here (b : Addr) : Pth h 0 b b
  | step {c b c2 : Addr} {oc : Obj} {ws : Array Value} {m : Nat} : h.get? c = some oc → oc.data = .fields ws → ws[2]? = some (.ref c2) → Pth h m c2 b → Pth h (m + 1) c b
theorem Pth.on {h : Heap} {m : Nat} {c b b2 : Addr} {ob : Obj} {ws : Array Value} (p : Pth h m c b) (e : h.get? b = some ob) (d : ob.data = .fields ws) (n : ws[2]? = some (.ref b2)) : Pth h (m + 1) c b2 := by
  induction p with
  | here b => exact .step e d n (.here _)
  | step e1 d1 n1 _ ih => exact .step e1 d1 n1 (ih e)
section
variable {prog : Program} {w : World} {A : Around} {E : Value → Shared → Prop} {s : Shared}
theorem unchain_code {R : Result → Shared → Prop} {a : Addr} {v : Value} (hc : Hc s.heap a v) :
    ∀ (A : Around) (b c : Addr) (t : Bool) (m : Nat), v = .ref b → Pth s.heap m c b → (t = true → 1 ≤ m) → R (.ok (.ret .none)) s → codeAny (model prog w) A (.builtin "proto.unchain" ⟨[.ref a, .ref b, .ref c, .bool t], []⟩) R s := by
  induction hc with
  | nil => intro A b c t m e; cases e
  | @cons b0 ob ws v2 ne0 e1 d1 n1 r1 ih =>
    intro A b c t m e p ht hR
    obtain rfl : b = b0 := by cases e; rfl
    refine codeAny_builtin HotX.entry_unchain ?_
    show wpAny _ _ (field (.ref b) 2 >>= _) _ _ s
    refine wpAny_bind (wpAny_field e1 d1 n1 ?_)
    cases r1 with
    | nil => exact wpAny_pure hR
    | @cons b2 ob2 ws2 v3 ne e2 d2 n2 r2 =>
      have z1 : ¬ ((Value.ref b2 == Value.none) = true) := by simp
      have z2 : ¬ ((Value.ref b2 == Value.ref a) = true) := by simpa using ne
      show wpAny _ _ (if (Value.ref b2 == Value.none) = true then _ else _) _ _ s
      rw [if_neg z1]
      show wpAny _ _ (if (Value.ref b2 == Value.ref a) = true then _ else _) _ _ s
      rw [if_neg z2]
      show wpAny _ _ (if (Value.ref b2 == Value.ref c) = true then _ else _) _ _ s
      by_cases hs : (Value.ref b2 == Value.ref c) = true
      · rw [if_pos hs]
        exact wpAny_bind (wpAny_rule (wpAny_pure hR))
      · rw [if_neg hs]
        have p2 : Pth s.heap (m + 1) c b2 := p.on e1 d1 n1
        cases t with
        | false =>
          refine wpAny_bind (wpAny_pure ?_)
          exact wpAny_pure ⟨Code.quiet_builtin _ (by decide +kernel), ih A b2 c true (m + 1) rfl p2 (fun _ => Nat.le_add_left _ _) hR⟩
        | true =>
          cases p with
          | here _ => exact absurd (ht rfl) (by decide)
          | @step _ _ c2 oc wc m2 f1 f2 f3 f4 =>
            refine wpAny_bind (wpAny_field f1 f2 f3 ?_)
            exact wpAny_pure ⟨Code.quiet_builtin _ (by decide +kernel), ih A b2 c2 false _ rfl (f4.on e1 d1 n1) (fun z => by cases z) hR⟩
theorem raiseNew_chain {α : Type} {a x1 : Addr} {oe : Obj} {ws : Array Value} {Q : α → Shared → Prop} (hh : A.handled = some (.ref x1)) (hc : Hc s.heap a (.ref x1)) (ha : s.heap.get? a = some oe) (da : oe.data = .fields ws) (hi : 2 < ws.size)
    (hE : E (.ref a) { s with heap := s.heap.update a (Obj.mapFields (·.setIfInBounds 2 (.ref x1))) }) : wpAny (model prog w) A (raiseNew (.ref a) : Sem α) Q E s := by
  have hb : (Value.ref x1 != Value.ref a) = true := by
    cases hc with
    | cons ne _ _ _ _ => exact HotX.ref_bne ne
  have un : ∀ {Q' : Value → Shared → Prop}, Q' .none s → wpAny (model prog w) A (holding [Value.ref a] (runValue (.builtin "proto.unchain" ⟨[.ref a, .ref x1, .ref x1, .bool false], []⟩))) Q' E s := fun q =>
    wpAny_holding (wpAny_runValue (unchain_code hc _ x1 x1 false 0 rfl (.here _) (fun z => by cases z) q))
  unfold raiseNew
  refine wpAny_bind (wpAny_handled ?_)
  rw [hh]
  first
  | (show wpAny _ _ (if (Value.ref x1 != Value.ref a) = true then _ else _) _ _ _
     rw [if_pos hb]
     exact wpAny_bind (un (wpAny_bind (HotX.chained ha da hi (wpAny_throw hE)))))
  | (show wpAny _ _ (if (Value.ref x1 != Value.ref a) = true then _ else _) _ _ _
     rw [if_pos hb]
     exact wpAny_bind (wpAny_bind (un (HotX.chained ha da hi (wpAny_throw hE)))))
  | (refine wpAny_bind ?_
     show wpAny _ _ (if (Value.ref x1 != Value.ref a) = true then _ else _) _ _ _
     rw [if_pos hb]
     exact wpAny_bind (un (HotX.chained ha da hi (wpAny_throw hE))))
end
/-- a chain among the pins -/
inductive Cp (pn : List (Addr × Obj)) : Value → Prop
  | nil : Cp pn .none
  | cons {b : Addr} {ob : Obj} {ws : Array Value} {v : Value} (mem : (b, ob) ∈ pn) (da : ob.data = .fields ws) (nx : ws[2]? = some v) (rest : Cp pn v) : Cp pn (.ref b)
theorem Cp.mono {pn pn' : List (Addr × Obj)} {v : Value} (c : Cp pn v) (k : ∀ p ∈ pn, p ∈ pn') : Cp pn' v := by
  induction c with
  | nil => exact .nil
  | cons mem da nx _ ih => exact .cons (k _ mem) da nx ih
section
variable {X : Cx} {pins : List (Addr × Obj)} {σ : L2.St} {H : Hp} {s : Shared}
theorem Cp.heap {h' : Heap} {a : Addr} {v : Value} (c : Cp X.pn v) (I : Inv X pins σ H s) (ha : s.heap.get? a = none) (k : ∀ b o, b ≠ a → s.heap.get? b = some o → h'.get? b = some o) : Hc h' a v := by
  induction c with
  | nil => exact .nil
  | @cons b ob ws v mem da nx _ ih =>
    have e := (I.pin (b, ob) (List.mem_append_left _ mem)).1
    have ne : b ≠ a := fun z => by
      have e' : s.heap.get? b = some ob := e
      rw [z, ha] at e'; cases e'
    exact .cons ne (k _ _ ne e) da nx ih
theorem Cp.ground {v : Value} (c : Cp X.pn v) (I : Inv X pins σ H s) : Ch (PySem.W.hideAll s.heap (frs X.stack)) H v := by
  induction c with
  | nil => exact .nil
  | @cons b ob ws v mem da nx _ ih =>
    obtain ⟨e, fr, nl, nf, _⟩ := I.pin (b, ob) (List.mem_append_left _ mem)
    exact .cons (PySem.W.hideAll_get _ e fun z => (List.mem_cons.mp (I.stkSub b z)).elim nl nf) da fr nx ih
end
end Xq
set_option Elab.async false
set_option linter.all false
set_option maxRecDepth 100000
set_option maxHeartbeats 4000000
/-! except C as n: .. raise D(..) from n -/
namespace Xq
open PySem PySem.Spec PyProof.Rows L2
/-- the exception that a suite holds -/
structure Hot (X : Cx) (a : Addr) (cls : Value) : Prop where
  hd : X.A.handled = some (.ref a)
  ch : Cp X.pn (.ref a)
  base : X.base.get? a = none
  obj : ∃ (oe : Obj) (vs : Array Value), (a, oe) ∈ X.pn ∧ oe.cls = cls ∧ oe.data = .fields vs
/-- an except suite that may raise -/
abbrev suiteQ (X : Cx) (a : Addr) (pn : List (Addr × Obj)) (xe : Value → Shared → Prop) : Cx := { X with A := X.A.mark (some (.ref a)), calm := false, pn := pn, xe := xe }
theorem pe_suiteQ {X : Cx} {a : Addr} {pn : List (Addr × Obj)} {xe : Value → Shared → Prop} {e : Expr} {t : TE} (h : PE (X.suite a pn) e t) : PE (suiteQ X a pn xe) e t := ⟨fun pins s σ H Q I q => by
  refine wpAny_mono (h.run pins s σ H Q (I.wish fun _ _ => False) q) (fun u s' z => ?_) fun _ _ z => z.elim
  obtain ⟨v, H', J, r, k⟩ := z
  exact ⟨v, H', Inv.unwish (X := suiteQ X a pn xe) (E := fun _ _ => False) J, r, k⟩⟩
theorem pa_suiteQ {X : Cx} {a : Addr} {pn : List (Addr × Obj)} {xe : Value → Shared → Prop} {e : List Expr} {t : TA} (h : PA (X.suite a pn) e t) : PA (suiteQ X a pn xe) e t := ⟨fun pos pins s σ H Q I q => by
  refine wpAny_mono (h.run pos pins s σ H Q (I.wish fun _ _ => False) q) (fun u s' z => ?_) fun _ _ z => z.elim
  obtain ⟨v, H', J, r, k⟩ := z
  exact ⟨v, H', Inv.unwish (X := suiteQ X a pn xe) (E := fun _ _ => False) J, r, k⟩⟩
theorem pss_suiteQ {X : Cx} {a : Addr} {pn : List (Addr × Obj)} {xe : Value → Shared → Prop} {e : List Stmt} {t : TS} (h : PSs (X.suite a pn) e t) : PSs (suiteQ X a pn xe) e t := ⟨fun pins s σ H D I q => by
  refine wpAny_mono (h.run pins s σ H D (I.wish fun _ _ => False) q) (fun u s' z => ?_) fun _ _ z => z.elim
  exact SP.unwish (X := suiteQ X a pn xe) (E := fun _ _ => False) z⟩
section
variable {X : Cx} {W : WX} {a : Addr} {cls0 : Value}
theorem ps_raiseQF {e : Expr} {t : L2.St → Hp → XK → Prop} {i : Nat} {n : Str} {np pos : Pos} (ht : Hot X a cls0) (rz : Raises X cls0) (tk : Tk X W) (he : L2H.PMk5 X e t) (hN : X.N[i]? = some n) (hl : X.env.kindOf n = some .local) (hdb : (n == ("__debug__" : Str)) = false) :
    PS X (.Raise (some e) (some (.Name n np)) pos) (fun _ σ H => σ[i]? = some (some (.ref a)) ∧ t σ H fun cls d H' => W cls d σ H') := by
  refine ⟨fun pins s σ H D I ⟨hi, h⟩ => ?_⟩
  refine wpAny_Raise_from (thn (he pins s σ H _ I h) fun u s1 hu => ?_)
  obtain ⟨⟨b, oe, vs, sI, H', cls, d, rfl, J, k, hne, hb, hz, hd, h1, nb, os, ag, r, q⟩, h5⟩ := hu
  have J1 : Inv X pins σ H' s1 := J.call' os (Un.kept k) (J.hok.kept k) ag (ch := []) (fun _ z => nomatch z)
  have size : 4 < vs.size := h5 b oe vs rfl hb hd
  obtain ⟨m, hn, lk⟩ := J1.loc
  obtain ⟨u, ru, l⟩ := lk i n (.ref a) hN hi (.inl hl)
  obtain rfl : u = Value.ref a := ru
  have hm : m n = some (.ref a) := by
    rcases l with ⟨_, z⟩ | ⟨z | z, _⟩
    · exact z
    · rw [hl] at z; cases z
    · rw [hl] at z; cases z
  refine wpAny_Name (wpAny_loadName_local J1.ok.kind hl hn hm ?_) hdb
  obtain ⟨oa, va, ma, ca, da⟩ := ht.obj
  have ga := (J.pin (a, oa) (List.mem_append_left _ ma)).1
  have nab : a ≠ b := fun z => by
    have ga' : sI.heap.get? a = some oa := ga
    rw [z, hne] at ga'; cases ga'
  obtain ⟨r1, r2⟩ := r (model X.prog X.w) sI.heap J.kIn
  have R : RaiseAt (model X.prog X.w) sI.heap s1.heap b oe vs cls := ⟨hb, hz.1, hd, k, hne, r1, r2⟩
  obtain ⟨c1, c2⟩ := rz (model X.prog X.w) X.base I.ok.mod.kin
  have Rc : RaiseAt (model X.prog X.w) X.base s1.heap a oa va cls0 := ⟨k _ _ ga, ca, da, J1.bk, ht.base, c1, c2⟩
  refine raise_from_tree R size (.inr ⟨a, oa, va, cls0, rfl, X.base, Rc⟩) ?_
  let h2 : Heap := (s1.heap.update b (Obj.mapFields (·.setIfInBounds 3 (.ref a)))).update b (Obj.mapFields (·.setIfInBounds 4 (.bool true)))
  have d3 := Obj.data_mapFields hd (·.setIfInBounds 3 (.ref a))
  have g3 := Heap.get?_update_self (Obj.mapFields (·.setIfInBounds 3 (.ref a))) hb (Obj.isFreed_of_fields d3)
  have d4 := Obj.data_mapFields d3 (·.setIfInBounds 4 (.bool true))
  have g4 : h2.get? b = _ := Heap.get?_update_self (Obj.mapFields (·.setIfInBounds 4 (.bool true))) g3 (Obj.isFreed_of_fields d4)
  have old : ∀ x o, x ≠ b → s1.heap.get? x = some o → h2.get? x = some o := fun x o hx e => by
    show ((s1.heap.update b _).update b _).get? x = _
    rw [Heap.get?_update_other _ _ (Ne.symm hx), Heap.get?_update_other _ _ (Ne.symm hx)]
    exact e
  have f1 : ((vs.setIfInBounds 3 (Value.ref a)).setIfInBounds 4 (Value.bool true))[1]? = some Value.none := HotX.set_other (by decide) (HotX.set_other (by decide) h1)
  refine setFlight_fresh (s := { s1 with heap := h2 }) g4 d4 f1 ?_
  have big : 2 < ((vs.setIfInBounds 3 (Value.ref a)).setIfInBounds 4 (Value.bool true)).size := by rw [HotX.set_size, HotX.set_size]; omega
  refine raiseNew_chain (s := { s1 with heap := h2 }) ht.hd (ht.ch.heap J hne fun x o hx e => old x o hx (k x o e)) g4 d4 big (tk _ _ ?_)
  have d5 := Obj.data_mapFields d4 (·.setIfInBounds 2 (.ref a))
  refine born J (fun x o e => ?_) hne (Heap.get?_update_self _ g4 (Obj.isFreed_of_fields d5)) ⟨?_, ?_⟩ (fun ws e => ?_) d5 (HotX.set_other (by decide) f1) nb os ag q
  · have hx : x ≠ b := fun z => by rw [z, hne] at e; cases e
    show (h2.update b _).get? x = some o
    rw [Heap.get?_update_other _ _ (Ne.symm hx)]
    exact old x o hx (k x o e)
  · rw [Obj.cls_mapFields, Obj.cls_mapFields, Obj.cls_mapFields]; exact hz.1
  · rw [HandSPX.dict_mapFields, HandSPX.dict_mapFields, HandSPX.dict_mapFields]; exact hz.2.1
  · rw [d5] at e
    cases e
    refine ⟨.ref a, ?_, ht.ch.ground J⟩
    first
      | exact Array.getElem?_setIfInBounds_self_of_lt big
      | simp [Array.getElem?_setIfInBounds, big]
end
end Xq
set_option Elab.async false
set_option linter.all false
set_option maxRecDepth 100000
set_option maxHeartbeats 4000000
/-! The name of an except clause goes while an exception of its suite is in the air. -/
namespace Xq
open PySem PySem.Spec PyProof.Rows L2
theorem funFrames_to {h h' B : Heap} (k : ∀ b o, h.get? b = some o → (∀ vs, o.data ≠ .fields vs) → ∃ o', h'.get? b = some o' ∧ ∀ vs, o'.data ≠ .fields vs) : ∀ {l : List Env}, h.FunFrames B l → h'.FunFrames B l
  | [], _ => trivial
  | _ :: _, ⟨x1, ⟨L, o, x2, x3, x4, x5⟩, x6⟩ => by
    obtain ⟨o', y1, y2⟩ := k L o x4 x5
    exact ⟨x1, ⟨L, o', x2, x3, y1, y2⟩, funFrames_to k x6⟩
section
variable {X : Cx} {pins : List (Addr × Obj)} {σ : L2.St} {H : Hp} {sI s : Shared} {B : Heap} {a : Addr} {Z : Obj → Prop} {i : Nat} {n : Str} {pos : Pos}
/-- what stands behind it -/
def Gone (X : Cx) (pins : List (Addr × Obj)) (σ : L2.St) (H : Hp) (B : Heap) (a : Addr) (Z : Obj → Prop) (s' : Shared) : Prop :=
  ∃ sI', Inv X pins σ H sI' ∧ (∀ b o, sI'.heap.get? b = some o → b ∉ frs X.stack → B.get? b = some o) ∧ sI'.heap.UpToSlots s'.heap ∧ HandSPX.HeldZ B X.stack a Z X.env.locals s'.heap ∧ s'.os = sI'.os ∧ AllBare s'.gens
theorem gone_held {M : Model} {A : Around} {E : Value → Shared → Prop} {Q : Unit → Shared → Prop} (hs : X.stack = X.env :: X.outer) (hf : X.env.frame = some X.env.locals) (hN : X.N.Nodup) (hi : X.N[i]? = some n) (hl : X.env.kindOf n = some .local)
    (I : Inv X pins σ H sI) (gr : ∀ b o, sI.heap.get? b = some o → b ∉ frs X.stack → B.get? b = some o) (up : sI.heap.UpToSlots s.heap) (hd : HandSPX.HeldZ B X.stack a Z X.env.locals s.heap) (os : s.os = sI.os) (ag : AllBare s.gens)
    (h : ∀ s', Gone X pins (σ.set i none) H B a Z s' → Q () s') : wpAny M A (do bindName X.env n .none; unbindBehindTheSuite X.env n pos) Q E s := by
  have J : Inv X pins σ H s := I.landed gr hd.1 up os ag
  obtain ⟨m, hn, lk⟩ := id J.loc
  have cls : (X.env.scope.kind == .class || (X.env.scope.kind == .module && X.env.locals != X.env.globals)) = false := by rw [I.ok.kind]; rfl
  refine wpAny_nameGoes_keeps hl hn cls fun h' v hn' same => h _ ?_
  have inL : X.env.locals ∈ frs X.stack := by rw [hs]; exact List.mem_filterMap.mpr ⟨X.env, List.mem_cons_self, hf⟩
  obtain ⟨b1, b2, b3, b4⟩ := hd
  have sb : ∀ b, b ≠ X.env.locals → h'.get? b = s.heap.get? b := same.2
  obtain ⟨G, inG, outG⟩ := restrict h' fun b => (sI.heap.get? b).isSome
  have atG : ∀ b o, sI.heap.get? b = some o → G.get? b = h'.get? b := fun b o e => inG b (by rw [e]; rfl)
  have fromG : ∀ b o, G.get? b = some o → h'.get? b = some o ∧ ∃ o2, sI.heap.get? b = some o2 := fun b o e => by
    cases q : sI.heap.get? b with
    | none => rw [outG b (by rw [q]; rfl)] at e; cases e
    | some o2 => exact ⟨(atG b o2 q).symm.trans e, o2, rfl⟩
  have firm : ∀ b o, sI.heap.get? b = some o → b ∉ frs X.stack → G.get? b = some o := fun b o e hb => by
    rw [atG b o e, sb b fun z => hb (z ▸ inL)]
    exact b1 b o (gr b o e hb)
  have loose : ∀ b o, sI.heap.get? b = some o → (∀ vs, o.data ≠ .fields vs) → b ≠ X.env.locals → ∃ sl, G.get? b = some { o with slots := sl } := fun b o e nf hb => by
    rw [atG b o e, sb b hb]
    exact up b o e nf
  have frNF : ∀ b ∈ frs X.stack, ∀ o, sI.heap.get? b = some o → ∀ vs, o.data ≠ .fields vs := fun b hb o e => by
    obtain ⟨_, o2, e2, q⟩ := I.stack.mem hb
    rw [e] at e2; cases e2; exact q
  have there : ∀ b o, sI.heap.get? b = some o → b ≠ X.env.locals → ∃ o', G.get? b = some o' := fun b o e hb => by
    by_cases hm : b ∈ frs X.stack
    · obtain ⟨sl, q⟩ := loose b o e (frNF b hm o e) hb; exact ⟨_, q⟩
    · exact ⟨o, firm b o e hm⟩
  have below : ∀ b o, X.s_0.heap.get? b = some o → b ≠ X.env.locals := fun b o e => Nat.ne_of_lt (Nat.lt_of_lt_of_le (Heap.lt_size e) I.ok.above)
  have out : ∀ b, b ≠ X.env.locals → b ∉ X.fs → b ∉ frs X.stack := fun b x y z => (List.mem_cons.mp (I.stkSub b z)).elim x y
  have gL : G.get? X.env.locals = h'.get? X.env.locals := by
    obtain ⟨_, ⟨oL, _, _, eL, _⟩, _⟩ := id I.loc
    exact atG _ oL eL
  have cellG : ∀ y c u, X.env.cells.lookup y = some c → s.heap.IsCell c u → G.IsCell c u := fun y c u e z => by
    obtain ⟨_, oc, ec, _⟩ := I.cell y c e
    obtain ⟨o2, e2, d2⟩ := z.sameBut same (I.cne y c e)
    exact ⟨o2, (atG c oc ec).trans e2, d2⟩
  have J' : Inv X pins (σ.set i none) H { sI with heap := G } := by
    refine ⟨I.ok, I.os, I.bare, ⟨fun b o e n hb hx => firm b o (I.base.keep b o e n hb hx) (out b (below b o e) hb), fun b o e n hb hx => ?_, I.base.free, fun b o e hx => ?_, I.base.tups, I.base.frzs, I.base.tbls⟩, ⟨_, hn'.at fun o e => gL.trans e, fun j y u e1 e2 e3 => ?_⟩, fun y c e => ?_, I.free, I.freeC, fun p hp => ?_, fun b ob e => ?_, by rw [List.length_set]; exact I.len⟩
    · obtain ⟨_, o2, e2, nf⟩ := I.ok.funs.mem hb
      rw [e] at e2; cases e2
      obtain ⟨l1, q1⟩ := I.base.slot b o e n hb hx
      obtain ⟨l2, q2⟩ := loose b _ q1 nf (below b o e)
      exact ⟨l2, q2⟩
    · obtain ⟨o2, q⟩ := I.base.there b o e hx
      exact there b o2 q (below b o e)
    · by_cases hj : j = i
      · rw [hj] at e2
        by_cases hlt : i < σ.length
        · rw [List.getElem?_set_self hlt] at e2; cases e2
        · rw [List.getElem?_eq_none (by rw [List.length_set]; omega)] at e2; cases e2
      · rw [List.getElem?_set_ne (Ne.symm hj)] at e2
        obtain ⟨u', r, q⟩ := lk j y u e1 e2 e3
        have yn : y ≠ n := fun w => hj (nodup_ix hN e1 (w ▸ hi))
        refine ⟨u', r, q.imp (fun z => ⟨z.1, (if_neg yn).trans z.2⟩) fun z => ⟨z.1, ?_⟩⟩
        obtain ⟨c, ec, hcell⟩ := z.2
        exact ⟨c, ec, cellG y c _ ec hcell⟩
    · obtain ⟨u, z⟩ := J.cell y c e
      exact ⟨u, cellG y c u e z⟩
    · obtain ⟨x1, x2, x3, x4, x5⟩ := I.pin p hp
      exact ⟨firm _ _ x1 (out _ x3 x4), x2, x3, x4, x5⟩
    · refine (I.hok b ob e).stay (fun c u hc r => firm c u r fun hm => ?_) (fun _ q => q) fun _ _ q => q
      have z := I.stkFree c hm
      rcases hc with hc | hc
      · rw [hc, e] at z; cases z
      · rw [hc] at z; cases z
  refine ⟨{ sI with heap := G }, J', fun b o e hb => ?_, Heap.UpToSlots.of_keeps fun b o e => (fromG b o e).1, ⟨fun b o e => ?_, b2, funFrames_to (fun b o e nf => ?_) b3, ?_⟩, os, ag⟩
  · obtain ⟨e1, o2, e2⟩ := fromG b o e
    have q := gr b o2 e2 hb
    rw [sb b fun z => hb (z ▸ inL), b1 b o2 q] at e1
    cases e1; exact q
  · have ne : b ≠ X.env.locals := fun z => by
      obtain ⟨q, _⟩ := b3.mem inL
      rw [← z, e] at q; cases q
    exact (sb b ne).trans (b1 b o e)
  · by_cases hb : b = X.env.locals
    · obtain ⟨o2, es, ep, e2, d2, _⟩ := hn'
      rw [hb]
      exact ⟨o2, e2, fun vs z => by rw [d2] at z; cases z⟩
    · exact ⟨o, (sb b hb).trans e, nf⟩
  · obtain ⟨oe, vs, T, oT, ts, x1, x2, x3, x4, x5, x6, x7, x8, x9⟩ := b4
    obtain ⟨oL, es, ep, eL, dL, _⟩ := hn
    have notL : ∀ {x o ws}, s.heap.get? x = some o → o.data = .fields ws → x ≠ X.env.locals := fun {x o ws} e d z => by
      rw [z, eL] at e; cases e; rw [dL] at d; cases d
    exact ⟨oe, vs, T, oT, ts, (sb a (notL x1 x3)).trans x1, x2, x3, x4, x5, x6, (sb T (notL x7 x8)).trans x7, x8, x9⟩
end
end Xq
set_option Elab.async false
set_option linter.all false
set_option maxRecDepth 100000
set_option maxHeartbeats 4000000
/-! try: body, except C as n: a suite that may raise. -/
namespace Xq
open PySem PySem.Spec PyProof.Rows L2
/-- the objects of a chain, to be pinned -/
theorem Ch.pins {B h : Heap} {H : Hp} {v : Value} (st : B.StaysIn h) (c : Ch B H v) : ∃ l : List (Addr × Obj), Cp l v ∧ ∀ p ∈ l, h.get? p.1 = some p.2 ∧ H p.1 = none ∧ (∃ o, B.get? p.1 = some o) ∧ ∀ u, p.2.data ≠ .cell u := by
  induction c with
  | nil => exact ⟨[], .nil, fun p hp => by cases hp⟩
  | @cons b ob ws v at_ da fr nx _ ih =>
    obtain ⟨l, h1, h2⟩ := ih
    refine ⟨(b, ob) :: l, .cons List.mem_cons_self da nx (h1.mono fun p hp => List.mem_cons_of_mem _ hp), fun p hp => ?_⟩
    rcases List.mem_cons.mp hp with e | hp
    · subst e
      exact ⟨st b ob at_, fr, ⟨ob, at_⟩, fun u z => by have z' : ob.data = .cell u := z; rw [da] at z'; cases z'⟩
    · exact h2 p hp
section
variable {X : Cx} {x n : Str} {c : Value} {i : Nat} {body suite : List Stmt} {b₀ : Stmt} {np pos pos' : Pos} {tb : WX → TS} {ts : Addr → Value → Option Addr → TS} {Wout : WX}
/-- noted at our frame -/
theorem noted {M : Model} {A : Around} {E₁ : Value → Shared → Prop} {s : Shared} {B : Heap} {env : Env} {outer : List Env} {L a : Addr} {Z : Obj → Prop} {Q : Unit → Shared → Prop} (hZ : PXN.Steady1 Z) (hfr : A.frames = some (env :: outer)) (hf : env.frame = some L)
    (k : Sky B (env :: outer) a Z L s.heap) (hQ : ∀ h', HandSPX.HeldZ B (env :: outer) a Z L h' → s.heap.UpToSlots h' → Q () { s with heap := h' }) : wpAny M A (noteFrame (.ref a) env) Q E₁ s := by
  rcases k with ⟨y1, y2, y3, oe, vs, y4, y5, y6, y7⟩ | fl | hh
  · exact PXN.look_newZ hZ hfr y3 hf y4 y1 y2 y6 y7 y5 hQ
  · exact PXN.looks_onZ hZ hfr hf fl hQ
  · exact HandSPX.againZ hf hh.2.2.2 (hQ s.heap hh (Heap.UpToSlots.refl _))
/-- it goes on from our frame, noted there -/
theorem on_from {M : Model} {A : Around} {s : Shared} {B : Heap} {env : Env} {l : List Env} {L a : Addr} {Z : Obj → Prop} {fl : Value} {what : String} {Q : Flow → Shared → Prop} {E : Value → Shared → Prop} (hf : env.frame = some L)
    (b1 : B.StaysIn s.heap) (b2 : B.get? a = none) (b3 : s.heap.FunFrames B l) (b4 : HandSPX.TracedZ s.heap B a Z fl) (hE : ∀ h', HandSPX.HeldZ B l a Z L h' → s.heap.UpToSlots h' → E (.ref a) { s with heap := h' }) : wpAny M A (passOn what (.ref a) env : Sem Flow) Q E s := by
  obtain ⟨oe, vs, T, oT, ws, he, hz, hd, h1, hr⟩ := id b4
  unfold PySem.passOn
  refine wpAny_bind (wpAny_field he hd h1 ?_)
  rw [if_neg (show ¬ ((Value.ref T == Value.none) = true) from by simp)]
  have fin : wpAny M A (setFlight (.ref a) env.frame) (fun _ s4 => wpAny M A (throw (.ref a) : Sem Flow) Q E s4) E s := by
    rw [hf]
    exact HandSPX.setFlight_anyZ b1 b3 b4 fun h' k1 k2 k3 k4 => wpAny_throw (hE h' ⟨k1, b2, k2, k3⟩ k4)
  first
    | exact wpAny_bind (wpAny_pure (wpAny_bind fin))
    | exact wpAny_bind fin
theorem ps_try_asQ (hs : X.stack = X.env :: X.outer) (hf : X.env.frame = some X.env.locals) (hN : X.N.Nodup) (hi : X.N[i]? = some n) (hln : X.env.kindOf n = some .local) (hc : Names X x c)
    (hpa : ∀ hd : Option Value, PassesOwnAt (model X.prog X.w) (X.A.mark hd) X.A X.env X.xe) (tk : Tk X Wout)
    (hb : ∀ (W : WX) (pn : List (Addr × Obj)) (xe : Value → Shared → Prop), Tk (X.tr pn xe) W → PassesOwn (model X.prog X.w) X.A X.env xe → PSs (X.tr pn xe) body (tb W))
    (hsu : ∀ (a : Addr) (oe : Obj) (cls : Value) (d : Option Addr) (pn : List (Addr × Obj)) (xe : Value → Shared → Prop), Zc cls d oe → (∃ vs, oe.data = .fields vs) → Hot (suiteQ X a ((a, oe) :: pn) xe) a cls →
      Tk (suiteQ X a ((a, oe) :: pn) xe) (fun cls d σ H => Wout cls d (σ.set i none) H) → PSs (suiteQ X a ((a, oe) :: pn) xe) (b₀ :: suite) (ts a cls d)) :
    PS X (.Try body [.ExceptHandler (some (.Name x np)) (some n) (b₀ :: suite) pos'] [] [] pos) (fun D σ H => tb (wAs X.K c i ts Wout D) D σ H) := by
  refine ⟨fun pins s σ H D I h => ?_⟩
  have ok := I.ok
  have frames : X.A.frames = some (X.env :: X.outer) := ok.frames.trans (congrArg some hs)
  have loc : Loc X.env.scope n := .inl hln
  refine wpAny_Try_except ?_
  let xeB : Value → Shared → Prop := fun e s₁ => wpAny (model X.prog X.w) X.A (noteFrame e X.env) (fun _ s₂ => wpAny (model X.prog X.w) X.A (setFlight e none) (fun _ s₃ =>
    wpAny (model X.prog X.w) X.A (handleBy e X.env [.ExceptHandler (some (.Name x np)) (some n) (b₀ :: suite) pos']) (SP X pins D) X.xe s₃) X.xe s₂) X.xe s₁
  refine wpAny_mono ((hb (wAs X.K c i ts Wout D) (X.pn ++ pins) xeB (fun u s' up0 => ?_) PassesOwn.looking).run [] s σ H D (I.toTry _) h) (fun f s1 hsp => ?_) (fun e s1 he => he)
  · obtain ⟨a, B, sI, pins', σ1, H1, cls, d, rfl, J0, gr, up, sky0, na, os, ag, b, hb1, hyes, hno⟩ := up0
    have J : Inv X pins σ1 H1 sI := J0.ofTry ok
    have sky : Sky B (X.env :: X.outer) a (Zq B H1 cls d) X.env.locals s'.heap := by rw [← hs]; exact sky0
    show wpAny (model X.prog X.w) X.A (noteFrame (.ref a) X.env) _ _ _
    refine L2N.Sky.land zq_steady frames hf sky fun h3 fl3 up3 => ?_
    have facts : ∀ h4, HandSPX.FlyingZ B (X.env :: X.outer) a (Zq B H1 cls d) h4 → s'.heap.UpToSlots h4 → ∀ (xe : Value → Shared → Prop), ∃ oe pn, (∀ p ∈ X.pn ++ pins, p ∈ pn) ∧ Zq B H1 cls d oe ∧ (∃ vs, oe.data = .fields vs) ∧ h4.get? a = some oe ∧ Inv (suiteQ X a ((a, oe) :: pn) xe) [] σ1 H1 { s' with heap := h4 } ∧ Hot (suiteQ X a ((a, oe) :: pn) xe) a cls := by
      intro h4 fl4 up4 xe
      have J4 : Inv X pins σ1 H1 { s' with heap := h4 } := J.landed gr fl4.1 (up.trans up4) os ag
      obtain ⟨oe, vs, he, hz, hd⟩ := fl4.there
      obtain ⟨v, hv, cv⟩ := hz.2 vs hd
      obtain ⟨l, cl, hl⟩ := cv.pins fl4.1
      have notFr : ∀ b, b ∈ frs (X.env :: X.outer) → B.get? b = none := fun b hb => (fl4.2.2.1.mem hb).1
      have aFr : a ∉ frs (X.env :: X.outer) := fun hm => by
        obtain ⟨_, o2, e2, q⟩ := fl4.2.2.1.mem hm
        rw [he] at e2; cases e2
        exact q _ hd
      have isL : X.env.locals ∈ frs (X.env :: X.outer) := List.mem_filterMap.mpr ⟨X.env, List.mem_cons_self, hf⟩
      have inF : ∀ b, b ∈ X.fs → b ∈ frs (X.env :: X.outer) := fun b hb => by
        obtain ⟨e, m, q⟩ := List.mem_filterMap.mp hb
        exact List.mem_filterMap.mpr ⟨e, List.mem_cons_of_mem _ m, q⟩
      refine ⟨oe, l ++ (X.pn ++ pins), fun p hp => List.mem_append_right _ hp, hz, ⟨vs, hd⟩, he, ⟨⟨J4.ok.mod, J4.ok.kind, J4.ok.glob, J4.ok.blt, J4.ok.above, J4.ok.inj, J4.ok.has, J4.ok.cab, (fun z => absurd (show false = true from z) Bool.false_ne_true), J4.ok.frames, J4.ok.stk, J4.ok.exf, J4.ok.bs, J4.ok.bsz, J4.ok.noex, J4.ok.exfs, J4.ok.funs, J4.ok.frf⟩, J4.os, J4.bare, J4.base, J4.loc, J4.cell, J4.free, J4.freeC, fun p hp => ?_, J4.hok, J4.len⟩, ⟨rfl, ?_, ?_, oe, vs, List.mem_cons_self, hz.1.1, hd⟩⟩
      · have hp' : p ∈ (a, oe) :: (l ++ (X.pn ++ pins)) := by rw [List.append_nil] at hp; exact hp
        rcases List.mem_cons.mp hp' with e | hp'
        · subst e
          exact ⟨he, na, fun z => aFr (by rw [show a = X.env.locals from z]; exact isL), fun z => aFr (inF _ z), fun u z => by have z' : oe.data = .cell u := z; rw [hd] at z'; cases z'⟩
        · rcases List.mem_append.mp hp' with hp' | hp'
          · obtain ⟨y1, y2, ⟨o, y3⟩, y4⟩ := hl p hp'
            refine ⟨y1, y2, (?_ : p.1 ≠ X.env.locals), (?_ : p.1 ∉ X.fs), y4⟩
            · intro z
              rw [z, notFr _ isL] at y3
              cases y3
            · intro z
              rw [notFr _ (inF _ z)] at y3
              cases y3
          · exact J4.pin p hp'
      · exact .cons List.mem_cons_self hd hv (cl.mono fun p hp => List.mem_cons_of_mem _ (List.mem_append_left _ hp))
      · rcases q : X.base.get? a with _ | o
        · rfl
        · have q1 := J.bk a o q
          have q2 : a ∉ frs X.stack := by rw [hs]; exact aFr
          have q3 := gr a o q1 q2
          rw [fl4.2.1] at q3; cases q3
    obtain ⟨oe3, pn3, _, hz3, _, he3, S3, _⟩ := facts h3 fl3 up3 fun _ _ => False
    refine wpAny_handleBy_cons (codeAny_handlers_test ?_) (by intro q; cases q)
    have LT : PySem.W.Looks (model X.prog X.w) h3 (typeOf (.ref a)) cls := fun A Q E s k q => wpAny_typeOf_ref (k _ _ he3) (by rw [hz3.1.1]; exact q)
    have LM := PySem.W.exm_one (M := model X.prog X.w) S3.kIn LT hb1
    have test : ∀ {Q E : Value → Shared → Prop}, Q c { s' with heap := h3 } → wpAny (model X.prog X.w) (X.A.mark (some (.ref a))) (eval (.Name x np) X.env) Q E { s' with heap := h3 } := fun {Q E} q => by
      obtain ⟨g1, g2, g3 | ⟨g3, g4, g5⟩⟩ := hc
      · exact ld_glob (X := suiteQ X a ((a, oe3) :: pn3) fun _ _ => False) S3 g1 g3 q g2
      · exact ld_blt (X := suiteQ X a ((a, oe3) :: pn3) fun _ _ => False) S3 g1 g3 g4 q g5 g2
    refine test (LM.here ?_)
    cases b with
    | false =>
      show wpAny _ X.A (handleBy (.ref a) X.env []) _ _ _
      refine wpAny_handleBy_nil ?_
      obtain ⟨k1, k2, k3, k4⟩ := id fl3
      exact on_from (s := { s' with heap := h3 }) hf k1 k2 k3 k4 fun h4 hh4 up4 => tk _ _ ⟨a, B, sI, pins, σ1, H1, cls, d, rfl, J, gr, (up.trans up3).trans up4, .inr (.inr (by rw [hs]; exact hh4)), na, os, ag, hno rfl⟩
    | true =>
      refine codeAny_handlers_suite_as ?_
      refine HandSPX.lands_againZ fl3 fun h4 fl4 up4 => ?_
      obtain ⟨oe, pn, sub, hz, hd, he, S4, hot⟩ := facts h4 fl4 (up3.trans up4) (AsSuiteRaised (model X.prog X.w) (X.A.mark (some (.ref a))) X.env n pos' (notedBy (model X.prog X.w) (X.A.mark (some (.ref a))) X.env (cameBackBy (model X.prog X.w) X.A X.env X.xe)))
      have back : ∀ {xe σ2 H2 s2 pin2}, Inv (suiteQ X a ((a, oe) :: pn) xe) pin2 σ2 H2 s2 → Inv X pins σ2 H2 s2 := fun {xe σ2 H2 s2 pin2} K =>
        ⟨ok, K.os, K.bare, K.base, K.loc, K.cell, K.free, K.freeC, fun p hp => K.pin p (List.mem_append_left _ (List.mem_cons_of_mem _ (sub p hp))), K.hok, K.len⟩
      refine store_ok (X := suiteQ X a ((a, oe) :: pn) _) (v := .ref a) S4 hN hi loc rfl (fun s5 S5 => ?_) (.inr hln)
      have tkS : Tk (suiteQ X a ((a, oe) :: pn) (AsSuiteRaised (model X.prog X.w) (X.A.mark (some (.ref a))) X.env n pos' (notedBy (model X.prog X.w) (X.A.mark (some (.ref a))) X.env (cameBackBy (model X.prog X.w) X.A X.env X.xe)))) (fun cls d σ H => Wout cls d (σ.set i none) H) := fun u2 s2 x2 => by
        obtain ⟨a2, B2, sI2, pn2, σ2, H2, cls2, d2, rfl, I2, gr2, up2, sky2, na2, os2, ag2, w2⟩ := x2
        have I2' := back I2
        have sky3 : Sky B2 (X.env :: X.outer) a2 (Zq B2 H2 cls2 d2) X.env.locals s2.heap := by rw [← hs]; exact sky2
        show wpAny _ _ (noteFrame (.ref a2) X.env) _ _ _
        refine noted zq_steady frames hf sky3 fun h5 hh5 up5 => ?_
        refine gone_held (s := { s2 with heap := h5 }) (a := a2) (Z := Zq B2 H2 cls2 d2) hs hf hN hi hln I2' gr2 (up2.trans up5) (by rw [hs]; exact hh5) os2 ag2 fun s6 g6 => ?_
        obtain ⟨sI6, I6, gr6, up6, ⟨k1, k2, k3, k4⟩, os6, ag6⟩ := g6
        exact on_from hf k1 k2 k3 k4 fun h7 hh7 up7 => hpa _ _ _ (tk _ _ ⟨a2, B2, sI6, pins, _, H2, cls2, d2, rfl, I6, gr6, up6.trans up7, .inr (.inr hh7), na2, os6, ag6, w2⟩)
      have end_ : ∀ {σ6 : L2.St} {H6 : Hp} {s6 : Shared} {Q : Shared → Prop}, Inv (suiteQ X a ((a, oe) :: pn) (AsSuiteRaised (model X.prog X.w) (X.A.mark (some (.ref a))) X.env n pos' (notedBy (model X.prog X.w) (X.A.mark (some (.ref a))) X.env (cameBackBy (model X.prog X.w) X.A X.env X.xe)))) [] σ6 H6 s6 → (∀ s7, Inv X pins (σ6.set i none) H6 s7 → Q s7) →
          wpAny (model X.prog X.w) X.A (do bindName X.env n .none; unbindBehindTheSuite X.env n pos') (fun _ s7 => Q s7) X.xe s6 := fun {σ6 H6 s6 Q} S6 hq => gone_ok (back S6) hN hi hln hq
      refine wpAny_mono ((hsu a oe cls d pn _ hz.1 hd hot tkS).run [] s5 _ H1 _ S5 (hyes rfl a na)) (fun f s6 hsp => ?_) (fun _ _ z => z)
      cases f with
      | ret u =>
        obtain ⟨v6, σ6, H6, S6, r6, q6⟩ := hsp
        exact end_ S6 fun s7 J7 => ⟨_, _, _, J7, r6, q6⟩
      | next => obtain ⟨σ6, H6, S6, q6⟩ := hsp; exact end_ S6 fun s7 J7 => ⟨_, _, J7, q6⟩
      | brk => obtain ⟨σ6, H6, S6, q6⟩ := hsp; exact end_ S6 fun s7 J7 => ⟨_, _, J7, q6⟩
      | cont => obtain ⟨σ6, H6, S6, q6⟩ := hsp; exact end_ S6 fun s7 J7 => ⟨_, _, J7, q6⟩
  · cases f with
    | ret u => obtain ⟨v, σ2, H2, K, r, q⟩ := hsp; exact ⟨v, σ2, H2, K.ofTry ok, r, q⟩
    | next => obtain ⟨σ2, H2, K, q⟩ := hsp; exact wpAny_execs_nil ⟨σ2, H2, K.ofTry ok, q⟩
    | brk => obtain ⟨σ2, H2, K, q⟩ := hsp; exact ⟨σ2, H2, K.ofTry ok, q⟩
    | cont => obtain ⟨σ2, H2, K, q⟩ := hsp; exact ⟨σ2, H2, K.ofTry ok, q⟩
end
end Xq
set_option Elab.async false
set_option linter.all false
set_option maxRecDepth 100000
set_option maxHeartbeats 4000000
/-! By value: what a def promises where no repr is under way. -/
namespace Bv
open PySem PySem.Spec L2
open PyProof.Rows hiding St
variable [HasW]

/-- as the layer's promise, but only where no repr is under way -/
structure FnG (P : Program) (w : World) (K : PySem.W.Frag) (mg : Str → Option Value) (base : Heap) (k : Nat) (f : Addr) (fd : FuncData) (ps : List Str) (sp : Sp) : Prop where
  len : ∀ vs H Q E, sp vs H Q E → vs.length = ps.length
  run : ∀ (A : Around) (outer : List Env) (s : Shared) (H : Hp) (as : Args) (us : List Value) (vs : List V) (Q : VK) (E : XK), A.guards = some [] → Room k A → Env0 P w K mg base A outer s H → BindsTo s fd as (ps.zip us) → Vals vs us → sp vs H Q E →
    codeAny (model P w) A (.call (.ref f) as) (CR (Xq.CQ P w) outer P w H s Q E) s
theorem gu_make {A : Around} {C : Addr} {us : List Value} {kw : List (Str × Value)} (h : A.guards = some []) : (A.under (.builtin "type.__call__" ⟨.ref C :: us, kw⟩)).guards = some [] := by
  have e : (Code.builtin "type.__call__" ⟨.ref C :: us, kw⟩).guards = [] := by first | rfl | simp [Code.guards, Code.isGuard, guardIds]
  show pushGuards (Code.builtin "type.__call__" ⟨.ref C :: us, kw⟩).guards A.guards = some []
  rw [e]
  exact h
section
variable {P : Program} {w : World} {K : PySem.W.Frag} {mg : Str → Option Value} {base : Heap} {x qual : Str} {pa : Arguments} {bd : List Stmt} {sc : Scope} {dl : List V} {kw : List (Str × V)} {f : Addr} {fd : FuncData} {N ps : List Str} {k : Nat} {sp : Sp}
/-- the context of a body -/
abbrev cxB (P : Program) (w : World) (K : PySem.W.Frag) (mg : Str → Option Value) (base : Heap) (N : List Str) (qual : Str) (sc : Scope) (f : Addr) (cdv : Value) (A : Around) (outer : List Env) (s : Shared) (H : Hp) (E : XK) : Cx :=
  cxOf (Xq.CQ P w) P w K mg base N qual sc f cdv A outer s H E
theorem FnG.of (F : FunD K x qual pa bd sc dl kw f fd) (S : FnScope N ps sc) (len : ∀ vs H Q E, sp vs H Q E → vs.length = ps.length)
    (body : ∀ (cdv : Value) (A : Around) (outer : List Env) (s : Shared) (H : Hp) (vs : List V) (Q : VK) (E : XK), A.guards = some [] → Room k (A.deeper (envOfC qual sc s.heap.objs.size f cdv)) → sp vs H Q E →
      ∃ t, PSs (cxB P w K mg base N qual sc f cdv A outer s H E) bd t ∧ t { nx := fun _ H' => Q .non H', rt := Q } (L2.start N vs) H) : FnG P w K mg base (k + 1) f fd ps sp := by
  obtain ⟨oc, od, dV, kV, doc, pm, an, cdv, ct, osl, rfl, look, code, _, _⟩ := F.ex
  refine ⟨len, fun A outer s H as us vs Q E gu room e0 binds rel hsp => ?_⟩
  have inK : K.In s.heap := e0.mod.kin.keeps fun b o q => (e0.bs b o q).1
  have nolim : s.heap.NoLimit := e0.mod.nolimit.keeps fun b o q => (e0.bs b o q).1
  refine codeAny_call_function room.depth (inK _ _ look) rfl S.co S.gen rfl (PySem.W.codeRec_of inK code) (binds _ _ _ _ ?_)
  refine wpAny_newFunctionEnv_cells S.kind (fun ⟨n, v⟩ m => ?_) fun env ee s1 z => ?_
  · rcases S.par n (List.of_mem_zip m).1 with q | q
    · exact .inl q
    · exact .inr ⟨q, PySem.W.cellsFrom_some _ _ _ (.inl q)⟩
  · subst ee
    refine ⟨nolim.keeps z.toInCall.keep, codeAny_func ?_⟩
    obtain ⟨t, run, q⟩ := body cdv A outer s H vs Q E gu (room.deeper _) hsp
    have I : Inv (cxB P w K mg base N qual sc f cdv A outer s H E) [] (L2.start N vs) H s1 := inv_start S room.hd e0 (len _ _ _ _ hsp) rel z
    refine wpAny_mono (run.run [] s1 (L2.start N vs) H _ I q) (fun fl s' y => ?_) fun _ _ y => y
    cases fl with
    | ret u => obtain ⟨v, σ', H', J, rv, q⟩ := y; exact ⟨v, H', J.os, J.bare, J.base, J.hok, rv, q⟩
    | next => obtain ⟨σ', H', J, q⟩ := y; exact ⟨.non, H', J.os, J.bare, J.base, J.hok, rfl, q⟩
    | brk => obtain ⟨_, _, _, q⟩ := y; exact (show False from q).elim
    | cont => obtain ⟨_, _, _, q⟩ := y; exact (show False from q).elim
end
theorem code_fnG {X : Cx} {k : Nat} {f : Addr} {fd : FuncData} {ps : List Str} {sp : Sp} {dvs : List V} {ds : List Value} {E : St → XK} {pins : List (Addr × Obj)} {σ : St} {H : Hp} {s : Shared} {Q : VK} {us : List Value} {vs : List V} (F : FnG X.prog X.w X.K X.mg X.base k f fd ps sp) (gu : X.A.guards = some []) (room : Room k X.A) (hb : Binds X.K fd ps ds) (hd : Vals dvs ds) (hx : PassesAt (Xq.CQ X.prog X.w) X σ (E σ))
    (I : Inv X pins σ H s) (r : Vals vs us) (h : sp (vs ++ dvs) H Q (E σ)) : codeAny (model X.prog X.w) X.A (.call (.ref f) ⟨us, []⟩) (wants (EP X pins σ Q) X.xe) s := by
  have rel := r.append hd
  have many : (us ++ ds).length = ps.length := rel.length.symm.trans (F.len _ _ _ _ h)
  refine codeAny_mono (F.run X.A X.stack s H ⟨us, []⟩ (us ++ ds) (vs ++ dvs) Q (E σ) gu room I.env0 (hb s us I.kIn many) rel h) fun y s' z => ?_
  cases y with
  | error e => exact hx pins H s e s' I z
  | ok fl =>
    cases fl with
    | ret u => exact I.after z
    | next => exact z.elim
    | brk => exact z.elim
    | cont => exact z.elim
omit [HasW] in
/-- THE END: the law is called -/
theorem law_callG {P : Program} {w : World} {K : PySem.W.Frag} {mg mb : Str → Option Value} {k : Nat} {fa a : Addr} {fd : FuncData} {x : Str} {sp : Sp} {s1 : Shared} {vs : List Value} {ns : List Int} (KX : K.In s1.heap) (hm : s1.heap.Ns mainGlobals mg) (hb : s1.heap.Ns builtinsNs mb) (hbb : ∀ x : Str, x ≠ "__name__" → mb x = bootBuiltins x)
    (lim : s1.heap.NoLimit) (hg : s1.gens = #[]) (ha : s1.heap.get? a = some { cls := .type "list", data := .seq vs.toArray }) (hi : IntsAre vs ns) (hl : ns.length ≤ sizeLine) (room : Room k callerA) (F : ∀ base : Heap, K.In base → base.Ns mainGlobals mg → FnG P w K mg base k fa fd [x] sp)
    (bind : ∀ (s : Shared) (u : Value), BindsTo s fd ⟨[u], []⟩ [(x, u)]) (hsp : ∀ H : Hp, Only H → SqL K H a (ns.map V.int) → sp [.ref a] H (fun v _ => v = .bl true) fun _ _ _ => False) :
    codeAny (model P w) callerA (.call (.ref fa) ⟨[.ref a], []⟩) (fun r s' => r = .ok (.ret (.bool true)) ∧ OldK s1.heap s'.heap ∧ s'.os = s1.os ∧ AllBare s'.gens) s1 := by
  -- an abstract heap that knows of the script at most
  have main : ∀ H : Hp, Only H → SqL K H a (ns.map V.int) → HOk P w H s1.heap → (∀ b, H b ≠ none → b = a) → (H a ≠ none → K.lookup a = none) →
      codeAny (model P w) callerA (.call (.ref fa) ⟨[.ref a], []⟩) (fun r s' => r = .ok (.ret (.bool true)) ∧ OldK s1.heap s'.heap ∧ s'.os = s1.os ∧ AllBare s'.gens) s1 := fun H only seq hok own out => by
    have isA : ∀ {b : Addr}, H b = none ∨ b = a := fun {b} => Classical.byCases .inl fun z => .inr (own b z)
    have keepN : ∀ {b : Addr} {o : Obj}, s1.heap.get? b = some o → H b = none → (hidT s1.heap H).get? b = some o := fun q n => hidT_get q n
    have dictN : ∀ {b : Addr} {o : Obj} {es : Array DictEntry} {ep : Nat}, s1.heap.get? b = some o → o.data = .dict es ep → H b = none := fun {b o es ep} q d => isA.resolve_right fun z => by
      rw [z, ha] at q
      cases q
      exact nomatch (show Data.seq vs.toArray _ = Data.dict es ep from d)
    have nsN : ∀ {b : Addr} {m : Str → Option Value}, s1.heap.Ns b m → (hidT s1.heap H).Ns b m := fun {b m} ⟨o, es, ep, q, d, r⟩ => ⟨o, es, ep, keepN q (dictN q d), d, r⟩
    have inB : K.In (hidT s1.heap H) := fun b o q => keepN (KX b o q) (Classical.byContradiction fun z => by
      rw [own b z, out (by rw [← own b z]; exact z)] at q
      cases q)
    have modB : Mod K mg (hidT s1.heap H) := ⟨inB, nsN hm, ⟨mb, nsN hb, hbb⟩, let ⟨mc, h1, h2⟩ := lim; ⟨mc, nsN h1, h2⟩⟩
    have e0 : Env0 P w K mg (hidT s1.heap H) callerA [] s1 H := ⟨rfl, modB, fun b o q => of_hidT q, Nat.le_of_eq (hidT_size _ _), trivial, fun b z => absurd (show b ∈ ([] : List Addr) from z) (by simp), hok, .of_eq hg⟩
    refine codeAny_mono ((F _ inB (nsN hm)).run callerA [] s1 H ⟨[.ref a], []⟩ [.ref a] [.ref a] _ _ rfl room e0 (bind s1 (.ref a)) (.cons rfl .nil) (hsp H only seq)) fun y s' z => ?_
    cases y with
    | error e =>
      obtain ⟨_, _, _, _, _, no⟩ := z
      exact no.wish.elim
    | ok fl =>
      cases fl with
      | next => exact z.elim
      | brk => exact z.elim
      | cont => exact z.elim
      | ret u =>
        obtain ⟨v, H', os, bare, un, hok', rv, q⟩ := z
        cases (show v = .bl true from q)
        cases (show u = Value.bool true from rv)
        refine ⟨rfl, OldK.of_keep fun b o e => ?_, os, bare⟩
        rcases only b with n | ⟨ob, xs, n⟩
        · exact un.keep b o e n (fun z => absurd (show b ∈ ([] : List Addr) from z) (by simp)) (by simp)
        · obtain ⟨e1, _⟩ := hok b _ n
          obtain ⟨e2, _⟩ := hok' b _ (un.frzs b ob _ n)
          rw [e] at e1
          cases e1
          exact e2
  have rv := vals_ints hi
  cases own : K.lookup a with
  | some o =>
    have e := KX a o own
    rw [ha] at e
    cases e
    exact main (fun _ => none) (fun _ => .inl rfl) (.inr ⟨_, vs.toArray, _, own, rfl, rfl, rfl, by rw [List.size_toArray, hi.length]; exact hl, by simpa using rv⟩) (fun b u z => nomatch (show (none : Option HO) = some u from z)) (fun b z => absurd rfl z) fun z => absurd rfl z
  | none =>
    let H0 : Hp := fun b => if b = a then some (.frz { cls := .type "list", data := .seq vs.toArray } (.lst (ns.map V.int))) else none
    have at0 : H0 a = some (.frz { cls := .type "list", data := .seq vs.toArray } (.lst (ns.map V.int))) := if_pos rfl
    have off : ∀ b, b ≠ a → H0 b = none := fun b z => if_neg z
    refine main H0 (fun b => ?_) (.inl (.inr ⟨_, at0⟩)) (fun b u z => ?_) (fun b z => Classical.byContradiction fun y => z (off b y)) fun _ => own
    · by_cases y : b = a
      · exact .inr ⟨_, _, by rw [y]; exact at0⟩
      · exact .inl (off b y)
    · by_cases y : b = a
      · rw [y, at0] at z
        cases z
        rw [y]
        exact ⟨ha, by rw [List.length_map]; exact hl, vs, _, rv, ha⟩
      · rw [off b y] at z; cases z
omit [HasW] in
theorem walk_ofG {l : PySem.W.OpenLaw} {n k : Nat} {q : Program} {loose : List Str} {XP : (Str → Option Value) → Heap → Prop} {YP : World → Heap → Prop} {d : DefRec} {x : Str} (hn : l.most = some n) (hn2 : n ≤ sizeLine) (hdf : d.params.defaults = []) (room : Room k callerA)
    (F : ∀ (w : World) (mg : Str → Option Value) (fa : Addr) (h : Heap), YP w h → h.Ns mainGlobals mg → mg d.name = some (.ref fa) →
      ∃ (K : PySem.W.Frag) (fd : FuncData) (sp : Sp), K.In h ∧ (∀ (s : Shared) (u : Value), BindsTo s fd ⟨[u], []⟩ [(x, u)]) ∧ (∀ (H : Hp) (a : Addr) (ns : List Int), ns.length ≤ n → Only H → SqL K H a (ns.map V.int) → sp [.ref a] H (fun v _ => v = .bl true) fun _ _ _ => False) ∧
        ∀ base : Heap, K.In base → base.Ns mainGlobals mg → FnG l.prog w K mg base k fa fd [x] sp) : PySem.W.WalkO q loose XP YP l.row.toRowW d [] (fun f vs => PySem.call f vs) := by
  refine Att.attach_call hn hdf fun w s0 s1 mg mb fa o pm cd doc a vs ns G Y _ _ _ hmg hobj hints hlen hg => ?_
  obtain ⟨K, fd, sp, KX, bind, hsp, run⟩ := F w mg fa _ Y G.T.g hmg
  exact law_callG KX G.T.g G.T.b G.T.builtins G.T.nolimit hg hobj hints (Nat.le_trans hlen hn2) room run bind fun H only seq => hsp H a ns hlen only seq
end Bv
set_option Elab.async false
set_option linter.all false
set_option maxRecDepth 100000
set_option maxHeartbeats 4000000
/-! By value: defs, what they promise, their calls. -/
namespace Bv
open PySem PySem.Spec L2
open PyProof.Rows hiding St
variable [HasW]

/-! ### what a def made for itself is forgotten -/
def okX (k : Nat) : X → Bool
  | .d _ => true
  | .r n => decide (n < k)
def okO (k : Nat) : O → Bool
  | .lst xs => xs.all (okX k)
  | .dic kvs => kvs.all fun p => okX k p.2
  | .fdc kvs => kvs.all fun p => okX k p.2
  | .tdc kvs => kvs.all fun p => okX k p.2
  | .ins _ fs => fs.all fun p => okX k p.2
def cut (k : Nat) (S : Sto) : Option Sto := if (S.take k).all (okO k) then some (S.take k) else none
def keepX (k : Nat) (S : Sto) : X → Option X
  | .d v => some (.d v)
  | .r n => if decide (n < k) then some (.r n) else ((X.r n).get S).map .d
def trunc (k : Nat) : R X → R X
  | .ok x S => match keepX k S x, cut k S with
    | some y, some T => .ok y T
    | _, _ => .ok x S
  | .err C fs S => match cut k S with
    | some T => .err C fs T
    | none => .err C fs S
  | .bad => .bad
section
variable {K : PySem.W.Frag} {Z : Wd} {ρ ρ1 : List Addr} {S S1 T : Sto} {H H1 : Hp}
theorem okX_ax {W W' : Wd} {x : X} {v : V} (p : ρ <+: ρ1) (m : Mv W H W' H) (h : okX ρ.length x = true) (a : AX K W ρ1 H x v) : AX K W' ρ H x v := by
  cases a with
  | d a => exact .d (a.mv m)
  | r e =>
    rename_i n a
    have h : n < ρ.length := of_decide_eq_true h
    obtain ⟨t, rfl⟩ := p
    rw [List.getElem?_append_left h] at e
    exact .r e
theorem pair_all {α β : Type} {F G : α → β → Prop} {f : α → Bool} (hf : ∀ a b, f a = true → F a b → G a b) : ∀ {l : List α} {r : List β}, l.all f = true → Paired F l r → Paired G l r
  | _, _, _, .nil => .nil
  | a :: l, _, h, .cons x t => by
    rw [List.all_cons, Bool.and_eq_true] at h
    exact .cons (hf _ _ h.1 x) (pair_all hf h.2 t)
theorem cut_sta (s : Sta K Z ρ S H) (s1 : Sta K Z ρ1 S1 H1) (g : Go ρ H ρ1 H1) (h : cut ρ.length S1 = some T) : Sta K Z ρ T H1 ∧ Go ρ H ρ H1 ∧ Mv (Wn Z ρ1) H1 (Wn Z ρ) H1 := by
  obtain ⟨h1, h2⟩ : (S1.take ρ.length).all (okO ρ.length) = true ∧ T = S1.take ρ.length := by
    unfold cut at h
    split at h
    · rename_i q; cases h; exact ⟨q, rfl⟩
    · cases h
  subst h2
  have m : Mv (Wn Z ρ1) H1 (Wn Z ρ) H1 := fun a o z q => ⟨fun w => z (w.elim .inl fun w => .inr (g.pre.subset w)), q⟩
  have hl : ρ.length ≤ S1.length := by rw [s1.len]; exact g.pre.length_le
  refine ⟨⟨s.nd, fun a z => ⟨(s.z a z).1, (s1.z a z).2⟩, by simp; omega, fun n o a e1 e2 => ?_⟩, ⟨List.prefix_refl _, fun a o z q => ⟨z, (g.keep a o z q).2⟩, g.fz⟩, m⟩
  have hn : n < ρ.length := (List.getElem?_eq_some_iff.mp e2).1
  have e3 : S1[n]? = some o := by rw [List.getElem?_take_of_lt hn] at e1; exact e1
  have e4 : ρ1[n]? = some a := by
    obtain ⟨t, rfl⟩ := g.pre
    rw [List.getElem?_append_left hn]; exact e2
  have x := s1.ob n o a e3 e4
  have ho : okO ρ.length o = true := (List.all_eq_true.mp h1) o (List.mem_of_getElem? e1)
  cases o with
  | lst xs => obtain ⟨vs, e, q⟩ := x; exact ⟨vs, e, pair_all (fun _ _ => okX_ax g.pre m) ho q⟩
  | dic kvs => obtain ⟨vs, e, q⟩ := x; exact ⟨vs, e, pair_all (f := fun p => okX ρ.length p.2) (fun _ _ h z => ⟨z.1, okX_ax g.pre m h z.2⟩) (show (kvs.all fun p => okX ρ.length p.2) = true from ho) q⟩
  | fdc kvs => obtain ⟨ob, vs, e, q⟩ := x; exact ⟨ob, vs, e, pair_all (f := fun p => okX ρ.length p.2) (fun _ _ h z => ⟨z.1, okX_ax g.pre m h z.2⟩) (show (kvs.all fun p => okX ρ.length p.2) = true from ho) q⟩
  | tdc kvs => obtain ⟨vs, e, q⟩ := x; exact ⟨vs, e, pair_all (f := fun p => okX ρ.length p.2) (fun _ _ h z => ⟨z.1, z.2.1.mv m, okX_ax g.pre m h z.2.2⟩) (show (kvs.all fun p => okX ρ.length p.2) = true from ho) q⟩
  | ins C fs => obtain ⟨dx, vs, e, q⟩ := x; exact ⟨dx, vs, e, pair_all (f := fun p => okX ρ.length p.2) (fun _ _ h z => ⟨z.1, okX_ax g.pre m h z.2⟩) (show (fs.all fun p => okX ρ.length p.2) = true from ho) q⟩
theorem keep_ax {x y : X} {v : V} (s : Sta K Z ρ S H) (s1 : Sta K Z ρ1 S1 H1) (g : Go ρ H ρ1 H1) (m : Mv (Wn Z ρ1) H1 (Wn Z ρ) H1) (h : keepX ρ.length S1 x = some y) (a : AX K (Wn Z ρ1) ρ1 H1 x v) : AX K (Wn Z ρ) ρ H1 y v := by
  cases x with
  | d d => cases h; exact okX_ax g.pre m rfl a
  | r n =>
    have h : (if decide (n < ρ.length) then some (X.r n) else ((X.r n).get S1).map .d) = some y := h
    by_cases hn : n < ρ.length
    · rw [if_pos (decide_eq_true hn)] at h
      cases h
      exact okX_ax g.pre m (decide_eq_true hn) a
    · rw [if_neg (by simpa using hn)] at h
      obtain ⟨d, h1, h2⟩ := Option.map_eq_some_iff.mp h
      subst h2
      have w := a.get s1 h1
      cases a with
      | r e =>
        rename_i b
        have hb : ¬ Wn Z ρ b := fun z => by
          rcases z with z | z
          · exact (s1.z b z).1 (List.mem_of_getElem? e)
          · obtain ⟨j, hj, e5⟩ := List.getElem_of_mem z
            obtain ⟨t, rfl⟩ := g.pre
            have e6 : (ρ ++ t)[j]? = some b := by rw [List.getElem?_append_left hj, List.getElem?_eq_getElem hj, e5]
            have hn2 : n < (ρ ++ t).length := (List.getElem?_eq_some_iff.mp e).1
            have hj2 : j < (ρ ++ t).length := (List.getElem?_eq_some_iff.mp e6).1
            have : (ρ ++ t)[n] = (ρ ++ t)[j] := by
              rw [List.getElem?_eq_getElem hn2] at e
              rw [List.getElem?_eq_getElem hj2] at e6
              exact Option.some.inj (e.trans e6.symm)
            have := (List.getElem_inj s1.nd).mp this
            omega
        cases w with
        | av w => exact .d (w.mv m)
        | lst h hs => exact .d (.lst hb h (hs.mv m))
        | fdc h hs => exact .d (.dic hb h (hs.mv m))
/-- what stands behind a def that forgets -/
theorem post_trunc {Wx : WX} {σ : St} {Q : VK} {r : R X} (s : Sta K Z ρ S H) (h : PostG (AX K) K Z ρ H Wx σ Q (trunc S.length r)) : PostG (AX K) K Z ρ H Wx σ Q r := by
  rw [s.len] at h
  cases r with
  | bad => exact h
  | ok x T =>
    intro ρ1 H1 v s1 g a
    have h : PostG (AX K) K Z ρ H Wx σ Q (match keepX ρ.length T x, cut ρ.length T with
      | some y, some T => .ok y T
      | _, _ => .ok x T) := h
    cases q1 : keepX ρ.length T x with
    | none => rw [q1] at h; exact h ρ1 H1 v s1 g a
    | some y =>
      cases q2 : cut ρ.length T with
      | none => rw [q1, q2] at h; exact h ρ1 H1 v s1 g a
      | some T' =>
        rw [q1, q2] at h
        obtain ⟨s2, g2, m⟩ := cut_sta s s1 g q2
        exact h ρ H1 v s2 g2 (keep_ax s s1 g m q1 a)
  | err C fs T =>
    have h : PostG (AX K) K Z ρ H Wx σ Q (match cut ρ.length T with
      | some T => .err C fs T
      | none => .err C fs T) := h
    cases q2 : cut ρ.length T with
    | none => rw [q2] at h; exact h
    | some T' =>
      rw [q2] at h
      intro ρ1 H1 d s1 g z
      obtain ⟨s2, g2, m⟩ := cut_sta s s1 g q2
      refine h ρ H1 d s2 g2 ?_
      rcases z with z | ⟨dd, vs, z1, z2, z3, z4, z5⟩
      · exact .inl z
      · exact .inr ⟨dd, vs, z1, z2, fun w => z3 (w.elim .inl fun w => .inr (g.pre.subset w)), z4, z5.mv m⟩
end

/-! ### promises -/
/-- what is wanted of an exception, wherever the slots are -/
abbrev wxE (E : XK) : WX := fun c d _ H => E c d H
/-- a def that works at the caller's store -/
def spE (K : PySem.W.Frag) (n : Nat) (g : List X → Sto → R X) : Sp := fun vs H Q E => vs.length = n ∧ ∃ (Z : Wd) (ρ : List Addr) (xs : List X) (S : Sto), Sta K Z ρ S H ∧ AXs K (Wn Z ρ) ρ H xs vs ∧ PostG (AX K) K Z ρ H (wxE E) [] Q (g xs S)
inductive PR where
  | ok (d : D) | err (C : Str) (fs : List (Str × D)) | bad
def PostP (K : PySem.W.Frag) (W : Wd) (H : Hp) (Q : VK) (E : XK) : PR → Prop
  | .ok d => ∀ H' v, Same H H' → AV K W H' d v → Q v H'
  | .err C fs => ∀ H' d, Same H H' → ErrO K W H H' fs d → E (.ref (He.ga K C)) d H'
  | .bad => False
/-- a def of data -/
def spP (K : PySem.W.Frag) (n : Nat) (g : List D → PR) : Sp := fun vs H Q E => vs.length = n ∧ ∃ (W : Wd) (ds : List D), (∀ a, W a → ∃ o, H a = some o) ∧ AVs K W H ds vs ∧ PostP K W H Q E (g ds)
/-- the slots at the start -/
def ev0 (N : Nat) (xs : List X) : Ev := xs.map some ++ List.replicate (N - xs.length) none
def endE : RO → R X
  | .go (.nx _) S => .ok (.d .non) S
  | .go (.rt x) S => .ok x S
  | .err C fs _ S => .err C fs S
  | _ => .bad
def runE (N : Nat) (mb : MS) (xs : List X) (S : Sto) : R X := trunc S.length (endE (mb (ev0 N xs) S))
/-- what it made stays -/
def runR (N : Nat) (mb : MS) (xs : List X) (S : Sto) : R X := endE (mb (ev0 N xs) S)
def endP : RO → PR
  | .go (.nx _) _ => .ok .non
  | .go (.rp d) _ => .ok d
  | .err C fs _ _ => .err C fs
  | _ => .bad
def runP (N : Nat) (mb : MS) (ds : List D) : PR := endP (mb (ev0 N (ds.map .d)) [])
theorem ev0_ok {K : PySem.W.Frag} {W : Wd} {ρ : List Addr} {H : Hp} {N : List Str} {xs : List X} {vs : List V} (a : AXs K W ρ H xs vs) : EvOk K W ρ H (ev0 N.length xs) (L2.start N vs) := by
  have hl : xs.length = vs.length := Paired.length a
  refine ⟨by simp [ev0, L2.start, hl], fun i x q => ?_⟩
  unfold ev0 at q
  by_cases hi : i < xs.length
  · rw [List.getElem?_append_left (by simpa using hi), List.getElem?_map] at q
    obtain ⟨y, h1, h2⟩ := Option.map_eq_some_iff.mp q
    cases h2
    have go : ∀ {l : List X} {r : List V} {j : Nat}, AXs K W ρ H l r → l[j]? = some x → ∃ b, r[j]? = some b ∧ AX K W ρ H x b := fun {l r j} p => by
      induction p generalizing j with
      | nil => intro z; simp at z
      | cons x _ ih =>
        intro z
        cases j with
        | zero => simp at z; subst z; exact ⟨_, rfl, x⟩
        | succ n => simp at z; obtain ⟨b, h1, h2⟩ := ih z; exact ⟨b, by simpa using h1, h2⟩
    obtain ⟨v, h3, h4⟩ := go a h1
    refine ⟨v, ?_, h4⟩
    unfold L2.start
    rw [List.getElem?_append_left (by rw [List.length_map, ← hl]; exact hi), List.getElem?_map, h3]; rfl
  · rw [List.getElem?_append_right (by simpa using hi)] at q
    rw [List.getElem?_replicate] at q
    split at q <;> cases q
section
variable {P : Program} {w : World} {K : PySem.W.Frag} {mg : Str → Option Value} {base : Heap} {x qual : Str} {pa : Arguments} {bd : List Stmt} {sc : Scope} {dl : List V} {kw : List (Str × V)} {f : Addr} {fd : FuncData} {N ps : List Str} {k : Nat} {mb : MS}
theorem fnE (F : FunD K x qual pa bd sc dl kw f fd) (S : FnScope N ps sc)
    (h : ∀ (cdv : Value) (A : Around) (outer : List Env) (s : Shared) (H : Hp) (E : XK), A.guards = some [] → Room k (A.deeper (envOfC qual sc s.heap.objs.size f cdv)) → MPs (cxB P w K mg base N qual sc f cdv A outer s H E) (wxE E) bd mb) :
    FnG P w K mg base (k + 1) f fd ps (spE K ps.length (runE N.length mb)) := FnG.of F S (fun _ _ _ _ z => z.1) fun cdv A outer s H vs Q E gu hr ⟨hl, Z, ρ, xs, T, st, a, p⟩ => by
  refine ⟨_, h cdv A outer s H E gu hr, Z, ρ, ev0 N.length xs, T, st, ev0_ok a, ?_⟩
  have p := post_trunc st (show PostG (AX K) K Z ρ H (wxE E) [] Q (trunc T.length (endE (mb (ev0 N.length xs) T))) from p)
  cases q : mb (ev0 N.length xs) T with
  | bad => rw [q] at p; exact p
  | err C fs e S' => rw [q] at p; exact fun ρ' H' σ' d s1 g ev z => p ρ' H' d s1 g z
  | go o S' =>
    rw [q] at p
    cases o with
    | nx e => exact fun ρ' H' σ' s1 g ev => p ρ' H' .non s1 g (.d .non)
    | rt x => exact p
    | bk e => exact p.elim
    | ct e => exact p.elim
    | rp d => exact p.elim
theorem fnR (F : FunD K x qual pa bd sc dl kw f fd) (S : FnScope N ps sc)
    (h : ∀ (cdv : Value) (A : Around) (outer : List Env) (s : Shared) (H : Hp) (E : XK), A.guards = some [] → Room k (A.deeper (envOfC qual sc s.heap.objs.size f cdv)) → MPs (cxB P w K mg base N qual sc f cdv A outer s H E) (wxE E) bd mb) :
    FnG P w K mg base (k + 1) f fd ps (spE K ps.length (runR N.length mb)) := FnG.of F S (fun _ _ _ _ z => z.1) fun cdv A outer s H vs Q E gu hr ⟨hl, Z, ρ, xs, T, st, a, p⟩ => by
  refine ⟨_, h cdv A outer s H E gu hr, Z, ρ, ev0 N.length xs, T, st, ev0_ok a, ?_⟩
  have p : PostG (AX K) K Z ρ H (wxE E) [] Q (endE (mb (ev0 N.length xs) T)) := p
  cases q : mb (ev0 N.length xs) T with
  | bad => rw [q] at p; exact p
  | err C fs e S' => rw [q] at p; exact fun ρ' H' σ' d s1 g ev z => p ρ' H' d s1 g z
  | go o S' =>
    rw [q] at p
    cases o with
    | nx e => exact fun ρ' H' σ' s1 g ev => p ρ' H' .non s1 g (.d .non)
    | rt x => exact p
    | bk e => exact p.elim
    | ct e => exact p.elim
    | rp d => exact p.elim
theorem fnP (F : FunD K x qual pa bd sc dl kw f fd) (S : FnScope N ps sc)
    (h : ∀ (cdv : Value) (A : Around) (outer : List Env) (s : Shared) (H : Hp) (E : XK), A.guards = some [] → Room k (A.deeper (envOfC qual sc s.heap.objs.size f cdv)) → MPs (cxB P w K mg base N qual sc f cdv A outer s H E) (wxE E) bd mb) :
    FnG P w K mg base (k + 1) f fd ps (spP K ps.length (runP N.length mb)) := FnG.of F S (fun _ _ _ _ z => z.1) fun cdv A outer s H vs Q E gu hr ⟨hl, W, ds, hw, a, p⟩ => by
  have m0 : ∀ H, Mv W H (Wn W []) H := fun H a o z q => ⟨fun y => y.elim z (by simp), q⟩
  have m1 : ∀ ρ H, Mv (Wn W ρ) H W H := fun ρ H a o z q => ⟨fun y => z (.inl y), q⟩
  have st : Sta K W [] [] H := ⟨List.nodup_nil, fun a z => ⟨by simp, hw a z⟩, rfl, fun n o a e1 _ => by simp at e1⟩
  refine ⟨_, h cdv A outer s H E gu hr, W, [], ev0 N.length (ds.map .d), [], st, ev0_ok (a.mv (m0 H)).axs, ?_⟩
  have p : PostP K W H Q E (endP (mb (ev0 N.length (ds.map .d)) [])) := p
  cases q : mb (ev0 N.length (ds.map .d)) [] with
  | bad => rw [q] at p; exact p
  | err C fs e S' =>
    rw [q] at p
    refine fun ρ' H' σ' d s1 g ev z => p H' d (fun a o q => (g.keep a o (by simp) q).2) ?_
    rcases z with z | ⟨dd, vs, z1, z2, z3, z4, z5⟩
    · exact .inl z
    · exact .inr ⟨dd, vs, z1, z2, fun w => z3 (.inl w), z4, z5.mv (m1 _ _)⟩
  | go o S' =>
    rw [q] at p
    cases o with
    | nx e => exact fun ρ' H' σ' s1 g ev => p H' .non (fun a o q => (g.keep a o (by simp) q).2) .non
    | rp d => exact fun H' v k a => p H' v (fun b o q => k b o (by simp) q) a
    | bk e => exact p.elim
    | ct e => exact p.elim
    | rt d => exact p.elim
end
end Bv
set_option Elab.async false
set_option linter.all false
set_option maxRecDepth 100000
set_option maxHeartbeats 4000000
/-! By value: calls. -/
namespace Bv
open PySem PySem.Spec L2
open PyProof.Rows hiding St
variable [HasW]

/-! ### data that shares nothing with a list or a dict -/
mutual
def D.noL : D → Bool
  | .lst _ => false
  | .dic _ => false
  | .scr _ => false
  | .tup ds => D.noLs ds
  | .obj _ fs => D.noLf fs
  | _ => true
def D.noLs : List D → Bool
  | [] => true
  | d :: r => d.noL && D.noLs r
def D.noLf : List (Str × D) → Bool
  | [] => true
  | (_, d) :: r => d.noL && D.noLf r
end
/-- what is writable here and not there holds lists or dicts -/
def OnlyL (W W' : Wd) (H : Hp) : Prop := ∀ a, W a → ¬ W' a → (∃ xs, H a = some (.lst xs)) ∨ ∃ ob ks, H a = some (.frz ob (.dK ks))
theorem noL_tup {ds : List D} (h : (D.tup ds).noL = true) : D.noLs ds = true := by simpa [D.noL] using h
theorem noL_obj {C : Str} {fs : List (Str × D)} (h : (D.obj C fs).noL = true) : D.noLf fs = true := by simpa [D.noL] using h
theorem noLs_cons {d : D} {r : List D} (h : D.noLs (d :: r) = true) : d.noL = true ∧ D.noLs r = true := by simpa [D.noLs] using h
theorem noLf_cons {f : Str} {d : D} {r : List (Str × D)} (h : D.noLf ((f, d) :: r) = true) : d.noL = true ∧ D.noLf r = true := by simpa [D.noLf] using h
theorem noL_lst {ds : List D} : ¬ (D.lst ds).noL = true := by simp [D.noL]
theorem noL_dic {ds : List (D × D)} : ¬ (D.dic ds).noL = true := by simp [D.noL]
theorem noL_scr {ds : List Int} : ¬ (D.scr ds).noL = true := by simp [D.noL]
section
variable {K : PySem.W.Frag} {W W' : Wd} {H : Hp}
mutual
theorem AV.noL (hw : OnlyL W W' H) : ∀ {d : D} {v : V}, d.noL = true → AV K W' H d v → AV K W H d v
  | _, _, _, .non => .non
  | _, _, _, .bl b => .bl b
  | _, _, _, .int i => .int i
  | _, _, _, .str x => .str x
  | _, _, _, .gl x => .gl x
  | _, _, n, .tup h hs => .tup (by
      rcases h with ⟨h1, h2⟩ | h
      · refine .inl ⟨fun z => ?_, h2⟩
        rcases hw _ z h1 with ⟨xs, q⟩ | ⟨_, ks, q⟩ <;> (rw [h2] at q; cases q)
      · exact .inr h) (AVs.noL hw (noL_tup n) hs)
  | _, _, n, .obj h1 h2 hs => .obj (fun z => by
      rcases hw _ z h1 with ⟨xs, q⟩ | ⟨_, ks, q⟩ <;> (rw [h2] at q; cases q)) h2 (AVf.noL hw (noL_obj n) hs)
  | _, _, n, .lst _ _ _ => (noL_lst n).elim
  | _, _, n, .dic _ _ _ => (noL_dic n).elim
  | _, _, n, .scr _ => (noL_scr n).elim
theorem AVs.noL (hw : OnlyL W W' H) : ∀ {ds : List D} {vs : List V}, D.noLs ds = true → AVs K W' H ds vs → AVs K W H ds vs
  | _, _, _, .nil => .nil
  | _, _, n, .cons h hs => .cons (AV.noL hw (noLs_cons n).1 h) (AVs.noL hw (noLs_cons n).2 hs)
theorem AVf.noL (hw : OnlyL W W' H) : ∀ {ds : List (Str × D)} {vs : List (Str × V)}, D.noLf ds = true → AVf K W' H ds vs → AVf K W H ds vs
  | _, _, _, .nil => .nil
  | _, _, n, .cons h hs => .cons (AV.noL hw (noLf_cons n).1 h) (AVf.noL hw (noLf_cons n).2 hs)
end
end
def X.isD : X → Bool
  | .d _ => true
  | .r _ => false
/-- a def of data, called: lists and dicts of the store are lent -/
def callP (g : List D → PR) (xs : List X) (S : Sto) : R X := match gets S xs with
  | some ds => (match g ds with
    | .ok d => if xs.all X.isD || d.noL then .ok (.d d) S else .bad
    | .err C fs => if xs.all X.isD || D.noLf fs then .err C fs S else .bad
    | .bad => .bad)
  | none => .bad
section
variable {K : PySem.W.Frag} {Z : Wd} {ρ : List Addr} {S : Sto} {H : Hp}
/-- what is lent -/
def Lent (ρ : List Addr) (xs : List X) : Wd := fun a => ∃ n, X.r n ∈ xs ∧ ρ[n]? = some a
theorem lend (st : Sta K Z ρ S H) (W' : Wd) (hs : ∀ a, W' a → Wn Z ρ a) : ∀ {xs : List X} {vs : List V} {ds : List D}, (∀ a, Lent ρ xs a → ¬ W' a) → AXs K (Wn Z ρ) ρ H xs vs → gets S xs = some ds → AVs K W' H ds vs
  | _, _, _, _, .nil, e => by cases e; exact .nil
  | x :: r, _, ds, hb, .cons h t, e => by
    unfold gets at e
    cases q : x.get S with
    | none => rw [q] at e; cases e
    | some d =>
      cases q2 : gets S r with
      | none => rw [q, q2] at e; cases e
      | some l =>
        rw [q, q2] at e
        cases e
        have m : Mv (Wn Z ρ) H W' H := fun a o z y => ⟨fun w => z (hs a w), y⟩
        refine .cons ?_ (lend st W' hs (fun a ⟨n, h1, h2⟩ => hb a ⟨n, List.mem_cons_of_mem _ h1, h2⟩) t q2)
        have w := h.get st q
        cases h with
        | d h => cases q; exact h.mv m
        | r h =>
          have nb := hb _ ⟨_, List.mem_cons_self, h⟩
          cases w with
          | av w => exact w.mv m
          | lst h hs => exact .lst nb h (hs.mv m)
          | fdc h hs => exact .dic nb h (hs.mv m)
theorem lent_L (st : Sta K Z ρ S H) : ∀ {xs : List X} {ds : List D} {a : Addr}, gets S xs = some ds → Lent ρ xs a → (∃ vs, H a = some (.lst vs)) ∨ ∃ ob ks, H a = some (.frz ob (.dK ks))
  | [], _, _, _, ⟨n, h, _⟩ => by simp at h
  | x :: r, ds, a, e, ⟨n, h, h2⟩ => by
    unfold gets at e
    cases q : x.get S with
    | none => rw [q] at e; cases e
    | some d =>
      cases q2 : gets S r with
      | none => rw [q, q2] at e; cases e
      | some l =>
        rcases List.mem_cons.mp h with z | z
        · subst z
          have w := (AX.r (K := K) (W := Wn Z ρ) (H := H) h2).get st q
          have q' : (match S[n]? with
            | some (.lst xs) => (ds? xs).map .lst
            | some (.fdc kvs) => (ks? kvs).map .dic
            | _ => none) = some d := q
          cases y : S[n]? with
          | none => rw [y] at q'; cases q'
          | some o =>
            rw [y] at q'
            have ob := st.ob n o a y h2
            cases o with
            | lst xs => obtain ⟨vs, h3, _⟩ := ob; exact .inl ⟨vs, h3⟩
            | fdc xs => obtain ⟨o, vs, h3, _⟩ := ob; exact .inr ⟨o, vs, h3⟩
            | _ => cases q'
        · exact lent_L st q2 ⟨n, z, h2⟩
theorem isD_lent {xs : List X} (h : xs.all X.isD = true) (a : Addr) : ¬ Lent ρ xs a := fun ⟨n, h1, _⟩ => by
  have := List.all_eq_true.mp h _ h1
  cases this
end
end Bv
set_option Elab.async false
set_option linter.all false
set_option maxRecDepth 100000
set_option maxHeartbeats 4000000
/-! By value: calls. -/
namespace Bv
open PySem PySem.Spec L2
open PyProof.Rows hiding St
variable [HasW]
section
variable {K : PySem.W.Frag} {Z : Wd} {ρ : List Addr} {S : Sto} {H : Hp}
/-- from the caller's wish to the promise -/
theorem spP_of {g : List D → PR} {Wx : WX} {σ : St} {Q : VK} {xs : List X} {vs : List V} {n : Nat} (st : Sta K Z ρ S H) (a : AXs K (Wn Z ρ) ρ H xs vs) (hn : vs.length = n) (p : PostG (AX K) K Z ρ H Wx σ Q (callP g xs S)) : spP K n g vs H Q (WE Wx σ) := by
  unfold callP at p
  cases q : gets S xs with
  | none => rw [q] at p; exact p.elim
  | some ds =>
    rw [q] at p
    have p : PostG (AX K) K Z ρ H Wx σ Q (match g ds with
      | .ok d => if xs.all X.isD || d.noL then .ok (.d d) S else .bad
      | .err C fs => if xs.all X.isD || D.noLf fs then .err C fs S else .bad
      | .bad => .bad) := p
    let W' : Wd := fun a => Wn Z ρ a ∧ ¬ Lent ρ xs a
    have only : ∀ {H' : Hp}, Same H H' → OnlyL (Wn Z ρ) W' H' := fun k a h1 h2 => by
      have : Lent ρ xs a := Classical.byContradiction fun z => h2 ⟨h1, z⟩
      rcases lent_L st q this with ⟨vs, h⟩ | ⟨o, vs, h⟩
      · exact .inl ⟨vs, k _ _ h⟩
      · exact .inr ⟨o, vs, k _ _ h⟩
    have none' : xs.all X.isD = true → ∀ {H' : Hp}, Mv W' H' (Wn Z ρ) H' := fun hd H' a o z y => ⟨fun w => z ⟨w, isD_lent hd a⟩, y⟩
    refine ⟨hn, W', ds, fun a h => st.thereW h.1, lend st W' (fun a h => h.1) (fun a h z => z.2 h) a q, ?_⟩
    cases q2 : g ds with
    | bad => rw [q2] at p; exact p.elim
    | ok d =>
      rw [q2] at p
      have p : PostG (AX K) K Z ρ H Wx σ Q (if xs.all X.isD || d.noL then .ok (.d d) S else .bad) := p
      split at p
      · rename_i hc
        refine fun H' v k a => p ρ H' v (st.grow k) (Go.grow k) (.d ?_)
        rcases Bool.or_eq_true_iff.mp hc with hc | hc
        · exact a.mv (none' hc)
        · exact a.noL (only k) hc
      · exact p.elim
    | err C fs =>
      rw [q2] at p
      have p : PostG (AX K) K Z ρ H Wx σ Q (if xs.all X.isD || D.noLf fs then .err C fs S else .bad) := p
      split at p
      · rename_i hc
        refine fun H' d k z => p ρ H' d (st.grow k) (Go.grow k) ?_
        rcases z with z | ⟨dd, vs, z1, z2, z3, z4, z5⟩
        · exact .inl z
        · refine .inr ⟨dd, vs, z1, z2, fun w => ?_, z4, ?_⟩
          · obtain ⟨o, e⟩ := st.thereW w
            rw [z2] at e; cases e
          · rcases Bool.or_eq_true_iff.mp hc with hc | hc
            · exact z5.mv (none' hc)
            · exact z5.noL (only k) hc
      · exact p.elim
theorem spE_of {g : List X → Sto → R X} {Wx : WX} {σ : St} {Q : VK} {xs : List X} {vs : List V} {n : Nat} (st : Sta K Z ρ S H) (a : AXs K (Wn Z ρ) ρ H xs vs) (hn : vs.length = n) (p : PostG (AX K) K Z ρ H Wx σ Q (g xs S)) : spE K n g vs H Q (WE Wx σ) := by
  refine ⟨hn, Z, ρ, xs, S, st, a, ?_⟩
  cases q : g xs S with
  | bad => rw [q] at p; exact p
  | ok x T => rw [q] at p; exact p
  | err C fs T => rw [q] at p; exact p
end

end Bv
set_option Elab.async false
set_option linter.all false
set_option maxRecDepth 100000
set_option maxHeartbeats 4000000
/-! By value: calls. -/
namespace Bv
open PySem PySem.Spec L2
open PyProof.Rows hiding St
variable [HasW]
/-! ### what can be called -/
def CalX (X : Cx) (Wx : WX) (fv : Value) (n : Nat) (g : List Bv.X → Sto → R Bv.X) : Prop := ∀ (pins : List (Addr × Obj)) (s : Shared) (σ : St) (H : Hp) (Q : VK) (us : List Value) (vs : List V) (Z : Wd) (ρ : List Addr) (xs : List Bv.X) (S : Sto),
  Inv X pins σ H s → Vals vs us → Sta X.K Z ρ S H → AXs X.K (Wn Z ρ) ρ H xs vs → vs.length = n → PostG (AX X.K) X.K Z ρ H Wx σ Q (g xs S) → codeAny (model X.prog X.w) X.A (.call fv ⟨us, []⟩) (wants (EP X pins σ Q) X.xe) s
/-- values that fill up -/
structure Dft (K : PySem.W.Frag) (dxs : List D) (dvs : List V) (ds : List Value) : Prop where
  av : ∀ W H, AVs K W H dxs dvs
  va : Vals dvs ds
theorem dft_nil {K : PySem.W.Frag} : Dft K [] [] [] := ⟨fun _ _ => .nil, .nil⟩
def withD (dxs : List D) (g : List Bv.X → Sto → R Bv.X) : List Bv.X → Sto → R Bv.X := fun xs S => g (xs ++ dxs.map .d) S
section
variable {X : Cx} {Wx : WX} {k n : Nat} {f : Addr} {fd : FuncData} {ps : List Str} {dxs : List D} {dvs : List V} {ds : List Value}
theorem cal_E {g : List Bv.X → Sto → R Bv.X} (tk : Xq.Tk X Wx) (gu : X.A.guards = some []) (F : FnG X.prog X.w X.K X.mg X.base k f fd ps (spE X.K n g)) (hr : Room k X.A) (hb : Binds X.K fd ps ds) (hd : Dft X.K dxs dvs ds) (hn : n - dvs.length + dvs.length = n := by rfl) :
    CalX X Wx (.ref f) (n - dvs.length) (withD dxs g) := fun pins s σ H Q us vs Z ρ xs S I r st a hl p =>
  code_fnG F gu hr hb hd.va (Xq.passAt tk σ) I r (spE_of st (Paired.append a (hd.av _ _).axs) (by rw [List.length_append, hl, hn]) p)
theorem cal_P {g : List D → PR} (tk : Xq.Tk X Wx) (gu : X.A.guards = some []) (F : FnG X.prog X.w X.K X.mg X.base k f fd ps (spP X.K n g)) (hr : Room k X.A) (hb : Binds X.K fd ps ds) (hd : Dft X.K dxs dvs ds) (hn : n - dvs.length + dvs.length = n := by rfl) :
    CalX X Wx (.ref f) (n - dvs.length) (withD dxs (callP g)) := fun pins s σ H Q us vs Z ρ xs S I r st a hl p =>
  code_fnG F gu hr hb hd.va (Xq.passAt tk σ) I r (spP_of st (Paired.append a (hd.av _ _).axs) (by rw [List.length_append, hl, hn]) p)

/-! ### a new instance -/
def fs? : List (Str × Bv.X) → Option (List (Str × D))
  | [] => some []
  | (f, x) :: r => match x, fs? r with
    | .d v, some l => some ((f, v) :: l)
    | _, _ => none
def frz (S : Sto) (k : Nat) : Option D := match S[k]? with
  | some (.ins C fs) => (fs? fs).map (.obj C)
  | _ => none
/-- of a class whose instances stay as they are made -/
def mkF (k : Nat) : R Bv.X → R Bv.X
  | .ok (.d .non) S => (match frz S k, cut k S with
    | some d, some T => .ok (.d d) T
    | _, _ => .bad)
  | .ok _ _ => .bad
  | .err C fs S => trunc k (.err C fs S)
  | .bad => .bad
/-- of a class whose instances are changed -/
def mkM (k : Nat) : R Bv.X → R Bv.X
  | .ok (.d .non) S => .ok (.r k) S
  | .ok _ _ => .bad
  | .err C fs S => trunc k (.err C fs S)
  | .bad => .bad
def made (C : Str) (mk : Nat → R Bv.X → R Bv.X) (g : List Bv.X → Sto → R Bv.X) : List Bv.X → Sto → R Bv.X := fun xs S => mk S.length (g (.r S.length :: xs) (S ++ [.ins C []]))
/-- what the new thing is behind its __init__ -/
def Mks (mk : Nat → R Bv.X → R Bv.X) : Prop := ∀ {K : PySem.W.Frag} {Z : Wd} {ρ : List Addr} {S : Sto} {H H2 : Hp} {Wx : WX} {σ : St} {Q : VK} {x : Addr} {r : R Bv.X}, Sta K Z ρ S H → H x = none → (∀ a o, H a = some o → H2 a = some o) → Sta K Z (ρ ++ [x]) (S ++ [.ins (Str.empty) []]) H2 ∨ True → x ∉ ρ → Go ρ H (ρ ++ [x]) H2 →
  PostG (AX K) K Z ρ H Wx σ Q (mk S.length r) → PostG (AX K) K Z (ρ ++ [x]) H2 Wx σ (fun v H3 => v = .non ∧ Q (.ref x) H3) r
theorem AVf_fs {K : PySem.W.Frag} {W : Wd} {ρ : List Addr} {H : Hp} : ∀ {fs : List (Str × Bv.X)} {vs : List (Str × V)} {l : List (Str × D)}, Paired (fun (p : Str × Bv.X) (q : Str × V) => p.1 = q.1 ∧ AX K W ρ H p.2 q.2) fs vs → fs? fs = some l → AVf K W H l vs
  | _, _, _, .nil, e => by cases e; exact .nil
  | (f, x) :: r, (f', v) :: _, l, .cons h t, e => by
    cases x with
    | r n => simp [fs?] at e
    | d d =>
      unfold fs? at e
      cases q : fs? r with
      | none => rw [q] at e; cases e
      | some l2 =>
        rw [q] at e
        cases e
        obtain ⟨h1, h2⟩ := h
        obtain rfl : f = f' := h1
        cases h2 with
        | d h2 => exact .cons h2 (AVf_fs t q)
theorem mks_err {K : PySem.W.Frag} {Z : Wd} {ρ : List Addr} {S : Sto} {H H2 : Hp} {Wx : WX} {σ : St} {Q Q' : VK} {x : Addr} {C : Str} {fs : List (Str × D)} {T : Sto} (st : Sta K Z ρ S H) (k : ∀ a o, H a = some o → H2 a = some o) (g : Go ρ H (ρ ++ [x]) H2)
    (p : PostG (AX K) K Z ρ H Wx σ Q (trunc S.length (.err C fs T))) : PostG (AX K) K Z (ρ ++ [x]) H2 Wx σ Q' (.err C fs T) :=
  ErrP.shift g (fun a o h => ⟨o, k a o h⟩) (show ErrP K Z ρ H Wx σ C fs T from post_trunc st p)
theorem mks_F : Mks mkF := fun {K Z ρ S H H2 Wx σ Q x r} st hx k _ hn g p => by
  cases r with
  | bad => exact p
  | err C fs T => exact mks_err st k g p
  | ok y T =>
    cases y with
    | r n => exact p.elim
    | d d =>
      cases d with
      | non =>
        intro ρ1 H1 v s1 g1 a
        have p : PostG (AX K) K Z ρ H Wx σ Q (match frz T S.length, cut S.length T with
          | some d, some T => .ok (.d d) T
          | _, _ => .bad) := p
        cases a with
        | d a =>
          cases a with
          | non =>
            refine ⟨rfl, ?_⟩
            cases q1 : frz T S.length with
            | none => rw [q1] at p; exact p.elim
            | some d =>
              cases q2 : cut S.length T with
              | none => rw [q1, q2] at p; exact p.elim
              | some T' =>
                rw [q1, q2] at p
                have gg := g.trans g1
                have q2' := q2
                rw [st.len] at q2'
                obtain ⟨s2, g2, m⟩ := cut_sta st s1 gg q2'
                refine p ρ H1 (.ref x) s2 g2 (.d ?_)
                have ex : ρ1[S.length]? = some x := by
                  obtain ⟨t, rfl⟩ := g1.pre
                  rw [st.len, List.append_assoc, List.getElem?_append_right (Nat.le_refl _), Nat.sub_self]; rfl
                unfold frz at q1
                cases y : T[S.length]? with
                | none => rw [y] at q1; cases q1
                | some o =>
                  rw [y] at q1
                  have ob := s1.ob _ o x y ex
                  cases o with
                  | ins C fs =>
                    obtain ⟨l, h1, h2⟩ := Option.map_eq_some_iff.mp (show (fs? fs).map (D.obj C) = some d from q1)
                    subst h2
                    obtain ⟨dx, vs, h3, h4⟩ := ob
                    refine .obj (fun z => ?_) h3 ((AVf_fs h4 h1).mv m)
                    rcases z with z | z
                    · exact (s1.z x z).1 (List.mem_of_getElem? ex)
                    · exact hn z
                  | _ => cases q1
      | _ => exact p.elim
theorem mks_M : Mks mkM := fun {K Z ρ S H H2 Wx σ Q x r} st hx k _ hn g p => by
  cases r with
  | bad => exact p
  | err C fs T => exact mks_err st k g p
  | ok y T =>
    cases y with
    | r n => exact p.elim
    | d d =>
      cases d with
      | non =>
        intro ρ1 H1 v s1 g1 a
        cases a with
        | d a =>
          cases a with
          | non =>
            refine ⟨rfl, ?_⟩
            have p : PostG (AX K) K Z ρ H Wx σ Q (.ok (.r S.length) T) := p
            refine p ρ1 H1 (.ref x) s1 (g.trans g1) (.r ?_)
            obtain ⟨t, rfl⟩ := g1.pre
            rw [st.len, List.append_assoc, List.getElem?_append_right (Nat.le_refl _), Nat.sub_self]; rfl
      | _ => exact p.elim
theorem cal_make {C : Str} {g : List Bv.X → Sto → R Bv.X} {mk : Nat → R Bv.X → R Bv.X} (hm : Mks mk) (tk : Xq.Tk X Wx) (gu : X.A.guards = some []) (M : Mk X.K (He.ga X.K C) f) (F : FnG X.prog X.w X.K X.mg X.base k f fd ps (spE X.K (n + 1) g)) (hr : Room (k + 1) X.A) (hb : Binds X.K fd ps ds) (hd : Dft X.K dxs dvs ds) (hn : n - dvs.length + dvs.length = n := by rfl) :
    CalX X Wx (.ref (He.ga X.K C)) (n - dvs.length) (withD dxs (made C mk g)) := fun pins s σ H Q us vs Z ρ xs S I r st a hl p => by
  have I2 := Inv.made (C := He.ga X.K C) I
  have f1 : H (s.heap.objs.size + 1) = none := I.hok.fresh (Nat.le_succ _)
  have f2 : H s.heap.objs.size = none := I.hok.fresh (Nat.le_refl _)
  have fne : s.heap.objs.size ≠ s.heap.objs.size + 1 := Nat.ne_of_lt (Nat.lt_succ_self _)
  have kk : ∀ a o, H a = some o → (upd (upd H s.heap.objs.size (.own (s.heap.objs.size + 1))) (s.heap.objs.size + 1) (.ins (He.ga X.K C) s.heap.objs.size [])) a = some o := fun a o q => by
    rw [upd_ne (ne_of_none q f1), upd_ne (ne_of_none q f2)]; exact q
  obtain ⟨st2, g2⟩ := st.push (o' := .ins C []) f1 kk ⟨_, [], upd_same, .nil⟩
  have hx : s.heap.objs.size + 1 ∉ ρ := fun z => by
    obtain ⟨m, o, e1, e2⟩ := st.mem z
    obtain ⟨u, q⟩ := (st.ob m o _ e1 e2).there
    rw [f1] at q; cases q
  have p2 := hm st f1 kk (.inr trivial) hx g2 (show PostG (AX X.K) X.K Z ρ H Wx σ Q (mk S.length (g (.r S.length :: (xs ++ dxs.map .d)) (S ++ [.ins C []]))) from p)
  have a2 : AXs X.K (Wn Z (ρ ++ [s.heap.objs.size + 1])) (ρ ++ [s.heap.objs.size + 1]) _ (.r S.length :: (xs ++ dxs.map .d)) (V.ref (s.heap.objs.size + 1) :: (vs ++ dvs)) :=
    .cons (.r (by rw [st.len, List.getElem?_append_right (Nat.le_refl _), Nat.sub_self]; rfl)) (Paired.append (a.mv (g2.mv st) g2.pre) (hd.av _ _).axs)
  have hq := spE_of st2 a2 (n := n + 1) (by simp only [List.length_cons, List.length_append, hl]; omega) p2
  have r2 : Vals (V.ref (s.heap.objs.size + 1) :: (vs ++ dvs)) (Value.ref (s.heap.objs.size + 1) :: (us ++ ds)) := .cons rfl (r.append hd.va)
  have hl2 : (Value.ref (s.heap.objs.size + 1) :: us ++ ds).length = ps.length := by
    have e := r2.length
    rw [F.len _ _ _ _ hq] at e
    exact e.symm
  refine (make_map (f := f) I.kIn M.makes M.init (beq_iff_eq.mp M.fn) (codeAny_mono (F.run _ X.stack _ _ ⟨Value.ref (s.heap.objs.size + 1) :: us, []⟩ (Value.ref (s.heap.objs.size + 1) :: (us ++ ds)) _ _ (WE Wx σ) (gu_make gu) (hr.make _ us [])
    (I2.env0.make _ us []) (hb _ (Value.ref (s.heap.objs.size + 1) :: us) I2.kIn hl2) r2 hq) fun y s' hq' => ?_))
  cases y with
  | error e => exact Xq.passAt tk σ pins _ _ e s' I2 hq'
  | ok fl =>
    cases fl with
    | ret u =>
      obtain ⟨v, H', I3, rv, ev, q3⟩ := I2.after hq'
      subst ev
      exact ⟨rv, V.ref (s.heap.objs.size + 1), H', I3, rfl, q3⟩
    | next => exact False.elim hq'
    | brk => exact False.elim hq'
    | cont => exact False.elim hq'
end
end Bv
set_option Elab.async false
set_option linter.all false
set_option maxRecDepth 100000
set_option maxHeartbeats 4000000
/-! By value: call expressions; what is built in. -/
namespace Bv
open PySem PySem.Spec L2
open PyProof.Rows hiding St
variable [HasW]

def m_call (g : List Bv.X → Sto → R Bv.X) (ms : MG (List Bv.X)) : M := fun e S => (ms e S).bind g
/-- by number of arguments -/
def arity (n : Nat) (g : List Bv.X → Sto → R Bv.X) : List Bv.X → Sto → R Bv.X := fun xs S => if decide (xs.length = n) then g xs S else .bad
section
variable {X : Cx} {Wx : WX} {n : Nat} {f : Addr} {x : Str} {p pos apos : Pos} {e o : Expr} {es : List Expr} {ms : MG (List Bv.X)} {mo : M} {g : List Bv.X → Sto → R Bv.X}
theorem ari {rel : R Bv.X → Prop} {xs : List Bv.X} {S : Sto} (hb : ¬ rel .bad) (h : rel (arity n g xs S)) : xs.length = n ∧ rel (g xs S) := by
  unfold arity at h
  by_cases hn : xs.length = n
  · rw [if_pos (decide_eq_true hn)] at h; exact ⟨hn, h⟩
  · rw [if_neg (by simpa using hn)] at h; exact (hb h).elim
theorem me_call (c : CalX X Wx (.ref f) n g) (hg : Gl X x) (hm : X.mg x = some (.ref f)) (hk : PySem.W.keepIn X.K (.ref f) = true) (ha : MA X Wx (e :: es) ms) (hdb : (x == ("__debug__" : Str)) = false := by decide)
    (he : starEach (e :: es) X.env = (false, eval e X.env) :: starEach es X.env := by rfl) (hpl : (backTo pos (starEach es X.env)).any (·.1) = false := by rfl) : ME X Wx (.Call (.Name x p) (e :: es) [] pos) (m_call (arity n g) ms) := ⟨fun pins s σ H Q I ⟨Z, ρ, e, S, st, ev, q⟩ => by
  refine wpAny_Call_Name_kw (ld_glob I hg hm ?_ hdb)
  refine PySem.W.callWith_K (h₀ := X.base) I.ok.mod.kin hk (thn (ha.run pos pins s σ H _ I (tt_bind (R' := fun vs H1 => ∃ (ρ1 : List Addr) (xs : List Bv.X) (S1 : Sto), Sta X.K Z ρ1 S1 H1 ∧ AXs X.K (Wn Z ρ1) ρ1 H1 xs vs ∧ PostG (AX X.K) X.K Z ρ1 H1 Wx σ Q (arity n g xs S1)) st ev q fun ρ1 H1 v xs S1 s1 g1 ev1 a1 p1 => ⟨ρ1, xs, S1, s1, a1, p1⟩))
    fun us s1 ⟨vs, H1, I1, r, ρ1, xs, S1, st1, a1, p1⟩ => ⟨I1.kIn, ?_⟩) he hpl
  obtain ⟨hl, p2⟩ := ari (rel := PostG (AX X.K) X.K Z ρ1 H1 Wx σ Q) (fun z => z) p1
  exact wpAny_call (c pins s1 σ H1 Q us vs Z ρ1 xs S1 I1 r st1 a1 (by rw [← Paired.length a1]; exact hl) p2)⟩
theorem me_call0 (c : CalX X Wx (.ref f) 0 g) (hg : Gl X x) (hm : X.mg x = some (.ref f)) (hk : PySem.W.keepIn X.K (.ref f) = true) (hdb : (x == ("__debug__" : Str)) = false := by decide) : ME X Wx (.Call (.Name x p) [] [] pos) (m_call g m_nil) := ⟨fun pins s σ H Q I ⟨Z, ρ, e, S, st, ev, q⟩ => by
  refine wpAny_Call_Name_kw (ld_glob I hg hm ?_ hdb)
  exact PySem.W.callWith_K0 I.kIn hk (wpAny_call (c pins s σ H Q [] [] Z ρ [] S I .nil st .nil rfl q))⟩
/-! ### methods of own classes -/
def isOf (C m : Str) (S : Sto) : Bv.X → Bool
  | .d (.obj D fs) => decide (D = C) && (fs.lookup m).isNone
  | .d _ => false
  | .r n => match S[n]? with
    | some (.ins D fs) => decide (D = C) && (fs.lookup m).isNone
    | _ => false
theorem isOf_ins {K : PySem.W.Frag} {Z : Wd} {ρ : List Addr} {S : Sto} {H : Hp} {C m : Str} {y : Bv.X} {v : V} (st : Sta K Z ρ S H) (a : AX K (Wn Z ρ) ρ H y v) (h : isOf C m S y = true) : ∃ a dx fs, v = .ref a ∧ H a = some (.ins (He.ga K C) dx fs) ∧ fs.lookup m = none := by
  cases a with
  | d a =>
    cases a with
    | obj w r hs =>
      obtain ⟨h1, h2⟩ := Bool.and_eq_true_iff.mp h
      obtain rfl := of_decide_eq_true h1
      exact ⟨_, _, _, rfl, r, hs.none_of (Option.isNone_iff_eq_none.mp h2)⟩
    | _ => cases h
  | r e =>
    rename_i n q
    have h : (match S[n]? with
      | some (.ins D fs) => decide (D = C) && (fs.lookup m).isNone
      | _ => false) = true := h
    cases z : S[n]? with
    | none => rw [z] at h; cases h
    | some ob =>
      rw [z] at h
      cases ob with
      | ins D fs =>
        obtain ⟨h1, h2⟩ := Bool.and_eq_true_iff.mp (show (decide (D = C) && (fs.lookup m).isNone) = true from h)
        obtain rfl := of_decide_eq_true h1
        obtain ⟨dx, vs, h3, h4⟩ := st.ob n _ q z e
        exact ⟨_, _, _, rfl, h3, pairF_none h4 (Option.isNone_iff_eq_none.mp h2)⟩
      | _ => cases h
def m_meth (C m : Str) (g : List Bv.X → Sto → R Bv.X) (mo : M) (ms : MG (List Bv.X)) : M := fun e S => (mo e S).bind fun x S1 => if isOf C m S1 x then (ms e S1).bind fun xs S2 => g (x :: xs) S2 else .bad
theorem me_meth {C m : Str} {pl : Sem Bool} (cc : CalX X Wx (.ref f) n g) (c : Cls X.K (He.ga X.K C)) (hm : Meth X.K (He.ga X.K C) m f) (ho : ME X Wx o mo) (ha : MA X Wx (e :: es) ms)
    (hst : starEach (e :: es) X.env = (false, eval e X.env) :: starEach es X.env := by rfl) (hpl : (backTo pos (starEach es X.env)).any (·.1) = false := by rfl)
    (ht : eval (.Call (.Attribute o m apos) (e :: es) [] pos) X.env = (do
      let ov ← eval o X.env
      standAt apos.atName
      let (f, first) ← holding [ov] (getMethod ov m pl)
      callWith pos f first (backTo pos (starEach (e :: es) X.env)) (backToKw pos (keywordEach [] X.env))) := by rfl) : ME X Wx (.Call (.Attribute o m apos) (e :: es) [] pos) (m_meth C m (arity n g) mo ms) := ⟨fun pins s σ H Q I ⟨Z, ρ, e, S, st, ev, q⟩ => by
  refine PySem.W.methodCall_KW (pl := pl) (thn (ho.run pins s σ H _ I (tt_bind (R' := fun v H1 => ∃ (ρ1 : List Addr) (y : Bv.X) (S1 : Sto), Sta X.K Z ρ1 S1 H1 ∧ AX X.K (Wn Z ρ1) ρ1 H1 y v ∧ EvOk X.K (Wn Z ρ1) ρ1 H1 e σ ∧ isOf C m S1 y = true ∧ PostG (AX X.K) X.K Z ρ1 H1 Wx σ Q ((ms e S1).bind fun xs S2 => arity n g (y :: xs) S2)) st ev q
    fun ρ1 H1 v y S1 s1 g1 ev1 a1 p1 => by
      have p1 : PostG (AX X.K) X.K Z ρ1 H1 Wx σ Q (if isOf C m S1 y then (ms e S1).bind fun xs S2 => arity n g (y :: xs) S2 else .bad) := p1
      split at p1
      · rename_i hq; exact ⟨ρ1, y, S1, s1, a1, ev1, hq, p1⟩
      · exact p1.elim)) fun u s1 ⟨x, H1, I1, rx, ρ1, y, S1, st1, a1, ev1, hq, p1⟩ => ?_) ht
  obtain ⟨a, dx, fs, rfl, ea, l⟩ := isOf_ins st1 a1 hq
  obtain rfl : u = Value.ref a := rx
  refine getmeth_ok I1 ea c hm l ?_
  refine PySem.W.callWith_K (first := [.ref a]) (h₀ := X.base) I.ok.mod.kin hm.kp (thn (ha.run pos pins s1 σ H1 _ I1 (tt_bind (R' := fun vs H2 => ∃ (ρ2 : List Addr) (xs : List Bv.X) (S2 : Sto), Sta X.K Z ρ2 S2 H2 ∧ AX X.K (Wn Z ρ2) ρ2 H2 y (.ref a) ∧ AXs X.K (Wn Z ρ2) ρ2 H2 xs vs ∧ PostG (AX X.K) X.K Z ρ2 H2 Wx σ Q (arity n g (y :: xs) S2)) st1 ev1 p1
    fun ρ2 H2 v xs S2 s2 g2 ev2 a2 p2 => ⟨ρ2, xs, S2, s2, a1.mv (g2.mv st1) g2.pre, a2, p2⟩)) fun us s2 ⟨vs, H2, I2, r, ρ2, xs, S2, st2, b2, a2, p2⟩ => ⟨I2.kIn, ?_⟩) hst hpl
  obtain ⟨hl, p3⟩ := ari (rel := PostG (AX X.K) X.K Z ρ2 H2 Wx σ Q) (fun z => z) p2
  have aa : AXs X.K (Wn Z ρ2) ρ2 H2 (y :: xs) (V.ref a :: vs) := .cons b2 a2
  exact wpAny_call (cc pins s2 σ H2 Q (.ref a :: us) (.ref a :: vs) Z ρ2 (y :: xs) S2 I2 (.cons rfl r) st2 aa (by rw [← Paired.length aa]; exact hl) p3)⟩
theorem me_meth0 {C m : Str} {pl : Sem Bool} (cc : CalX X Wx (.ref f) 1 g) (c : Cls X.K (He.ga X.K C)) (hm : Meth X.K (He.ga X.K C) m f) (ho : ME X Wx o mo)
    (ht : eval (.Call (.Attribute o m apos) [] [] pos) X.env = (do
      let ov ← eval o X.env
      standAt apos.atName
      let (f, first) ← holding [ov] (getMethod ov m pl)
      callWith pos f first (backTo pos (starEach [] X.env)) (backToKw pos (keywordEach [] X.env))) := by rfl) : ME X Wx (.Call (.Attribute o m apos) [] [] pos) (m_meth C m g mo m_nil) := ⟨fun pins s σ H Q I ⟨Z, ρ, e, S, st, ev, q⟩ => by
  refine PySem.W.methodCall_KW (pl := pl) (thn (ho.run pins s σ H _ I (tt_bind (R' := fun v H1 => ∃ (ρ1 : List Addr) (y : Bv.X) (S1 : Sto), Sta X.K Z ρ1 S1 H1 ∧ AX X.K (Wn Z ρ1) ρ1 H1 y v ∧ isOf C m S1 y = true ∧ PostG (AX X.K) X.K Z ρ1 H1 Wx σ Q (g [y] S1)) st ev q
    fun ρ1 H1 v y S1 s1 g1 ev1 a1 p1 => by
      have p1 : PostG (AX X.K) X.K Z ρ1 H1 Wx σ Q (if isOf C m S1 y then g [y] S1 else .bad) := p1
      split at p1
      · rename_i hq; exact ⟨ρ1, y, S1, s1, a1, hq, p1⟩
      · exact p1.elim)) fun u s1 ⟨x, H1, I1, rx, ρ1, y, S1, st1, a1, hq, p1⟩ => ?_) ht
  obtain ⟨a, dx, fs, rfl, ea, l⟩ := isOf_ins st1 a1 hq
  obtain rfl : u = Value.ref a := rx
  refine getmeth_ok I1 ea c hm l ?_
  exact PySem.W.callWith_K0 (first := [.ref a]) I1.kIn hm.kp (wpAny_call (cc pins s1 σ H1 Q [.ref a] [.ref a] Z ρ1 [y] S1 I1 (.cons rfl .nil) st1 (.cons a1 .nil) rfl p1))⟩

/-! ### built-in functions -/
/-- a rule of the layer, by value -/
def BinX (K : PySem.W.Frag) (r : List V → Hp → VK → Prop) (g : List Bv.X → Sto → R Bv.X) : Prop := ∀ (Z : Wd) (ρ : List Addr) (S : Sto) (H : Hp) (Wx : WX) (σ : St) (xs : List Bv.X) (vs : List V) (Q : VK), Sta K Z ρ S H → AXs K (Wn Z ρ) ρ H xs vs → PostG (AX K) K Z ρ H Wx σ Q (g xs S) → r vs H Q
theorem CallR.or {fv : Value} {r r' : List V → Hp → VK → Prop} (h : CallR X fv r) (h' : CallR X fv r') : CallR X fv (fun xs H Q => r xs H Q ∨ r' xs H Q) := fun pins s σ H xs us Q I v q => q.elim (h pins s σ H xs us Q I v) (h' pins s σ H xs us Q I v)
theorem me_bin {id : String} {r : List V → Hp → VK → Prop} (hc : CallR X (.builtin id) r) (h : BinX X.K r g) (hg : Gl X x) (hm : X.mg x = none) (ha : MA X Wx (e :: es) ms) (hv : bootBuiltins x = some (.builtin id) := by rfl) (hn : x ≠ "__name__" := by decide) (hdb : (x == ("__debug__" : Str)) = false := by decide)
    (he : starEach (e :: es) X.env = (false, eval e X.env) :: starEach es X.env := by rfl) (hpl : (backTo pos (starEach es X.env)).any (·.1) = false := by rfl) : ME X Wx (.Call (.Name x p) (e :: es) [] pos) (m_call g ms) := PE.of (pe_callB hc hg hm hv ha hn hdb he hpl) fun σ H Q ⟨Z, ρ, e, S, st, ev, q⟩ =>
  tt_bind st ev q fun ρ1 H1 v xs S1 s1 g1 ev1 a1 p1 => h Z ρ1 S1 H1 Wx σ xs v Q s1 a1 p1
theorem me_bty {T : String} {r : List V → Hp → VK → Prop} (hc : CallR X (.type T) r) (h : BinX X.K r g) (hg : Gl X x) (hm : X.mg x = none) (ha : MA X Wx (e :: es) ms) (hv : bootBuiltins x = some (.type T) := by rfl) (hn : x ≠ "__name__" := by decide) (hdb : (x == ("__debug__" : Str)) = false := by decide)
    (he : starEach (e :: es) X.env = (false, eval e X.env) :: starEach es X.env := by rfl) (hpl : (backTo pos (starEach es X.env)).any (·.1) = false := by rfl) : ME X Wx (.Call (.Name x p) (e :: es) [] pos) (m_call g ms) := PE.of (pe_callTy hc hg hm hv ha hn hdb he hpl) fun σ H Q ⟨Z, ρ, e, S, st, ev, q⟩ =>
  tt_bind st ev q fun ρ1 H1 v xs S1 s1 g1 ev1 a1 p1 => h Z ρ1 S1 H1 Wx σ xs v Q s1 a1 p1
end
/-- a function of ints -/
def intsF (f : List Int → Option Int) : List Bv.X → Sto → R Bv.X := fun xs S => match (ints? xs).bind f with
  | some i => .ok (.d (.int i)) S
  | none => .bad
theorem intsF_inv {K : PySem.W.Frag} {Z : Wd} {ρ : List Addr} {S : Sto} {H : Hp} {Wx : WX} {σ : St} {Q : VK} {f : List Int → Option Int} {xs : List Bv.X} {vs : List V} (st : Sta K Z ρ S H) (a : AXs K (Wn Z ρ) ρ H xs vs) (h : PostG (AX K) K Z ρ H Wx σ Q (intsF f xs S)) : ∃ l i, vs = l.map V.int ∧ f l = some i ∧ Q (.int i) H := by
  unfold intsF at h
  cases q : (ints? xs).bind f with
  | none => rw [q] at h; exact h.elim
  | some i =>
    rw [q] at h
    obtain ⟨l, h1, h2⟩ := Option.bind_eq_some_iff.mp q
    exact ⟨l, i, ints_inv a h1, h2, PostG.ret0 h st (.d (.int i))⟩
def absI : List Int → Option Int
  | [i] => some (if i < 0 then -i else i)
  | _ => none
def minI : List Int → Option Int
  | [i, j] => some (if j < i then j else i)
  | _ => none
def maxI : List Int → Option Int
  | [i, j] => some (if j > i then j else i)
  | _ => none
section
variable {K : PySem.W.Frag}
theorem b_abs : BinX K (fun xs H Q => ∃ i, xs = [.int i] ∧ Q (.int (if i < 0 then -i else i)) H) (intsF absI) := fun Z ρ S H Wx σ xs vs Q st a h => by
  obtain ⟨l, i, e1, e2, q⟩ := intsF_inv st a h
  match l, e2 with
  | [j], e2 => cases e2; exact ⟨j, e1, q⟩
theorem b_min : BinX K (fun xs H Q => ∃ i j, xs = [.int i, .int j] ∧ Q (.int (if j < i then j else i)) H) (intsF minI) := fun Z ρ S H Wx σ xs vs Q st a h => by
  obtain ⟨l, i, e1, e2, q⟩ := intsF_inv st a h
  match l, e2 with
  | [j, k], e2 => cases e2; exact ⟨j, k, e1, q⟩
theorem b_max : BinX K (fun xs H Q => ∃ i j, xs = [.int i, .int j] ∧ Q (.int (if j > i then j else i)) H) (intsF maxI) := fun Z ρ S H Wx σ xs vs Q st a h => by
  obtain ⟨l, i, e1, e2, q⟩ := intsF_inv st a h
  match l, e2 with
  | [j, k], e2 => cases e2; exact ⟨j, k, e1, q⟩
/-- int() of an int, of a bool -/
def intF : List Bv.X → Sto → R Bv.X
  | [.d (.int i)], S => .ok (.d (.int i)) S
  | [.d (.bl b)], S => .ok (.d (.int (if b then 1 else 0))) S
  | _, _ => .bad
theorem one_d {W : Wd} {ρ : List Addr} {H : Hp} {d : D} {vs : List V} (a : AXs K W ρ H [.d d] vs) : ∃ v, vs = [v] ∧ AV K W H d v := by
  cases a with
  | cons h t =>
    cases t
    cases h with
    | d h => exact ⟨_, rfl, h⟩
theorem b_int : BinX K (fun xs H Q => (∃ i, xs = [.int i] ∧ Q (.int i) H) ∨ ∃ k, xs = [.bl k] ∧ Q (.int (if k then 1 else 0)) H) intF := fun Z ρ S H Wx σ xs vs Q st a h => by
  unfold intF at h
  split at h
  · rename_i j
    obtain ⟨v, rfl, b⟩ := one_d a
    have e : v = .int j := by cases b; rfl
    exact .inl ⟨_, by rw [e], PostG.ret0 h st (.d (.int _))⟩
  · rename_i j
    obtain ⟨v, rfl, b⟩ := one_d a
    have e : v = .bl j := by cases b; rfl
    exact .inr ⟨_, by rw [e], PostG.ret0 h st (.d (.int _))⟩
  · exact h.elim
/-- len() -/
def lenD : D → Option Int
  | .str z => if decide (z.length ≤ sizeLine) then some z.length else none
  | .scr ns => some ns.length
  | _ => none
def lenS (S : Sto) : Bv.X → Option Int
  | .d (.dic kvs) => some kvs.length
  | .d d => match items S (.d d) with
    | some ys => some ys.length
    | none => lenD d
  | .r n => match S[n]? with
    | some (.lst xs) => some xs.length
    | some (.dic kvs) => some kvs.length
    | some (.fdc kvs) => some kvs.length
    | _ => none
def lenF : List Bv.X → Sto → R Bv.X
  | [x], S => (match lenS S x with
    | some n => .ok (.d (.int n)) S
    | none => .bad)
  | _, _ => .bad
abbrev rLenA (K : PySem.W.Frag) : List V → Hp → VK → Prop := fun xs H Q => ((∃ p ys, xs = [.ref p] ∧ (SqL K H p ys ∨ SqT K H p ys) ∧ Q (.int ys.length) H) ∨ (∃ z, xs = [.str z] ∧ z.length ≤ sizeLine ∧ Q (.int z.length) H)) ∨ ∃ a kvs, xs = [V.ref a] ∧ Rd H a (.dK kvs) ∧ Q (.int kvs.length) H
theorem call_lenDR {X : Cx} : CallR X (.builtin "len") (fun xs H Q => ∃ a kvs, xs = [V.ref a] ∧ Rd H a (.dK kvs) ∧ Q (.int kvs.length) H) := fun pins s σ H xs us Q I r h => by
  obtain ⟨a, kvs, rfl, hd, q⟩ := h
  cases r with
  | cons r t =>
    cases t
    cases (show _ = Value.ref a from r)
    exact d_len I hd fun t s' I' => ⟨V.int kvs.length, H, I', ⟨t, rfl⟩, q⟩
theorem c_len {X : Cx} : CallR X (.builtin "len") (rLenA X.K) := CallR.or (CallR.or call_len_seq call_len_str) call_lenDR
theorem AVk.length {W : Wd} {H : Hp} : ∀ {ds : List (D × D)} {vs : List (Key × V)}, AVk K W H ds vs → ds.length = vs.length
  | _, _, .nil => rfl
  | _, _, .cons _ _ t => by simp [AVk.length t]
theorem b_len : BinX K (rLenA K) lenF := fun Z ρ S H Wx σ xs vs Q st a h => by
  unfold lenF at h
  split at h
  · rename_i x
    cases a with
    | cons ha t =>
      cases t
      cases q : lenS S x with
      | none => rw [q] at h; exact h.elim
      | some n =>
        rw [q] at h
        have hQ : Q (.int n) H := PostG.ret0 h st (.d (.int n))
        cases ha with
        | d ha =>
          cases ha with
          | dic w r hs => cases q; exact .inr ⟨_, _, rfl, .inr ⟨_, r⟩, by rw [← hs.length]; exact hQ⟩
          | lst w r hs =>
            rw [show lenS S (.d (.lst _)) = some ((List.map Bv.X.d _).length : Int) from rfl, List.length_map] at q
            cases q; exact .inl (.inl ⟨_, _, rfl, .inl (.inl (.inl r)), by rw [← hs.length]; exact hQ⟩)
          | tup r hs =>
            rw [show lenS S (.d (.tup _)) = some ((List.map Bv.X.d _).length : Int) from rfl, List.length_map] at q
            cases q; exact .inl (.inl ⟨_, _, rfl, .inr r.sq, by rw [← hs.length]; exact hQ⟩)
          | scr r =>
            rename_i q' ns
            cases q
            exact .inl (.inl ⟨_, ns.map V.int, rfl, .inl r.sl, by rw [List.length_map]; exact hQ⟩)
          | str hz =>
            rename_i z
            have q : (if decide (z.length ≤ sizeLine) then some (z.length : Int) else none) = some n := q
            obtain ⟨h1, h2⟩ := ite_some q
            cases h2
            exact .inl (.inr ⟨z, rfl, of_decide_eq_true h1, hQ⟩)
          | _ => cases q
        | r e =>
          rename_i m b
          have q : (match S[m]? with
            | some (.lst xs) => some (xs.length : Int)
            | some (.dic kvs) => some (kvs.length : Int)
            | some (.fdc kvs) => some (kvs.length : Int)
            | _ => none) = some n := q
          cases z : S[m]? with
          | none => rw [z] at q; cases q
          | some o =>
            rw [z] at q
            have ob := st.ob m o b z e
            cases o with
            | lst xs =>
              cases q
              obtain ⟨vs, h3, h4⟩ := ob
              exact .inl (.inl ⟨_, vs, rfl, .inl (.inl (.inl h3)), by rw [← Paired.length h4]; exact hQ⟩)
            | dic xs =>
              cases q
              obtain ⟨vs, h3, h4⟩ := ob
              exact .inr ⟨_, vs, rfl, .inl h3, by rw [← Paired.length h4]; exact hQ⟩
            | fdc xs =>
              cases q
              obtain ⟨o, vs, h3, h4⟩ := ob
              exact .inr ⟨_, vs, rfl, .inr ⟨o, h3⟩, by rw [← Paired.length h4]; exact hQ⟩
            | _ => cases q
  · exact h.elim
/-- list(), as data; as a new list of the store -/
def listD : List Bv.X → Sto → R Bv.X
  | [x], S => (match (items S x).bind ds? with
    | some ds => .ok (.d (.lst ds)) S
    | none => .bad)
  | _, _ => .bad
def listN : List Bv.X → Sto → R Bv.X
  | [x], S => (match items S x with
    | some ys => .ok (.r S.length) (S ++ [.lst ys])
    | none => .bad)
  | _, _ => .bad
abbrev rListOf (K : PySem.W.Frag) : List V → Hp → VK → Prop := fun xs H Q => ∃ p ys, xs = [.ref p] ∧ (SqL K H p ys ∨ SqT K H p ys) ∧ ∀ l, H l = none → Q (.ref l) (upd H l (.lst ys))
theorem b_listD : BinX K (rListOf K) listD := fun Z ρ S H Wx σ xs vs Q st a h => by
  unfold listD at h
  split at h
  · rename_i x
    cases a with
    | cons ha t =>
      cases t
      cases q : (items S x).bind ds? with
      | none => rw [q] at h; exact h.elim
      | some ds =>
        rw [q] at h
        obtain ⟨ys, h1, h2⟩ := Option.bind_eq_some_iff.mp q
        obtain ⟨b, us, rfl, hq, hp⟩ := ha.items st h1
        exact ⟨b, us, rfl, hq.symm, fun l hl => PostG.ret h st (upd_keep hl) (.d (new_lst (fun z hz => st.thereW hz) hl (AXs.ds hp h2)))⟩
  · exact h.elim
theorem b_listN : BinX K (rListOf K) listN := fun Z ρ S H Wx σ xs vs Q st a h => by
  unfold listN at h
  split at h
  · rename_i x
    cases a with
    | cons ha t =>
      cases t
      cases q : items S x with
      | none => rw [q] at h; exact h.elim
      | some ys =>
        rw [q] at h
        obtain ⟨b, us, rfl, hq, hp⟩ := ha.items st q
        refine ⟨b, us, rfl, hq.symm, fun l hl => ?_⟩
        obtain ⟨s2, g2⟩ := st.pushL hl hp
        exact h _ _ _ s2 g2 (.r (by rw [st.len, List.getElem?_append_right (Nat.le_refl _), Nat.sub_self]; rfl))
  · exact h.elim
/-- tuple() -/
def tupF : List Bv.X → Sto → R Bv.X
  | [x], S => (match (items S x).bind ds? with
    | some ds => .ok (.d (.tup ds)) S
    | none => .bad)
  | _, _ => .bad
abbrev rTupOf (K : PySem.W.Frag) : List V → Hp → VK → Prop := fun xs H Q => ∃ p ys, xs = [.ref p] ∧ ((SqL K H p ys ∧ ∀ l, H l = none → Q (.ref l) (upd H l (.tup ys))) ∨ (SqT K H p ys ∧ Q (.ref p) H))
theorem b_tup : BinX K (rTupOf K) tupF := fun Z ρ S H Wx σ xs vs Q st a h => by
  unfold tupF at h
  split at h
  · rename_i x
    cases a with
    | cons ha t =>
      cases t
      cases q : (items S x).bind ds? with
      | none => rw [q] at h; exact h.elim
      | some ds =>
        rw [q] at h
        obtain ⟨ys, h1, h2⟩ := Option.bind_eq_some_iff.mp q
        have fin : ∀ {b us}, SqL K H b us → AXs K (Wn Z ρ) ρ H ys us → ∀ l, H l = none → Q (.ref l) (upd H l (.tup us)) := fun hq hp l hl => PostG.ret h st (upd_keep hl) (.d (new_tup (fun z hz => st.thereW hz) hl (AXs.ds hp h2)))
        cases ha with
        | r e =>
          obtain ⟨b, us, e1, hq, hp⟩ := (AX.r e).items st h1
          cases e1
          rename_i m _
          have h1' : (match S[m]? with
            | some (.lst xs) => some xs
            | _ => none) = some ys := h1
          cases z : S[m]? with
          | none => rw [z] at h1'; cases h1'
          | some o =>
            rw [z] at h1'
            cases o with
            | lst xs =>
              cases h1'
              obtain ⟨vs, h3, h4⟩ := st.ob m _ _ z e
              exact ⟨_, vs, rfl, .inl ⟨.inl (.inl h3), fin (.inl (.inl h3)) h4⟩⟩
            | _ => cases h1'
        | d ha =>
          cases ha with
          | lst w r hs => cases h1; exact ⟨_, _, rfl, .inl ⟨.inl (.inl r), fin (.inl (.inl r)) hs.axs⟩⟩
          | tup r hs =>
            cases h1
            rename_i ds2
            have e3 : ∀ (l : List D), ds? (l.map Bv.X.d) = some l := fun l => by
              induction l with
              | nil => rfl
              | cons d r ih => simp [ds?, ih]
            rw [e3] at h2
            cases h2
            exact ⟨_, _, rfl, .inr ⟨r.sq, PostG.ret0 h st (.d (.tup r hs))⟩⟩
          | _ => cases h1
  · exact h.elim
/-- all(), any(), sum() of a list -/
def bls? : List Bv.X → Option (List Bool)
  | [] => some []
  | .d (.bl b) :: r => (bls? r).map (b :: ·)
  | _ :: _ => none
theorem bls_inv {W : Wd} {ρ : List Addr} {H : Hp} : ∀ {xs : List Bv.X} {vs : List V} {l : List Bool}, AXs K W ρ H xs vs → bls? xs = some l → vs = l.map V.bl
  | _, _, _, .nil, e => by cases e; rfl
  | x :: r, _, l, .cons h t, e => by
    cases x with
    | r n => simp [bls?] at e
    | d d =>
      cases d with
      | bl b =>
        obtain ⟨l2, h1, h2⟩ := Option.map_eq_some_iff.mp (show (bls? r).map (b :: ·) = some l from e)
        subst h2
        cases h with
        | d h => cases h; rw [bls_inv t h1]; rfl
      | _ => simp [bls?] at e
def isLst (S : Sto) : Bv.X → Bool
  | .d (.lst _) => true
  | .r n => match S[n]? with
    | some (.lst _) => true
    | _ => false
  | _ => false
theorem AX.itemsL {Z : Wd} {ρ : List Addr} {S : Sto} {H : Hp} {x : Bv.X} {v : V} {ys : List Bv.X} (st : Sta K Z ρ S H) (h : AX K (Wn Z ρ) ρ H x v) (e : Bv.items S x = some ys) (hl : isLst S x = true) : ∃ q xs, v = .ref q ∧ H q = some (.lst xs) ∧ AXs K (Wn Z ρ) ρ H ys xs := by
  cases h with
  | d h =>
    cases h with
    | lst w r hs => cases e; exact ⟨_, _, rfl, r, hs.axs⟩
    | _ => cases hl
  | r h =>
    rename_i n q
    have e1 : (match S[n]? with
      | some (.lst xs) => some xs
      | _ => none) = some ys := e
    cases z : S[n]? with
    | none => rw [z] at e1; cases e1
    | some o =>
      rw [z] at e1
      cases o with
      | lst xs =>
        cases e1
        obtain ⟨vs, h1, h2⟩ := st.ob n _ q z h
        exact ⟨q, vs, rfl, h1, h2⟩
      | _ => cases e1
def blsF (f : List Bool → Bool) : List Bv.X → Sto → R Bv.X
  | [x], S => if isLst S x then (match (items S x).bind bls? with
    | some l => .ok (.d (.bl (f l))) S
    | none => .bad) else .bad
  | _, _ => .bad
theorem blsF_inv {f : List Bool → Bool} {Z : Wd} {ρ : List Addr} {S : Sto} {H : Hp} {Wx : WX} {σ : St} {Q : VK} {xs : List Bv.X} {vs : List V} (st : Sta K Z ρ S H) (a : AXs K (Wn Z ρ) ρ H xs vs) (h : PostG (AX K) K Z ρ H Wx σ Q (blsF f xs S)) : ∃ a bs, vs = [V.ref a] ∧ SqL K H a (bs.map V.bl) ∧ Q (.bl (f bs)) H := by
  unfold blsF at h
  split at h
  · rename_i x
    split at h
    · rename_i hl
      cases a with
      | cons ha t =>
        cases t
        cases q : (items S x).bind bls? with
        | none => rw [q] at h; exact h.elim
        | some l =>
          rw [q] at h
          obtain ⟨ys, h1, h2⟩ := Option.bind_eq_some_iff.mp q
          obtain ⟨b, us, rfl, hq, hp⟩ := ha.itemsL st h1 hl
          rw [bls_inv hp h2] at hq
          exact ⟨b, l, rfl, .inl (.inl hq), PostG.ret0 h st (.d (.bl _))⟩
    · exact h.elim
  · exact h.elim
theorem b_all : BinX K (rAll K) (blsF fun l => l.all id) := fun Z ρ S H Wx σ xs vs Q st a h => blsF_inv st a h
theorem b_any : BinX K (rAny K) (blsF fun l => l.any id) := fun Z ρ S H Wx σ xs vs Q st a h => blsF_inv st a h
def sumF : List Bv.X → Sto → R Bv.X
  | [x], S => if isLst S x then (match (items S x).bind ints? with
    | some l => .ok (.d (.int l.sum)) S
    | none => .bad) else .bad
  | _, _ => .bad
theorem b_sum : BinX K (rSum K) sumF := fun Z ρ S H Wx σ xs vs Q st a h => by
  unfold sumF at h
  split at h
  · rename_i x
    split at h
    · rename_i hl
      cases a with
      | cons ha t =>
        cases t
        cases q : (items S x).bind ints? with
        | none => rw [q] at h; exact h.elim
        | some l =>
          rw [q] at h
          obtain ⟨ys, h1, h2⟩ := Option.bind_eq_some_iff.mp q
          obtain ⟨b, us, rfl, hq, hp⟩ := ha.itemsL st h1 hl
          rw [ints_inv hp h2] at hq
          exact ⟨b, l, rfl, .inl (.inl hq), PostG.ret0 h st (.d (.int _))⟩
    · exact h.elim
  · exact h.elim
end
end Bv
set_option Elab.async false
set_option linter.all false
set_option maxRecDepth 100000
set_option maxHeartbeats 4000000
/-! By value: slices, stores into lists, methods of lists and texts, two names at once. -/
namespace Bv
open PySem PySem.Spec L2
open PyProof.Rows hiding St
variable [HasW]

/-! ### slices -/
abbrev relI : Wd → List Addr → Hp → Option Int → Option Int → Prop := fun _ _ _ b c => b = c
abbrev MO (X : Cx) (Wx : WX) (e : Option Expr) (m : MG (Option Int)) : Prop := PO X e (RG relI X.K Wx m)
def m_no : MG (Option Int) := fun _ S => .ok none S
def m_part (m : M) : MG (Option Int) := fun e S => (m e S).bind fun x S1 => optR ((intX x).map some) S1
def cutL {α : Type} (xs : List α) (lo hi : Option Int) : List α := (xs.drop (HT.sIx xs.length 0 lo)).take (HT.sIx xs.length xs.length hi - HT.sIx xs.length 0 lo)
def slX (S : Sto) (x : X) (lo hi : Option Int) : Option X := match x with
  | .d (.lst ds) => some (.d (.lst (cutL ds lo hi)))
  | .d (.tup ds) => some (.d (.tup (cutL ds lo hi)))
  | .d (.scr ns) => some (.d (.lst ((cutL ns lo hi).map .int)))
  | .d (.str z) => if decide (z.length ≤ sizeLine) then some (.d (.str ⟨(cutL z.cps.toList lo hi).toArray⟩)) else none
  | .r n => (match S[n]? with
    | some (.lst xs) => (ds? (cutL xs lo hi)).map fun ds => .d (.lst ds)
    | _ => none)
  | _ => none
def m_slice (m : M) (ml mh : MG (Option Int)) : M := fun e S => (m e S).bind fun x S1 => (ml e S1).bind fun l S2 => (mh e S2).bind fun h S3 => optR (slX S3 x l h) S3
section
variable {X : Cx} {Wx : WX} {pos p p2 apos : Pos} {a b c o i e : Expr} {lo hi : Option Expr} {ma mb mc m mo mi : M} {ml mh : MG (Option Int)} {ms : MG (List Bv.X)}
theorem PO.of {e : Option Expr} {t t' : TO} (h : PO X e t) (w : ∀ σ H Q, t' σ H Q → t σ H Q) : PO X e t' := ⟨fun pins s σ H Q I q => h.run pins s σ H Q I (w σ H Q q)⟩
theorem mo_none : MO X Wx none m_no := PO.of po_none fun σ H Q ⟨Z, ρ, e, S, st, ev, p⟩ => PostG.ret0 p st rfl
theorem mo_some (h : ME X Wx a m) : MO X Wx (some a) (m_part m) := PO.of (po_some h) fun σ H Q ⟨Z, ρ, e, S, st, ev, p⟩ => tt_bind st ev p fun ρ1 H1 v x S1 s1 g1 ev1 a1 p1 => by
  obtain ⟨o, ho, p2⟩ := p1.opt
  obtain ⟨j, h1, h2⟩ := Option.map_eq_some_iff.mp ho
  subst h2
  exact ⟨j, a1.int h1, PostG.ret0 p2 s1 rfl⟩
theorem AVs.cutV {K : PySem.W.Frag} {W : Wd} {H : Hp} {ds : List D} {vs : List V} (h : AVs K W H ds vs) (lo hi : Option Int) : AVs K W H (cutL ds lo hi) (L2.cutV vs lo hi) := by
  unfold cutL L2.cutV
  rw [h.length]
  exact (h.drop _).take _
theorem AXs.takeP {α β : Type} {F : α → β → Prop} : ∀ {l : List α} {r : List β} (n : Nat), Paired F l r → Paired F (l.take n) (r.take n)
  | _, _, 0, _ => .nil
  | _, _, _ + 1, .nil => .nil
  | _, _, n + 1, .cons x t => .cons x (AXs.takeP n t)
theorem AXs.dropP {α β : Type} {F : α → β → Prop} : ∀ {l : List α} {r : List β} (n : Nat), Paired F l r → Paired F (l.drop n) (r.drop n)
  | _, _, 0, t => t
  | _, _, _ + 1, .nil => .nil
  | _, _, n + 1, .cons x t => AXs.dropP n t
theorem pair_cut {F : Bv.X → V → Prop} {l : List Bv.X} {r : List V} (h : Paired F l r) (lo hi : Option Int) : Paired F (cutL l lo hi) (L2.cutV r lo hi) := by
  unfold cutL L2.cutV
  rw [Paired.length h]
  exact AXs.takeP _ (AXs.dropP _ h)
theorem cut_map {α β : Type} (f : α → β) (xs : List α) (lo hi : Option Int) : cutL (xs.map f) lo hi = (cutL xs lo hi).map f := by
  unfold cutL
  rw [List.length_map, List.map_take, List.map_drop]
theorem cutL_mem {α : Type} {xs : List α} {lo hi : Option Int} {a : α} (h : a ∈ cutL xs lo hi) : a ∈ xs := List.mem_of_mem_drop (List.mem_of_mem_take h)
theorem me_slice (he : ME X Wx a m) (hl : MO X Wx lo ml) (hh : MO X Wx hi mh) : ME X Wx (.Subscript a (.Slice lo hi none p2) pos) (m_slice m ml mh) := PE.of (pe_slice (SlR.or (SlR.or sl_list sl_tupA) sl_str) he hl hh) fun σ H Q ⟨Z, ρ, e, S, st, ev, p⟩ => by
  refine tt_bind st ev p fun ρ1 H1 v x S1 s1 g1 ev1 a1 p1 => ?_
  refine tt_bind (rel := relI) s1 ev1 p1 fun ρ2 H2 l l' S2 s2 g2 ev2 e2 p2 => ?_
  refine tt_bind (rel := relI) s2 ev2 p2 fun ρ3 H3 h h' S3 s3 g3 ev3 e3 p3 => ?_
  cases (show l' = l from e2)
  cases (show h' = h from e3)
  have a3 := (a1.mv (g2.mv s1) g2.pre).mv (g3.mv s2) g3.pre
  obtain ⟨y, hy, p4⟩ := p3.opt
  clear p3 p2 p1 p a1
  have lst : ∀ {q : Addr} {xs : List V} {ds : List D}, SqL X.K H3 q xs → AVs X.K (Wn Z ρ3) H3 ds xs → y = .d (.lst (cutL ds l h)) → ∃ a xs, V.ref q = .ref a ∧ SqL X.K H3 a xs ∧ ∀ p, H3 p = none → Q (.ref p) (upd H3 p (.lst (L2.cutV xs l h))) := fun {q xs ds} hq hs ey => by
    subst ey
    exact ⟨q, xs, rfl, hq, fun p hp => PostG.ret p4 s3 (upd_keep hp) (.d (new_lst (fun z hz => s3.thereW hz) hp (hs.cutV l h)))⟩
  cases a3 with
  | d a =>
    cases a with
    | lst w r hs => cases hy; exact .inl (.inl (lst (.inl (.inl r)) hs rfl))
    | scr r =>
      rename_i q ns
      cases hy
      exact .inl (.inl (lst r.sl (avs_ints ns) (by rw [cut_map])))
    | tup t hs =>
      rename_i q xs ds
      cases hy
      refine .inl (.inr ⟨_, xs, rfl, t.sq, fun hw => ?_, fun _ p hp => PostG.ret p4 s3 (upd_keep hp) (.d (new_tup (fun z hz => s3.thereW hz) hp (hs.cutV l h)))⟩)
      have e0 : cutL ds l h = ds := by
        unfold cutL
        rw [hs.length, hw.1, hw.2, List.drop_zero, Nat.sub_zero, ← hs.length, List.take_length]
      rw [e0] at p4
      exact PostG.ret0 p4 s3 (.d (.tup t hs))
    | str hz =>
      rename_i z
      have hy : (if decide (z.length ≤ sizeLine) then some (Bv.X.d (.str ⟨(cutL z.cps.toList l h).toArray⟩)) else none) = some y := hy
      obtain ⟨h1, h2⟩ := ite_some hy
      cases h2
      refine .inr ⟨z, rfl, of_decide_eq_true h1, ?_⟩
      have e0 : cutS z l h = ⟨(cutL z.cps.toList l h).toArray⟩ := by
        unfold cutS cutL
        rw [show z.cps.toList.length = z.length from by simp [Str.length]]
      rw [e0]
      exact PostG.ret0 p4 s3 (.d (.str (strOk_of fun c m => strOk_mem hz (cutL_mem (by simpa using m)))))
    | _ => cases hy
  | r hr =>
    rename_i n q
    have hy : (match S3[n]? with
      | some (.lst xs) => (ds? (cutL xs l h)).map fun ds => Bv.X.d (.lst ds)
      | _ => none) = some y := hy
    cases z : S3[n]? with
    | none => rw [z] at hy; cases hy
    | some ob =>
      rw [z] at hy
      cases ob with
      | lst xs =>
        obtain ⟨ds, h1, h2⟩ := Option.map_eq_some_iff.mp (show (ds? (cutL xs l h)).map (fun ds => Bv.X.d (.lst ds)) = some y from hy)
        subst h2
        obtain ⟨vs, h3, h4⟩ := s3.ob n _ q z hr
        exact .inl (.inl ⟨q, vs, rfl, .inl (.inl h3), fun p hp => PostG.ret p4 s3 (upd_keep hp) (.d (new_lst (fun z hz => s3.thereW hz) hp (AXs.ds (pair_cut h4 l h) h1)))⟩)
      | _ => cases hy

/-! ### xs[i] = e -/
def setO (S : Sto) (o i v : Bv.X) : Option Sto := match o, intX i with
  | .r n, some k => (match S[n]? with
    | some (.lst xs) => (ixN xs.length k).map fun j => S.set n (.lst (xs.set j v))
    | _ => none)
  | _, _ => none
def s_sub (mo mi m : M) : MS := fun e S => (m e S).so e fun v S1 => (mo e S1).so e fun o S2 => (mi e S2).so e fun i S3 => match setO S3 o i v with
  | some S4 => .go (.nx e) S4
  | none => .bad
theorem Paired.setP {α β : Type} {F : α → β → Prop} {a : α} {b : β} (h : F a b) : ∀ {l : List α} {r : List β} (j : Nat), Paired F l r → Paired F (l.set j a) (r.set j b)
  | _, _, _, .nil => .nil
  | _, _, 0, .cons _ t => .cons h t
  | _, _, j + 1, .cons x t => .cons x (Paired.setP h j t)
/-- a list of the store is changed -/
theorem Sta.putL {K : PySem.W.Frag} {Z : Wd} {ρ : List Addr} {S : Sto} {H : Hp} {n : Nat} {q : Addr} {xs : List Bv.X} {vs us : List V} (s : Sta K Z ρ S H) (hn : ρ[n]? = some q) (hq : H q = some (.lst us)) (a : AXs K (Wn Z ρ) ρ H xs vs) : Sta K Z ρ (S.set n (.lst xs)) (upd H q (.lst vs)) ∧ Go ρ H ρ (upd H q (.lst vs)) :=
  s.put hn (fun _ _ z => by rw [hq] at z; cases z) ⟨vs, upd_same, AXs.mv (fun b o h z => ⟨h, by rw [upd_ne (fun y => h (.inr (by rw [y]; exact List.mem_of_getElem? hn)))]; exact z⟩) (List.prefix_refl _) a⟩
theorem mp_sub (ho : ME X Wx o mo) (hi : ME X Wx i mi) (ha : ME X Wx a m) (hs : swapsWithSole [.Subscript o i p] a pos.line X.env = pure false := by rfl) (hw : swappedStores [.Subscript o i p] a X.env = pure none := by rfl)
    (h1 : (assignEach [.Subscript o i p] X.env).map (·.2) = [assign (.Subscript o i p) X.env] := by rfl)
    (h2 : ∀ v, assign (.Subscript o i p) X.env v = (do
      let ov ← holding [v] (eval o X.env)
      let iv ← holding [v, ov] (eval i X.env)
      standAt p
      holding [v, ov, iv] (setItem ov iv v)
      release [v, ov, iv] []) := by intro _; rfl) : MP X Wx (.Assign [.Subscript o i p] a pos) (s_sub mo mi m) := PS.of (ps_asg ha (pg_sub ho hi set_list h2) hs hw h1) fun D σ H ⟨Z, ρ, e, S, st, ev, q⟩ => by
  refine so_bind st ev q fun ρ1 H1 v x S1 s1 g1 ev1 a1 q1 => ?_
  refine so_bind s1 ev1 q1 fun ρ2 H2 ov y S2 s2 g2 ev2 a2 q2 => ?_
  refine so_bind s2 ev2 q2 fun ρ3 H3 iv z S3 s3 g3 ev3 a3 q3 => ?_
  have b1 := (a1.mv (g2.mv s1) g2.pre).mv (g3.mv s2) g3.pre
  have b2 := a2.mv (g3.mv s2) g3.pre
  cases q4 : setO S3 y z x with
  | none => rw [q4] at q3; exact q3.elim
  | some S4 =>
    rw [q4] at q3
    cases y with
    | d d => cases q4
    | r n =>
      have q4 : (match intX z with
        | some k => (match S3[n]? with
          | some (.lst xs) => (ixN xs.length k).map fun j => S3.set n (.lst (xs.set j x))
          | _ => none)
        | none => none) = some S4 := by
        cases hz : intX z with
        | none => simp [setO, hz] at q4
        | some k => simp only [setO, hz] at q4; exact q4
      cases hz : intX z with
      | none => rw [hz] at q4; cases q4
      | some k =>
        rw [hz] at q4
        have q4 : (match S3[n]? with
          | some (.lst xs) => (ixN xs.length k).map fun j => S3.set n (.lst (xs.set j x))
          | _ => none) = some S4 := q4
        cases hs : S3[n]? with
        | none => rw [hs] at q4; cases q4
        | some ob =>
          rw [hs] at q4
          cases ob with
          | lst xs =>
            obtain ⟨j, h1, h2⟩ := Option.map_eq_some_iff.mp (show (ixN xs.length k).map (fun j => S3.set n (.lst (xs.set j x))) = some S4 from q4)
            subst h2
            cases b2 with
            | r b2 =>
              rename_i q
              obtain ⟨vs, h3, h4⟩ := s3.ob n _ q hs b2
              have e3 := a3.int hz
              subst e3
              obtain ⟨s5, g5⟩ := s3.putL b2 h3 (Paired.setP b1 j h4)
              exact ⟨q, vs, k, j, rfl, rfl, h3, by rw [← Paired.length h4]; exact h1, q3 ρ3 _ σ s5 g5 (ev3.mv (g5.mv s3) g5.pre)⟩
          | _ => cases q4

/-! ### methods of lists -/
def m_bm (ty : Sto → Bv.X → Bool) (g : Bv.X → List Bv.X → Sto → R Bv.X) (mo : M) (ms : MG (List Bv.X)) : M := fun e S => (mo e S).bind fun x S1 => if ty S1 x then (ms e S1).bind fun xs S2 => g x xs S2 else .bad
/-- a method's rule, by value -/
def MtX (K : PySem.W.Frag) (r : V → List V → Hp → VK → Prop) (g : Bv.X → List Bv.X → Sto → R Bv.X) : Prop := ∀ (Z : Wd) (ρ : List Addr) (S : Sto) (H : Hp) (Wx : WX) (σ : L2.St) (x : Bv.X) (v : V) (xs : List Bv.X) (vs : List V) (Q : VK), Sta K Z ρ S H → AX K (Wn Z ρ) ρ H x v → AXs K (Wn Z ρ) ρ H xs vs → PostG (AX K) K Z ρ H Wx σ Q (g x xs S) → r v vs H Q
theorem isLst_ty {Z : Wd} {ρ : List Addr} {S : Sto} {H : Hp} {x : Bv.X} {v : V} (st : Sta X.K Z ρ S H) (a : AX X.K (Wn Z ρ) ρ H x v) (h : isLst S x = true) : tyV X.K "list" v H := by
  cases a with
  | d a =>
    cases a with
    | lst w r hs => exact .inl ⟨rfl, _, .inl (.inl r)⟩
    | _ => cases h
  | r e =>
    rename_i n q
    have h : (match S[n]? with
      | some (.lst _) => true
      | _ => false) = true := h
    cases z : S[n]? with
    | none => rw [z] at h; cases h
    | some ob =>
      rw [z] at h
      cases ob with
      | lst xs =>
        obtain ⟨vs, h3, _⟩ := st.ob n _ q z e
        exact .inl ⟨rfl, vs, .inl (.inl h3)⟩
      | _ => cases h
variable {es : List Expr} {id : String} {name : Str} {r : V → List V → Hp → VK → Prop} {g : Bv.X → List Bv.X → Sto → R Bv.X} {cpos : Pos}
theorem me_lm (slot : Slot "list" name id) (hty : typeOf (.builtin id) = pure (.type "method_descriptor")) (hm : MtR X id r) (h : MtX X.K r g) (ho : ME X Wx o mo) (ha : MA X Wx (e :: es) ms) (hbase : attributeBase o name X.env (eval o X.env) = eval o X.env := by rfl)
    (hfew : ((backTo cpos (starEach (e :: es) X.env)).all (fun x => !x.1) && (backToKw cpos (keywordEach [] X.env)).all (fun x => x.1.isSome)
      && decide ((e :: es).length + ([] : List Keyword).length + (if ([] : List Keyword).isEmpty then 0 else 1) < 30)) = true := by rfl)
    (hline : (apos.endLine == cpos.line) = true := by rfl) (hs : starEach (e :: es) X.env = (false, eval e X.env) :: starEach es X.env := by rfl) (hplain : (backTo cpos (starEach es X.env)).any (·.1) = false := by rfl) :
    ME X Wx (.Call (.Attribute o name apos) (e :: es) [] cpos) (m_bm isLst g mo ms) := PE.of (pe_bm PySem.F.plainAttrs_list slot hty hm ho ha hbase hfew hline hs hplain) fun σ H Q ⟨Z, ρ, e, S, st, ev, p⟩ => tt_bind st ev p fun ρ1 H1 v x S1 s1 g1 ev1 a1 p1 => by
  have p1 : PostG (AX X.K) X.K Z ρ1 H1 Wx σ Q (if isLst S1 x then (ms e S1).bind fun xs S2 => g x xs S2 else .bad) := p1
  split at p1
  · rename_i hl
    exact ⟨isLst_ty s1 a1 hl, tt_bind s1 ev1 p1 fun ρ2 H2 vs xs S2 s2 g2 ev2 a2 p2 => h Z ρ2 S2 H2 Wx σ x v xs vs Q s2 (a1.mv (g2.mv s1) g2.pre) a2 p2⟩
  · exact p1.elim
theorem me_lm0 (slot : Slot "list" name id) (hty : typeOf (.builtin id) = pure (.type "method_descriptor")) (hm : MtR X id r) (h : MtX X.K r g) (ho : ME X Wx o mo) (hbase : attributeBase o name X.env (eval o X.env) = eval o X.env := by rfl) (hline : (apos.endLine == cpos.line) = true := by rfl) :
    ME X Wx (.Call (.Attribute o name apos) [] [] cpos) (m_bm isLst g mo m_nil) := PE.of (pe_bm0 PySem.F.plainAttrs_list slot hty hm ho hbase hline) fun σ H Q ⟨Z, ρ, e, S, st, ev, p⟩ => tt_bind st ev p fun ρ1 H1 v x S1 s1 g1 ev1 a1 p1 => by
  have p1 : PostG (AX X.K) X.K Z ρ1 H1 Wx σ Q (if isLst S1 x then g x [] S1 else .bad) := p1
  split at p1
  · rename_i hl
    exact ⟨isLst_ty s1 a1 hl, h Z ρ1 S1 H1 Wx σ x v [] [] Q s1 a1 .nil p1⟩
  · exact p1.elim
def lstOf (S : Sto) : Bv.X → Option (Nat × List Bv.X)
  | .r n => (match S[n]? with
    | some (.lst xs) => some (n, xs)
    | _ => none)
  | _ => none
theorem lstOf_inv {K : PySem.W.Frag} {Z : Wd} {ρ : List Addr} {S : Sto} {H : Hp} {x : Bv.X} {v : V} {n : Nat} {xs : List Bv.X} (st : Sta K Z ρ S H) (a : AX K (Wn Z ρ) ρ H x v) (h : lstOf S x = some (n, xs)) : ∃ q vs, v = .ref q ∧ ρ[n]? = some q ∧ H q = some (.lst vs) ∧ AXs K (Wn Z ρ) ρ H xs vs := by
  cases a with
  | d a => cases h
  | r e =>
    rename_i k q
    have h : (match S[k]? with
      | some (.lst xs) => some (k, xs)
      | _ => none) = some (n, xs) := h
    cases z : S[k]? with
    | none => rw [z] at h; cases h
    | some ob =>
      rw [z] at h
      cases ob with
      | lst ys =>
        cases h
        obtain ⟨vs, h3, h4⟩ := st.ob _ _ q z e
        exact ⟨q, vs, rfl, e, h3, h4⟩
      | _ => cases h
def g_append : Bv.X → List Bv.X → Sto → R Bv.X := fun x ys S => match lstOf S x, ys with
  | some (n, xs), [y] => if decide (xs.length < sizeLine) then .ok (.d .non) (S.set n (.lst (xs ++ [y]))) else .bad
  | _, _ => .bad
theorem b_append {K : PySem.W.Frag} : MtX K rAppend g_append := fun Z ρ S H Wx σ x v ys ws Q st a as p => by
  unfold g_append at p
  split at p
  · rename_i n xs y hl
    split at p
    · rename_i hz
      obtain ⟨q, vs, rfl, e, h3, h4⟩ := lstOf_inv st a hl
      cases as with
      | cons h t =>
        cases t
        have hz := of_decide_eq_true hz
        obtain ⟨s5, g5⟩ := st.putL e h3 (Paired.append h4 (.cons h .nil))
        exact ⟨q, vs, _, rfl, rfl, h3, by rw [← Paired.length h4]; exact hz, p ρ _ .non s5 g5 (.d .non)⟩
    · exact p.elim
  · exact p.elim
def g_pop0 : Bv.X → List Bv.X → Sto → R Bv.X := fun x ys S => match lstOf S x, ys with
  | some (n, xs), [] => (match xs[xs.length - 1]? with
    | some y => .ok y (S.set n (.lst xs.dropLast))
    | none => .bad)
  | _, _ => .bad
theorem Paired.dropL {α β : Type} {F : α → β → Prop} {l : List α} {r : List β} (h : Paired F l r) : Paired F l.dropLast r.dropLast := by
  rw [List.dropLast_eq_take, List.dropLast_eq_take, Paired.length h]
  exact AXs.takeP _ h
theorem Paired.get {α β : Type} {F : α → β → Prop} {l : List α} {r : List β} (p : Paired F l r) {j : Nat} {a : α} (e : l[j]? = some a) : ∃ b, r[j]? = some b ∧ F a b := by
  induction p generalizing j with
  | nil => simp at e
  | cons x _ ih =>
    cases j with
    | zero => simp at e; subst e; exact ⟨_, rfl, x⟩
    | succ n => simp at e; obtain ⟨b, h1, h2⟩ := ih e; exact ⟨b, by simpa using h1, h2⟩
theorem b_pop0 {K : PySem.W.Frag} : MtX K rPop g_pop0 := fun Z ρ S H Wx σ x v ys ws Q st a as p => by
  unfold g_pop0 at p
  split at p
  · rename_i n xs hl
    obtain ⟨q, vs, rfl, e, h3, h4⟩ := lstOf_inv st a hl
    cases as
    cases hx : xs[xs.length - 1]? with
    | none => rw [hx] at p; exact p.elim
    | some y =>
      rw [hx] at p
      obtain ⟨w, h5, h6⟩ := Paired.get h4 hx
      obtain ⟨s5, g5⟩ := st.putL e h3 (Paired.dropL h4)
      exact ⟨q, vs, w, rfl, rfl, h3, by rw [← Paired.length h4]; exact h5, p ρ _ w s5 g5 (h6.mv (g5.mv st) g5.pre)⟩
  · exact p.elim
def g_popAt : Bv.X → List Bv.X → Sto → R Bv.X := fun x ys S => match lstOf S x, ys with
  | some (n, xs), [y] => (match intX y with
    | some i => if decide (-(2 ^ 63) ≤ i ∧ i < 2 ^ 63) then (match seqIndex? i xs.length with
      | some k => (match xs[k]? with
        | some z => .ok z (S.set n (.lst (xs.eraseIdx k)))
        | none => .bad)
      | none => .bad) else .bad
    | none => .bad)
  | _, _ => .bad
theorem Paired.eraseP {α β : Type} {F : α → β → Prop} : ∀ {l : List α} {r : List β} (j : Nat), Paired F l r → Paired F (l.eraseIdx j) (r.eraseIdx j)
  | _, _, _, .nil => .nil
  | _, _, 0, .cons _ t => t
  | _, _, j + 1, .cons x t => .cons x (Paired.eraseP j t)
theorem b_popAt {K : PySem.W.Frag} : MtX K rPopAt g_popAt := fun Z ρ S H Wx σ x v ys ws Q st a as p => by
  unfold g_popAt at p
  split at p
  · rename_i n xs y hl
    cases as with
    | cons h t =>
      cases t
      cases hi : intX y with
      | none => rw [hi] at p; exact p.elim
      | some i =>
        rw [hi] at p
        have p : PostG (AX K) K Z ρ H Wx σ Q (if decide (-(2 ^ 63) ≤ i ∧ i < 2 ^ 63) then (match seqIndex? i xs.length with
          | some k => (match xs[k]? with
            | some z => .ok z (S.set n (.lst (xs.eraseIdx k)))
            | none => .bad)
          | none => .bad) else .bad) := p
        split at p
        · rename_i hz
          have hz := of_decide_eq_true hz
          obtain ⟨q, vs, rfl, e, h3, h4⟩ := lstOf_inv st a hl
          cases hk : seqIndex? i xs.length with
          | none => rw [hk] at p; exact p.elim
          | some k =>
            rw [hk] at p
            have p : PostG (AX K) K Z ρ H Wx σ Q (match xs[k]? with
              | some z => .ok z (S.set n (.lst (xs.eraseIdx k)))
              | none => .bad) := p
            cases hx : xs[k]? with
            | none => rw [hx] at p; exact p.elim
            | some z =>
              rw [hx] at p
              obtain ⟨w, h5, h6⟩ := Paired.get h4 hx
              obtain ⟨s5, g5⟩ := st.putL e h3 (Paired.eraseP k h4)
              exact ⟨q, vs, i, k, w, rfl, by rw [h.int hi], h3, hz.1, hz.2, by rw [← Paired.length h4]; exact hk, h5, p ρ _ w s5 g5 (h6.mv (g5.mv st) g5.pre)⟩
        · exact p.elim
  · exact p.elim

/-! ### sep.join(xs) -/
def strs? : List Bv.X → Option (List Str)
  | [] => some []
  | .d (.str z) :: r => (strs? r).map (z :: ·)
  | _ :: _ => none
theorem strs_inv {K : PySem.W.Frag} {W : Wd} {ρ : List Addr} {H : Hp} : ∀ {xs : List Bv.X} {vs : List V} {l : List Str}, AXs K W ρ H xs vs → strs? xs = some l → vs = l.map V.str ∧ ∀ z ∈ l, PyData.strOk z = true
  | _, _, _, .nil, e => by cases e; exact ⟨rfl, fun z h => by simp at h⟩
  | x :: r, _, l, .cons h t, e => by
    cases x with
    | r n => simp [strs?] at e
    | d d =>
      cases d with
      | str b =>
        obtain ⟨l2, h1, h2⟩ := Option.map_eq_some_iff.mp (show (strs? r).map (b :: ·) = some l from e)
        subst h2
        cases h with
        | d h =>
          cases h with
          | str hz =>
            obtain ⟨h3, h4⟩ := strs_inv t h1
            exact ⟨by rw [h3]; rfl, fun z m => (List.mem_cons.mp m).elim (fun q => by rw [q]; exact hz) (h4 z)⟩
      | _ => simp [strs?] at e
theorem strOk_join {a : Str} (ha : PyData.strOk a = true) : ∀ {ys : List Str}, (∀ z ∈ ys, PyData.strOk z = true) → PyData.strOk (Str.join a ys) = true
  | [], _ => strOk_of fun c m => by simp [Str.join, Str.empty] at m
  | [x], h => h x (by simp)
  | x :: y :: r, h => by
    show PyData.strOk (x ++ a ++ Str.join a (y :: r)) = true
    exact strOk_append (strOk_append (h x (by simp)) ha) (strOk_join ha fun z m => h z (List.mem_cons_of_mem _ m))
def g_join (a : Str) (y : Bv.X) (S : Sto) : R Bv.X := match (items S y).bind strs? with
  | some ys => if decide ((ys.map (·.length)).sum + ys.length * a.length ≤ 16777216) then .ok (.d (.str (Str.join a ys))) S else .bad
  | none => .bad
/-- a text's method with one argument -/
def m_sm1 (g : Str → Bv.X → Sto → R Bv.X) (mo m : M) : M := fun e S => (mo e S).bind fun x S1 => match x with
  | .d (.str a) => (m e S1).bind fun y S2 => g a y S2
  | _ => .bad
theorem me_join (ho : ME X Wx o mo) (he : ME X Wx e m) (hs : starEach [e] X.env = [(false, eval e X.env)] := by rfl) (hbase : attributeBase o "join" X.env (eval o X.env) = eval o X.env := by rfl) (hline : (apos.endLine == pos.line) = true := by rfl) :
    ME X Wx (.Call (.Attribute o "join" apos) [e] [] pos) (m_sm1 g_join mo m) := PE.of (pe_join ho he hs hbase hline) fun σ H Q ⟨Z, ρ, e, S, st, ev, p⟩ => tt_bind st ev p fun ρ1 H1 v x S1 s1 g1 ev1 a1 p1 => by
  cases a1 with
  | r _ => exact p1.elim
  | d a =>
    cases a with
    | str hz =>
      rename_i z
      refine ⟨⟨z, rfl⟩, tt_bind s1 ev1 (show PostG (AX X.K) X.K Z ρ1 H1 Wx σ Q ((m e S1).bind fun y S2 => g_join z y S2) from p1) fun ρ2 H2 u y S2 s2 g2 ev2 a2 p2 => ?_⟩
      unfold g_join at p2
      cases q : (items S2 y).bind strs? with
      | none => rw [q] at p2; exact p2.elim
      | some ys =>
        rw [q] at p2
        obtain ⟨zs, h1, h2⟩ := Option.bind_eq_some_iff.mp q
        obtain ⟨b, us, rfl, hq, hp⟩ := a2.items s2 h1
        obtain ⟨rfl, hk⟩ := strs_inv hp h2
        have p2 : PostG (AX X.K) X.K Z ρ2 H2 Wx σ Q (if decide ((ys.map (·.length)).sum + ys.length * z.length ≤ 16777216) then .ok (.d (.str (Str.join z ys))) S2 else .bad) := p2
        split at p2
        · rename_i hl
          refine ⟨z, b, ys, rfl, rfl, hq.symm, of_decide_eq_true hl, ?_⟩
          rw [show Txt.join z ys = Str.join z ys from StrLaws.glued_eq_join ..]
          exact PostG.ret0 p2 s2 (.d (.str (strOk_join hz hk)))
        · exact p2.elim
    | _ => exact p1.elim

/-! ### a, b = e1, e2 -/
def s_par (i j : Nat) (ms : MG (List Bv.X)) : MS := fun e S => (ms e S).so e fun xs S1 => match xs with
  | [x, y] => .go (.nx ((e.set i (some x)).set j (some y))) S1
  | _ => .bad
theorem mp_par {i j : Nat} {x y : Str} {px py pt : Pos} {kt k2 pt2} (hc : X.calm = true) (hN : X.N.Nodup) (hi : X.N[i]? = some x) (hj : X.N[j]? = some y) (hij : i ≠ j) (hx : X.env.scope.names.lookup x = some .local) (hy : X.env.scope.names.lookup y = some .local) (ha : MA X Wx [a, b] ms)
    (hw : swappedStores [.Tuple [.Name x px, .Name y py] kt pt] (.Tuple [a, b] k2 pt2) X.env = pure (some [x, y]) := by rfl) (hs : swapsWithSole [.Tuple [.Name x px, .Name y py] kt pt] (.Tuple [a, b] k2 pt2) pos.line X.env = pure false := by rfl) :
    MP X Wx (.Assign [.Tuple [.Name x px, .Name y py] kt pt] (.Tuple [a, b] k2 pt2) pos) (s_par i j ms) := PS.of (ps_par hc hN hi hj hij hx hy ha hw hs) fun D σ H ⟨Z, ρ, e, S, st, ev, p⟩ => so_bind (rel := AXs X.K) st ev p fun ρ1 H1 vs xs S1 s1 g1 ev1 a1 p1 => by
  match xs, vs, a1, p1 with
  | [x, y], _, .cons h1 (.cons h2 .nil), p1 => exact ⟨_, _, rfl, p1.next s1 ((ev1.set h1).set h2)⟩
  | [], _, _, p1 => exact p1.elim
  | [_], _, _, p1 => exact p1.elim
  | _ :: _ :: _ :: _, _, _, p1 => exact p1.elim
end
end Bv
set_option Elab.async false
set_option linter.all false
set_option maxRecDepth 100000
set_option maxHeartbeats 4000000
/-! By value: isinstance, is of bools, repr, str. -/
namespace Bv
open PySem PySem.Spec L2
open PyProof.Rows hiding St
variable [HasW]

/-! ### isinstance -/
structure OwnIs (K : PySem.W.Frag) (C : Str) : Prop where
  cl : Cls K (He.ga K C)
  ha : PySem.W.findIn K (.ref (He.ga K C)) "__class__" = some (some (.builtin "object.__class__"))
  hn : PySem.W.specialIn K (.builtin "object.__class__") "__get__" = some (some (.builtin "getset_descriptor.__get__"))
  htk : PySem.W.takesIn K (.builtin "object.__class__") = some true
  hm : PySem.W.mroIn K (He.ga K C) (.type "object") = some true
/-- the answers for built-in kinds, for own classes -/
structure IsT (K : PySem.W.Frag) (u : Value) (tab : List (String × Bool)) (own : List (Str × Bool)) : Prop where
  bt : ∀ k b, tab.lookup k = some b → PySem.W.kitOne K (.type k) u = some b
  ow : ∀ C b, own.lookup C = some b → OwnIs K C ∧ PySem.W.kitOne K (.ref (He.ga K C)) u = some b
def kindD : D → Option String
  | .non => some "NoneType"
  | .bl _ => some "bool"
  | .int _ => some "int"
  | .str _ => some "str"
  | .tup _ => some "tuple"
  | .lst _ => some "list"
  | .scr _ => some "list"
  | .dic _ => some "dict"
  | _ => none
def isX (tab : List (String × Bool)) (own : List (Str × Bool)) (S : Sto) : X → Option Bool
  | .d (.obj C _) => own.lookup C
  | .d d => (kindD d).bind fun k => tab.lookup k
  | .r n => match S[n]? with
    | some (.lst _) => tab.lookup "list"
    | some (.dic _) => tab.lookup "dict"
    | some (.fdc _) => tab.lookup "dict"
    | some (.ins C _) => own.lookup C
    | _ => none
def m_isi (tab : List (String × Bool)) (own : List (Str × Bool)) (m : M) : M := fun e S => (m e S).bind fun x S1 => optR ((isX tab own S1 x).map fun b => .d (.bl b)) S1
section
variable {X : Cx} {Wx : WX} {pos p p2 apos : Pos} {a b c o i e : Expr} {ma mb mc m mo mi : M} {ms : MG (List Bv.X)}
theorem Tp.tyX {K : PySem.W.Frag} {W : Wd} {H : Hp} {a : Addr} {xs : List V} (t : Tp K W H a xs) : TyX K H (.ref a) (.type "tuple") := by
  rcases t with ⟨_, h⟩ | ⟨o, its, n, h1, h2, _⟩
  · exact .base (.tup h)
  · exact .kTuple h1 h2
theorem isX_ty {K : PySem.W.Frag} {u : Value} {tab : List (String × Bool)} {own : List (Str × Bool)} (T : IsT K u tab own) {Z : Wd} {ρ : List Addr} {S : Sto} {H : Hp} {x : Bv.X} {v : V} {k : Bool} (st : Sta K Z ρ S H) (a : AX K (Wn Z ρ) ρ H x v) (h : isX tab own S x = some k) :
    ∃ t, TyX K H v t ∧ PySem.W.kitOne K t u = some k := by
  cases a with
  | d a =>
    cases a with
    | obj w r hs =>
      obtain ⟨O, q⟩ := T.ow _ _ h
      exact ⟨_, .base (.ins r O.cl O.ha O.hn O.htk O.hm), q⟩
    | non => exact ⟨_, .base .non, T.bt _ _ h⟩
    | bl k => exact ⟨_, .base (.bl k), T.bt _ _ h⟩
    | int k => exact ⟨_, .base (.int k), T.bt _ _ h⟩
    | str k => exact ⟨_, .base (.str _), T.bt _ _ h⟩
    | tup t hs => exact ⟨_, t.tyX, T.bt _ _ h⟩
    | lst w r hs => exact ⟨_, .base (.lst r), T.bt _ _ h⟩
    | scr r =>
      rcases r with ⟨_, r | ⟨ob, r⟩⟩ | ⟨o, its, n, r1, r2, _⟩
      · exact ⟨_, .base (.lst r), T.bt _ _ h⟩
      · exact ⟨_, .base (.frz r), T.bt _ _ h⟩
      · exact ⟨_, .kList r1 r2, T.bt _ _ h⟩
    | dic w r hs => exact ⟨_, .fDict r, T.bt _ _ h⟩
    | gl x => cases h
  | r e =>
    rename_i n q
    have h : (match S[n]? with
      | some (.lst _) => tab.lookup "list"
      | some (.dic _) => tab.lookup "dict"
      | some (.fdc _) => tab.lookup "dict"
      | some (.ins C _) => own.lookup C
      | _ => none) = some k := h
    cases z : S[n]? with
    | none => rw [z] at h; cases h
    | some ob =>
      rw [z] at h
      have y := st.ob n _ q z e
      cases ob with
      | lst xs => obtain ⟨vs, h1, _⟩ := y; exact ⟨_, .base (.lst h1), T.bt _ _ h⟩
      | dic xs => obtain ⟨vs, h1, _⟩ := y; exact ⟨_, .base (.dK h1), T.bt _ _ h⟩
      | fdc xs => obtain ⟨o, vs, h1, _⟩ := y; exact ⟨_, .fDict h1, T.bt _ _ h⟩
      | tdc xs => cases h
      | ins C fs =>
        obtain ⟨dx, vs, h1, _⟩ := y
        obtain ⟨O, q⟩ := T.ow _ _ h
        exact ⟨_, .base (.ins h1 O.cl O.ha O.hn O.htk O.hm), q⟩
theorem me_isi {tab : List (String × Bool)} {own : List (Str × Bool)} {u : Value} {cv : V} (hg : Gl X "isinstance") (hm : X.mg "isinstance" = none) (he : ME X Wx a m) (hc : PE X c (tC cv)) (T : IsT X.K u tab own) (k : ClsV cv u)
    (hs : starEach [a, c] X.env = (false, eval a X.env) :: starEach [c] X.env := by rfl) (hs2 : starEach [c] X.env = (false, eval c X.env) :: starEach [] X.env := by rfl) (hpl : (backTo pos (starEach [c] X.env)).any (·.1) = false := by rfl) :
    ME X Wx (.Call (.Name "isinstance" p) [a, c] [] pos) (m_isi tab own m) := PE.of (pe_callB call_isi hg hm (by rfl) (pa_cons he (pa_cons hc pa_nil hs2) hs) (by decide) (by decide) hs hpl) fun σ H Q ⟨Z, ρ, e, S, st, ev, q⟩ => tt_bind st ev q fun ρ1 H1 v x S1 s1 g1 ev1 a1 p1 => by
  obtain ⟨w, hw, p2⟩ := p1.opt
  obtain ⟨b, h1, h2⟩ := Option.map_eq_some_iff.mp hw
  subst h2
  obtain ⟨t, ty, kt⟩ := isX_ty T s1 a1 h1
  exact ⟨v, cv, t, u, b, rfl, k, ty, kt, PostG.ret0 p2 s1 (.d (.bl b))⟩
omit [HasW] in
theorem lk_mem {β : Type} {k : String} {b : β} : ∀ {l : List (String × β)}, l.lookup k = some b → (k, b) ∈ l
  | [], h => by cases h
  | (k', b') :: r, h => by
    rw [List.lookup_cons] at h
    cases q : k == k' with
    | true =>
      rw [q] at h
      cases h
      rw [beq_iff_eq.mp q]
      exact List.mem_cons_self
    | false => rw [q] at h; exact List.mem_cons_of_mem _ (lk_mem h)
/-- a built-in class: its name -/
def tabOf (T : String) : List (String × Bool) := ["NoneType", "bool", "int", "str", "tuple", "list", "dict"].filterMap fun k => (kitB k T).map fun b => (k, b)
theorem isT_ty {K : PySem.W.Frag} {T : String} {own : List (Str × Bool)} (ow : ∀ C b, own.lookup C = some b → OwnIs K C ∧ PySem.W.kitOne K (.ref (He.ga K C)) (.type T) = some b) : IsT K (.type T) (tabOf T) own := ⟨fun k b h => by
  have h := lk_mem h
  unfold tabOf at h
  obtain ⟨k', _, h2⟩ := List.mem_filterMap.mp h
  obtain ⟨b', h3, h4⟩ := Option.map_eq_some_iff.mp h2
  cases h4
  exact kit_ty h3, ow⟩

/-! ### is, is not -/
def isB (a b : D) : Option D := match a, b with
  | .bl x, .bl y => some (.bl (decide (x = y)))
  | _, _ => none
def isnB (a b : D) : Option D := match a, b with
  | .bl x, .bl y => some (.bl (!decide (x = y)))
  | _, _ => none
theorem o_isB {K : PySem.W.Frag} : Op2 K rIsB isB := fun W H d1 d2 v1 v2 d Q hw a1 a2 e k => by
  cases d1 <;> cases d2 <;> first | (cases e; exact ⟨_, _, a1.bl_inv, a2.bl_inv, k H _ (Same.refl H) (.bl _)⟩) | cases e
theorem o_isnB {K : PySem.W.Frag} : Op2 K rNotB isnB := fun W H d1 d2 v1 v2 d Q hw a1 a2 e k => by
  cases d1 <;> cases d2 <;> first | (cases e; exact ⟨_, _, a1.bl_inv, a2.bl_inv, k H _ (Same.refl H) (.bl _)⟩) | cases e

/-! ### repr -/
/-- as it is shown, where that is known -/
def shownOf (d : D) : Option Str := match d.py with
  | some p => if p.showable && !p.hasDict && dOk p && decide (p.shown.length ≤ sizeLine) && PyData.strOk p.shown then some p.shown else none
  | none => none
def g_repr : List Bv.X → Sto → R Bv.X
  | [x], S => (match (x.get S).bind shownOf with
    | some z => .ok (.d (.str z)) S
    | none => .bad)
  | _, _ => .bad
/-- repr of data at an address -/
abbrev rReprA (K : PySem.W.Frag) : List V → Hp → VK → Prop := fun xs H Q => ∃ (a : Addr) (p : PyData), xs = [.ref a] ∧ Dp K H (.ref a) p ∧ p.showable = true ∧ p.hasDict = false ∧ p.depth ≤ 64 ∧ p.shown.length ≤ sizeLine ∧ Q (.str p.shown) H
theorem c_repr (gu : X.A.guards = some []) (room : Room 0 X.A) : CallR X (.builtin "repr") (rReprA X.K) := fun pins s σ H xs us Q I r h => by
  obtain ⟨a, p, rfl, dp, h1, h2, h3, h4, q⟩ := h
  cases r with
  | cons r t =>
    cases t
    cases r
    obtain ⟨as, rd⟩ := Dp.reads I p _ _ dp rfl
    refine repr_of_reads' rd h1 (fun z => absurd z (by rw [h2]; simp)) gu (by have := room.un; omega) (fun b o e => e) (fun h' u tk k => ?_) h4
    exact ⟨.str p.shown, H, I.kept k, ⟨u, rfl⟩, q⟩
def isBox : D → Bool
  | .lst _ | .tup _ | .dic _ | .scr _ => true
  | _ => false
theorem AW.is_ref {K : PySem.W.Frag} {W : Wd} {H : Hp} {d : D} {v : V} (h : AW K W H d v) (hr : isBox d = true) : ∃ a, v = .ref a := by
  cases h with
  | av h => cases h <;> first | exact ⟨_, rfl⟩ | cases hr
  | lst _ _ => exact ⟨_, rfl⟩
  | fdc _ _ => exact ⟨_, rfl⟩
def g_reprA : List Bv.X → Sto → R Bv.X
  | [x], S => (match x.get S with
    | some d => if isBox d then (match shownOf d with
      | some z => .ok (.d (.str z)) S
      | none => .bad) else .bad
    | none => .bad)
  | _, _ => .bad
theorem b_repr {K : PySem.W.Frag} : BinX K (rReprA K) g_reprA := fun Z ρ S H Wx σ xs vs Q st a h => by
  unfold g_reprA at h
  split at h
  · rename_i x
    cases a with
    | cons ha t =>
      cases t
      cases q : x.get S with
      | none => rw [q] at h; exact h.elim
      | some d =>
        rw [q] at h
        have h : PostG (AX K) K Z ρ H Wx σ Q (if isBox d then (match shownOf d with
          | some z => .ok (.d (.str z)) S
          | none => .bad) else .bad) := h
        split at h
        · rename_i hb
          cases q2 : shownOf d with
          | none => rw [q2] at h; exact h.elim
          | some z =>
            rw [q2] at h
            have w := ha.get st q
            obtain ⟨a, rfl⟩ := w.is_ref hb
            unfold shownOf at q2
            cases q3 : d.py with
            | none => rw [q3] at q2; cases q2
            | some p =>
              rw [q3] at q2
              obtain ⟨h1, h2⟩ := ite_some q2
              cases h2
              simp only [Bool.and_eq_true, decide_eq_true_eq] at h1
              obtain ⟨⟨⟨⟨c1, c2⟩, c3⟩, c4⟩, c5⟩ := h1
              obtain ⟨dp, _⟩ := w.dp q3
              exact ⟨a, p, rfl, dp, c1, by simpa using c2, of_decide_eq_true c3, c4, PostG.ret0 h st (.d (.str c5))⟩
        · exact h.elim
  · exact h.elim

/-! ### str of an int, of a text -/
def g_strI : List Bv.X → Sto → R Bv.X
  | [.d (.int i)], S => if decide (i.natAbs.log2 < 1920) && PyData.strOk (toString i : String) then .ok (.d (.str (toString i : String))) S else .bad
  | [.d (.str z)], S => .ok (.d (.str z)) S
  | _, _ => .bad
abbrev rStrI : List V → Hp → VK → Prop := fun xs H Q => (∃ i, xs = [.int i] ∧ i.natAbs.log2 < 1920 ∧ Q (.str (toString i)) H) ∨ ∃ a, xs = [.str a] ∧ Q (.str a) H
theorem c_strI : CallR X (.type "str") rStrI := CallR.or call_str_int SkE.call_str_str
theorem b_strI {K : PySem.W.Frag} : BinX K rStrI g_strI := fun Z ρ S H Wx σ xs vs Q st a h => by
  unfold g_strI at h
  split at h
  · rename_i i
    obtain ⟨v, rfl, b⟩ := one_d a
    have e : v = .int i := by cases b; rfl
    split at h
    · rename_i hc
      obtain ⟨h1, h2⟩ := Bool.and_eq_true_iff.mp hc
      exact .inl ⟨i, by rw [e], of_decide_eq_true h1, PostG.ret0 h st (.d (.str h2))⟩
    · exact h.elim
  · rename_i z
    obtain ⟨v, rfl, b⟩ := one_d a
    have e : v = .str z := by cases b; rfl
    have hz : PyData.strOk z = true := by cases b with | str h => exact h
    exact .inr ⟨z, by rw [e], PostG.ret0 h st (.d (.str hz))⟩
  · exact h.elim
end
end Bv
set_option Elab.async false
set_option linter.all false
set_option maxRecDepth 100000
set_option maxHeartbeats 4000000
/-! By value: str, ==, != by own defs; isinstance of two types. -/
namespace Bv
open PySem PySem.Spec L2
open PyProof.Rows hiding St
variable [HasW]

abbrev EN : XK := fun _ _ _ => False
section
variable {X : Cx} {Wx : WX} {pos p p2 apos : Pos} {a b c o i e : Expr} {ma mb mc m mo mi : M} {ms : MG (List Bv.X)} {k n : Nat} {f : Addr} {fd : FuncData} {ps : List Str} {g : List D → PR} {C : Str}
/-- a def that does not raise, run within what is built in -/
theorem run_in {pins : List (Addr × Obj)} {σ : St} {H : Hp} {s : Shared} {Q : VK} {us : List Value} {vs : List V} {sp : Sp} {A : Around} {E : Value → Shared → Prop} (F : FnG X.prog X.w X.K X.mg X.base k f fd ps sp) (gu : A.guards = some []) (room : Room k A) (hb : Binds X.K fd ps []) (I : Inv X pins σ H s)
    (e0 : Env0 X.prog X.w X.K X.mg X.base A X.stack s H) (r : Vals vs us) (h : sp vs H Q EN) : wpAny (model X.prog X.w) A (call (.ref f) us) (EP X pins σ Q) E s := by
  have many : us.length = ps.length := r.length.symm.trans (F.len _ _ _ _ h)
  have bd := hb s us I.kIn (by rw [List.append_nil]; exact many)
  rw [List.append_nil] at bd
  refine wpAny_call (codeAny_mono (F.run A X.stack s H ⟨us, []⟩ us vs Q EN gu room e0 bd r h) fun y s' z => ?_)
  cases y with
  | error e =>
    obtain ⟨_, _, _, _, _, _, _, _, _, _, _, _, no⟩ := z
    exact no.elim
  | ok fl =>
    cases fl with
    | ret u => exact I.after z
    | next => exact z.elim
    | brk => exact z.elim
    | cont => exact z.elim
theorem ins_at {pins : List (Addr × Obj)} {σ : St} {H : Hp} {s : Shared} {a Ca dx : Addr} {fs : List (Str × V)} (I : Inv X pins σ H s) (h : H a = some (.ins Ca dx fs)) : ∃ ox od, PySem.W.InstAt s.heap a ox Ca od := by
  obtain ⟨mA, J, _⟩ := ins_get I.hok h
  obtain ⟨od, J2, _⟩ := J.look
  exact ⟨_, _, J2⟩

/-! ### str(o) -/
structure OwnStr (K : PySem.W.Frag) (C : Str) (f : Addr) : Prop where
  at_ : PySem.W.findIn K (.ref (He.ga K C)) "__str__" = some (some (.ref f))
  fn : PySem.W.isFn K (.ref f) = true
abbrev rStrO (K : PySem.W.Frag) (C : Str) (g : List D → PR) : List V → Hp → VK → Prop := fun xs H Q => ∃ a dx fs, xs = [.ref a] ∧ H a = some (.ins (He.ga K C) dx fs) ∧ spP K 1 g [.ref a] H (fun v H' => ∃ z, v = .str z ∧ Q (.str z) H') EN
theorem c_strO (gu : X.A.guards = some []) (F : FnG X.prog X.w X.K X.mg X.base k f fd ps (spP X.K 1 g)) (O : OwnStr X.K C f) (room : Room (k + 2) X.A) (hb : Binds X.K fd ps []) : CallR X (.type "str") (rStrO X.K C g) := fun pins s σ H xs us Q I r h => by
  obtain ⟨a, dx, fs, rfl, ha, q⟩ := h
  cases r with
  | cons r t =>
    cases t
    cases r
    obtain ⟨ox, od, J⟩ := ins_at I ha
    refine PySem.W.kso_call (by have := room.un; show X.A.units + 1 + 1 < _; omega) I.kIn J O.at_ O.fn (wpAny_mono (run_in F (by exact gu) room.in1.in1 hb I I.env0.in1.in1 (.cons (show RelV (V.ref a) (Value.ref a) from rfl) .nil) q) (fun u s' z => ?_) fun _ _ z => z)
    obtain ⟨v, H', I', rv, z, rfl, q'⟩ := z
    obtain ⟨t, rfl⟩ := rv
    exact ⟨.str z, H', I', ⟨t, rfl⟩, q'⟩
def g_strO (C : Str) (g : List D → PR) : List Bv.X → Sto → R Bv.X
  | [.d (.obj D fs)], S => if decide (D = C) then (match g [.obj D fs] with
    | .ok (.str z) => .ok (.d (.str z)) S
    | _ => .bad) else .bad
  | _, _ => .bad
theorem b_strO {K : PySem.W.Frag} : BinX K (rStrO K C g) (g_strO C g) := fun Z ρ S H Wx σ xs vs Q st a h => by
  unfold g_strO at h
  split at h
  · rename_i D fs
    split at h
    · rename_i hc
      obtain rfl := of_decide_eq_true hc
      obtain ⟨v, rfl, b⟩ := one_d a
      cases b with
      | obj w r hs =>
        refine ⟨_, _, _, rfl, r, rfl, Wn Z ρ, [.obj D fs], fun a h => st.thereW h, .cons (.obj w r hs) .nil, ?_⟩
        cases q : g [.obj D fs] with
        | ok d =>
          rw [q] at h
          cases d with
          | str z =>
            intro H' v k a
            cases a with
            | str hz => exact ⟨z, rfl, PostG.ret h st k (.d (.str hz))⟩
          | _ => exact h.elim
        | err _ _ => rw [q] at h; exact h.elim
        | bad => rw [q] at h; exact h.elim
    · exact h.elim
  · exact h.elim

/-! ### ==, != -/
structure OwnEq (K : PySem.W.Frag) (C : Str) (f : Addr) : Prop where
  at_ : PySem.W.findIn K (.ref (He.ga K C)) "__eq__" = some (some (.ref f))
  fn : PySem.W.isFn K (.ref f) = true
  ne : PySem.W.findIn K (.ref (He.ga K C)) "__ne__" = some (some (.builtin "object.__ne__"))
  mo : PySem.W.mroIn K (He.ga K C) (.type "object") = some true
abbrev rEqO (K : PySem.W.Frag) (C : Str) (g : List D → PR) (neg : Bool) : R2 := fun x y H Q => ∃ a dx fs b dy gs, x = .ref a ∧ y = .ref b ∧ H a = some (.ins (He.ga K C) dx fs) ∧ H b = some (.ins (He.ga K C) dy gs) ∧ spP K 2 g [x, y] H (fun v H' => ∃ r, v = .bl r ∧ Q (.bl (r ^^ neg)) H') EN
theorem op_eqO (gu : X.A.guards = some []) (F : FnG X.prog X.w X.K X.mg X.base k f fd ps (spP X.K 2 g)) (O : OwnEq X.K C f) (room : Room k X.A) (hb : Binds X.K fd ps []) : OpR X (compareOp .Eq) (rEqO X.K C g false) := fun pins s σ H x y v u Q I rx ry h => by
  obtain ⟨a, dx, fs, b, dy, gs, rfl, rfl, ha, hb', q⟩ := h
  cases rx
  cases ry
  obtain ⟨ox, od, J⟩ := ins_at I ha
  obtain ⟨oy, oe, J'⟩ := ins_at I hb'
  obtain ⟨m, hF⟩ := I.fr
  show wpAny (model X.prog X.w) X.A (richCompare .Eq (.ref a) (.ref b)) (EP X pins σ Q) X.xe s
  refine PySem.W.cmp_K (op := .Eq) (tb := .ref (He.ga X.K C)) room.units0 hF I.ok.mod.kin J J'.type (by simp [PySem.W.notFirst]) O.at_ O.fn (wpAny_mono (run_in F gu room hb I I.env0 (.cons (show RelV (V.ref a) (Value.ref a) from rfl) (.cons (show RelV (V.ref b) (Value.ref b) from rfl) .nil)) q) (fun w s' z => ?_) fun _ _ z => z)
  obtain ⟨v, H', I', rv, r, rfl, q'⟩ := z
  cases rv
  exact ⟨.bl r, H', I', rfl, by simpa using q'⟩
open Builtin in
theorem op_neO (gu : X.A.guards = some []) (F : FnG X.prog X.w X.K X.mg X.base k f fd ps (spP X.K 2 g)) (O : OwnEq X.K C f) (room : Room (k + 1) X.A) (hb : Binds X.K fd ps []) : OpR X (compareOp .NotEq) (rEqO X.K C g true) := fun pins s σ H x y v u Q I rx ry h => by
  obtain ⟨a, dx, fs, b, dy, gs, rfl, rfl, ha, hb', q⟩ := h
  cases rx
  cases ry
  obtain ⟨ox, od, J⟩ := ins_at I ha
  obtain ⟨oy, oe, J'⟩ := ins_at I hb'
  have hu := room.un
  show wpAny (model X.prog X.w) X.A (richCompare .NotEq (.ref a) (.ref b)) (EP X pins σ Q) X.xe s
  have core : wpAny (model X.prog X.w) X.A (call (.builtin "object.__ne__") [.ref a, .ref b]) (fun v s' => ∃ r : Bool, v = .bool r ∧ EP X pins σ Q (.bool r) s') X.xe s := by
    refine wpAny_call (codeAny_call_builtin (by decide +kernel) PySem.F.cmpEntry_ne (PySem.W.check_slot (i := "object.__ne__") (owner := "object") (n := "__ne__") (by decide +kernel) (by decide +kernel) (J.type.andThen (PySem.W.looks_mroIn I.kIn O.mo)) (PySem.F.cmpArgs_ne _ _) ?_))
    unfold Builtin.«object.__ne__»
    refine wpAny_bind (m := slotArgs "__ne__" 1 _) (wpAny_pure ?_)
    refine wpAny_bind (m := cRoomFor _ _) (wpAny_cRoomFor (by show X.A.units + 1 < _; omega) ?_)
    refine wpAny_bind (m := callSpecialIfBound? (.ref a) (Str.ofString "__eq__") _) (PySem.W.ifBound_K I.kIn J O.at_ O.fn (wpAny_mono (run_in F (by exact gu) room.in1 hb I I.env0.in1 (.cons (show RelV (V.ref a) (Value.ref a) from rfl) (.cons (show RelV (V.ref b) (Value.ref b) from rfl) .nil)) q) (fun w s' z => ?_) fun _ _ z => z))
    obtain ⟨v, H', I', rv, r, rfl, q'⟩ := z
    cases rv
    refine wpAny_bind (m := truthy (.bool r)) (wpAny_truthy_bool (wpAny_pure ?_))
    exact ⟨!r, rfl, .bl (!r), H', I', rfl, by simpa using q'⟩
  have one : wpAny (model X.prog X.w) X.A (tryCompare (.ref a) "__ne__" (.ref b)) (fun r s' => ∃ v, r = some v ∧ EP X pins σ Q v s') X.xe s := by
    unfold tryCompare
    refine wpAny_bind (NtL.csib (J.type.andThen (PySem.W.looks_findIn I.kIn O.ne)) (by rfl) (wpAny_mono core (fun v s' z => ?_) fun _ _ z => z))
    obtain ⟨r, rfl, q'⟩ := z
    exact wpAny_pure ⟨_, rfl, q'⟩
  unfold richCompare
  simp only [oneThing_ref]
  refine wpAny_holding (wpAny_bind (wpAny_cRoomFor (by omega) ?_))
  refine wpAny_bind (J.type.here (wpAny_bind (J'.type.here ?_)))
  rw [if_neg (by simp)]
  refine wpAny_bind (wpAny_pure ?_)
  simp only [Bool.false_eq_true, if_false]
  refine wpAny_bind (wpAny_mono one (fun r s' z => ?_) fun _ _ e => e)
  obtain ⟨v, rfl, hq⟩ := z
  exact wpAny_pure hq
def eqO (C : Str) (g : List D → PR) (neg : Bool) (a b : D) : Option D := match a, b with
  | .obj C1 f1, .obj C2 f2 => if decide (C1 = C) && decide (C2 = C) then (match g [.obj C1 f1, .obj C2 f2] with
    | .ok (.bl r) => some (.bl (r ^^ neg))
    | _ => none) else none
  | _, _ => none
theorem o_eqO {K : PySem.W.Frag} {neg : Bool} : Op2 K (rEqO K C g neg) (eqO C g neg) := fun W H d1 d2 v1 v2 d Q hw a1 a2 e k => by
  unfold eqO at e
  split at e
  · rename_i C1 f1 C2 f2
    obtain ⟨h1, h2⟩ := ite_some e
    obtain ⟨h3, h4⟩ := Bool.and_eq_true_iff.mp h1
    obtain rfl := of_decide_eq_true h3
    obtain rfl := of_decide_eq_true h4
    obtain ⟨a, dx, vs, rfl, w, r, hs⟩ := a1.ob
    obtain ⟨b, dy, us, rfl, w', r', hs'⟩ := a2.ob
    refine ⟨a, dx, vs, b, dy, us, rfl, rfl, r, r', rfl, W, _, hw, .cons (.obj w r hs) (.cons (.obj w' r' hs') .nil), ?_⟩
    cases q : g [.obj C2 f1, .obj C2 f2] with
    | ok d' =>
      rw [q] at h2
      cases d' with
      | bl r =>
        cases h2
        intro H' v ex a
        cases a with
        | bl _ => exact ⟨r, rfl, k H' _ ex (.bl _)⟩
      | _ => cases h2
    | err _ _ => rw [q] at h2; cases h2
    | bad => rw [q] at h2; cases h2
  · cases e

/-! ### isinstance of two built-in types -/
structure IsTs (K : PySem.W.Frag) (us : List Value) (tab : List (String × Bool)) (own : List (Str × Bool)) : Prop where
  bt : ∀ k b, tab.lookup k = some b → PySem.W.kitAny K (.type k) us = some b
  ow : ∀ C b, own.lookup C = some b → OwnIs K C ∧ PySem.W.kitAny K (.ref (He.ga K C)) us = some b
theorem isXs_ty {K : PySem.W.Frag} {us : List Value} {tab : List (String × Bool)} {own : List (Str × Bool)} (T : IsTs K us tab own) {Z : Wd} {ρ : List Addr} {S : Sto} {H : Hp} {x : Bv.X} {v : V} {k : Bool} (st : Sta K Z ρ S H) (a : AX K (Wn Z ρ) ρ H x v) (h : isX tab own S x = some k) :
    ∃ t, TyX K H v t ∧ PySem.W.kitAny K t us = some k := by
  cases a with
  | d a =>
    cases a with
    | obj w r hs =>
      obtain ⟨O, q⟩ := T.ow _ _ h
      exact ⟨_, .base (.ins r O.cl O.ha O.hn O.htk O.hm), q⟩
    | non => exact ⟨_, .base .non, T.bt _ _ h⟩
    | bl k => exact ⟨_, .base (.bl k), T.bt _ _ h⟩
    | int k => exact ⟨_, .base (.int k), T.bt _ _ h⟩
    | str k => exact ⟨_, .base (.str _), T.bt _ _ h⟩
    | tup t hs => exact ⟨_, t.tyX, T.bt _ _ h⟩
    | lst w r hs => exact ⟨_, .base (.lst r), T.bt _ _ h⟩
    | scr r =>
      rcases r with ⟨_, r | ⟨ob, r⟩⟩ | ⟨o, its, n, r1, r2, _⟩
      · exact ⟨_, .base (.lst r), T.bt _ _ h⟩
      · exact ⟨_, .base (.frz r), T.bt _ _ h⟩
      · exact ⟨_, .kList r1 r2, T.bt _ _ h⟩
    | dic w r hs => exact ⟨_, .fDict r, T.bt _ _ h⟩
    | gl x => cases h
  | r e =>
    rename_i n q
    have h : (match S[n]? with
      | some (.lst _) => tab.lookup "list"
      | some (.dic _) => tab.lookup "dict"
      | some (.fdc _) => tab.lookup "dict"
      | some (.ins C _) => own.lookup C
      | _ => none) = some k := h
    cases z : S[n]? with
    | none => rw [z] at h; cases h
    | some ob =>
      rw [z] at h
      have y := st.ob n _ q z e
      cases ob with
      | lst xs => obtain ⟨vs, h1, _⟩ := y; exact ⟨_, .base (.lst h1), T.bt _ _ h⟩
      | dic xs => obtain ⟨vs, h1, _⟩ := y; exact ⟨_, .base (.dK h1), T.bt _ _ h⟩
      | fdc xs => obtain ⟨o, vs, h1, _⟩ := y; exact ⟨_, .fDict h1, T.bt _ _ h⟩
      | tdc xs => cases h
      | ins C fs =>
        obtain ⟨dx, vs, h1, _⟩ := y
        obtain ⟨O, q⟩ := T.ow _ _ h
        exact ⟨_, .base (.ins h1 O.cl O.ha O.hn O.htk O.hm), q⟩
theorem me_isi2 {tab : List (String × Bool)} {own : List (Str × Bool)} {u1 u2 : Value} {c1 c2 : V} {x1 : Bool} {tpos : Pos} (hg : Gl X "isinstance") (hm : X.mg "isinstance" = none) (he : ME X Wx a m) (hc1 : PE X b (tC c1)) (hc2 : PE X c (tC c2)) (T : IsTs X.K [u1, u2] tab own) (k1 : ClsV c1 u1) (k2 : ClsV c2 u2)
    (ht1 : starEach [b, c] X.env = (false, eval b X.env) :: starEach [c] X.env := by rfl) (ht2 : starEach [c] X.env = (false, eval c X.env) :: starEach [] X.env := by rfl)
    (hs : ∀ {x1 tpos}, starEach [a, .Tuple [b, c] x1 tpos] X.env = (false, eval a X.env) :: starEach [.Tuple [b, c] x1 tpos] X.env := by intros; rfl) (hs2 : ∀ {x1 tpos}, starEach [.Tuple [b, c] x1 tpos] X.env = (false, eval (.Tuple [b, c] x1 tpos) X.env) :: starEach [] X.env := by intros; rfl)
    (hpl : ∀ {x1 tpos}, (backTo pos (starEach [.Tuple [b, c] x1 tpos] X.env)).any (·.1) = false := by intros; rfl) {kt} :
    ME X Wx (.Call (.Name "isinstance" p) [a, .Tuple [b, c] kt tpos] [] pos) (m_isi tab own m) := PE.of (pe_callB call_isiT hg hm (by rfl) (pa_cons he (pa_cons (pe_tup (pa_cons hc1 (pa_cons hc2 pa_nil ht2) ht1)) pa_nil hs2) hs) (by decide) (by decide) hs hpl) fun σ H Q ⟨Z, ρ, e, S, st, ev, q⟩ => tt_bind st ev q fun ρ1 H1 v x S1 s1 g1 ev1 a1 p1 => by
  obtain ⟨w, hw, p2⟩ := p1.opt
  obtain ⟨b, h1, h2⟩ := Option.map_eq_some_iff.mp hw
  subst h2
  refine ⟨Nat.le_trans (show [c1, c2].length ≤ 2 from Nat.le_refl _) (by decide), fun r hr => ?_⟩
  have k := upd_keep (o := HO.tup [c1, c2]) hr
  have s2 := s1.grow k
  obtain ⟨t, ty, kt⟩ := isXs_ty T s2 (a1.mv ((Go.grow k).mv s1) (List.prefix_refl _)) h1
  exact ⟨v, r, [c1, c2], t, [u1, u2], b, rfl, upd_same, .cons k1 (.cons k2 .nil), ty, kt, PostG.ret p2 s1 k (.d (.bl b))⟩
end
end Bv
set_option Elab.async false
set_option linter.all false
set_option maxRecDepth 100000
set_option maxHeartbeats 4000000
/-! By value: what the head tells. -/
namespace Bv
open PySem PySem.Spec L2
open PyProof.Rows hiding St

/-! ### defs by where they stand -/
structure DefB where
  ad : PySem.W.Frag → Addr
  name : Str
  qual : Str
  params : Arguments
  body : List Stmt
  scope : Scope
  dfl : List He.Dv := []
/-- the def within a classmethod's record -/
def cmAd (C m : Str) (K : PySem.W.Frag) : Addr := match PySem.W.recIn K (He.ma K (He.ga K C) m) "classmethod" with
  | some (.ref g :: _) => g
  | _ => 0
def seen (K : PySem.W.Frag) (a : Addr) : He.FnW := match K.lookup a with
  | some ⟨_, _, .func fd, _⟩ => some (fd.name, fd.qualname, fd.params, fd.body, fd.scope, fd.globals, fd.closure, fd.builtins)
  | _ => none
def DefB.val (d : DefB) : He.FnW := some (d.name, d.qual, d.params, .stmts d.body, d.scope, mainGlobals, [], builtinsNs)
def DefB.dvs (K : PySem.W.Frag) (d : DefB) : List V := d.dfl.map (He.Dv.v K)
def DefB.ok (K : PySem.W.Frag) (d : DefB) : Bool := PySem.W.keepIn K (.ref (d.ad K)) && (match K.lookup (d.ad K) with
  | some ⟨_, _, .func fd, _⟩ => PySem.W.codeIn K fd.code d.qual && He.dflB K fd.defaults (d.dvs K)
  | _ => false)
theorem DefB.fun {K : PySem.W.Frag} {d : DefB} (e : seen K (d.ad K) = d.val) (c : d.ok K = true) : ∃ fd, FunD K d.name d.qual d.params d.body d.scope (d.dvs K) [] (d.ad K) fd := by
  obtain ⟨kp, c2⟩ := He.ba c
  unfold seen at e
  cases q : K.lookup (d.ad K) with
  | none => rw [q] at c2; cases c2
  | some o =>
    obtain ⟨oc, od, dt, osl⟩ := o
    rw [q] at c2 e
    cases dt with
    | func fd =>
      obtain ⟨m1, m2, m3, m4, m5, m6, m7, m8, m9, m10, m11, m12, m13, m14, m15⟩ := fd
      have e2 : (some (m1, m2, m3, m4, m5, m6, m7, m15) : He.FnW) = some (d.name, d.qual, d.params, .stmts d.body, d.scope, mainGlobals, [], builtinsNs) := e
      simp only [Option.some.injEq, Prod.mk.injEq] at e2
      obtain ⟨rfl, rfl, rfl, rfl, rfl, rfl, rfl, rfl⟩ := e2
      obtain ⟨k1, k2⟩ := He.ba (show (PySem.W.codeIn K m13 d.qual && He.dflB K m8 (d.dvs K)) = true from c2)
      exact ⟨_, ⟨oc, od, m8, m9, m10, m11, m12, m13, m14, osl, rfl, q, k1, He.dflB_ok k2, .inl rfl⟩, kp⟩
    | _ => cases c2
/-! ### the Hook: any tests of the written part, and the defs -/
abbrev AlB : Type := Bool × List He.FnW
def obsB (ts : List (PySem.W.Frag → Bool)) (ds : List DefB) (K : PySem.W.Frag) : AlB := ((ts.all fun t => t K) && ds.all fun d => d.ok K, ds.map fun d => seen K (d.ad K))
def valB (ds : List DefB) : AlB := (true, ds.map DefB.val)
def SaysB (ts : List (PySem.W.Frag → Bool)) (ds : List DefB) (K : PySem.W.Frag) : Prop := obsB ts ds K = valB ds
def obsBG (n : Nat) (ts : List (PySem.W.Frag → Bool)) (ds : List DefB) (g : Addr → Option Obj) : AlB := obsB ts ds (He.frG g (He.asD g n ++ [cStatics]))
def hookB (n : Nat) (ts : List (PySem.W.Frag → Bool)) (ds : List DefB) : PySem.W.Hook where
  α := AlB
  obs := fun s => obsBG n ts ds s.heap.get?
  val := fun _ => valB ds
  says := fun _ h => ∃ K : PySem.W.Frag, K.In h ∧ SaysB ts ds K
  of := fun _ _ e => ⟨_, He.frG_in, e⟩
  keeps := fun _ _ _ ⟨K, i, c⟩ k => ⟨K, PySem.W.Frag.In.keeps i k, c⟩
theorem obsBG_eq {n : Nat} {ts : List (PySem.W.Frag → Bool)} {ds : List DefB} {g : Addr → Option Obj} {s : Shared} (h : ∀ a, g a = s.heap.get? a) : obsBG n ts ds g = (hookB n ts ds).obs s := by
  rw [show g = s.heap.get? from funext h]
  rfl
section
variable {ts : List (PySem.W.Frag → Bool)} {ds : List DefB} {K : PySem.W.Frag}
theorem SaysB.both (c : SaysB ts ds K) : (ts.all fun t => t K) = true ∧ (ds.all fun d => d.ok K) = true := He.ba (show ((ts.all fun t => t K) && ds.all fun d => d.ok K) = true from congrArg (fun z : AlB => z.1) c)
theorem SaysB.test (c : SaysB ts ds K) (i : Nat) {t : PySem.W.Frag → Bool} (h : ts[i]? = some t := by rfl) : t K = true := List.all_eq_true.mp c.both.1 t (List.mem_of_getElem? h)
theorem SaysB.fun (c : SaysB ts ds K) (i : Nat) {d : DefB} (h : ds[i]? = some d := by rfl) : ∃ fd, FunD K d.name d.qual d.params d.body d.scope (d.dvs K) [] (d.ad K) fd := by
  have e : ds.map (fun d => seen K (d.ad K)) = ds.map DefB.val := congrArg (fun z : AlB => z.2) c
  have e2 := congrArg (fun l => l[i]?) e
  simp only [List.getElem?_map, h, Option.map_some, Option.some.injEq] at e2
  exact DefB.fun e2 (List.all_eq_true.mp c.both.2 d (List.mem_of_getElem? h))
end
/-! ### what is asked of the written part -/
def t_glo (x : Str) (K : PySem.W.Frag) : Bool := (He.Fa.glo x).ok K
def t_free (x : Str) (K : PySem.W.Frag) : Bool := (He.Fa.free x).ok K
def t_cls (C : Str) (K : PySem.W.Frag) : Bool := (He.Fa.cls C).ok K
def t_noat (C f : Str) (K : PySem.W.Frag) : Bool := (He.Fa.noat C f).ok K
def t_meth (C m : Str) (K : PySem.W.Frag) : Bool := (He.Fa.meth C m).ok K
def t_mkr (C : Str) (K : PySem.W.Frag) : Bool := (He.Fa.mkr C).ok K
def t_own (C : Str) (K : PySem.W.Frag) : Bool := (He.Fa.cls C).ok K && (He.eqO (PySem.W.findIn K (.ref (He.ga K C)) "__class__") (some (some (.builtin "object.__class__"))) && (He.eqO (PySem.W.specialIn K (.builtin "object.__class__") "__get__") (some (some (.builtin "getset_descriptor.__get__"))) &&
  (decide (PySem.W.takesIn K (.builtin "object.__class__") = some true) && decide (PySem.W.mroIn K (He.ga K C) (.type "object") = some true))))
theorem own_ok {C : Str} {K : PySem.W.Frag} (h : t_own C K = true) : OwnIs K C := by
  obtain ⟨c1, h⟩ := He.ba h
  obtain ⟨c2, h⟩ := He.ba h
  obtain ⟨c3, h⟩ := He.ba h
  obtain ⟨c4, c5⟩ := He.ba h
  exact ⟨He.cls_ok c1, He.eqO_ok c2, He.eqO_ok c3, of_decide_eq_true c4, of_decide_eq_true c5⟩
/-- isinstance(an instance of C, u) -/
def t_kit (C : Str) (u : PySem.W.Frag → Value) (b : Bool) (K : PySem.W.Frag) : Bool := decide (PySem.W.kitOne K (.ref (He.ga K C)) (u K) = some b)
def t_kitT (T : String) (u : PySem.W.Frag → Value) (b : Bool) (K : PySem.W.Frag) : Bool := decide (PySem.W.kitOne K (.type T) (u K) = some b)
def t_kits (C : Str) (us : List Value) (b : Bool) (K : PySem.W.Frag) : Bool := decide (PySem.W.kitAny K (.ref (He.ga K C)) us = some b)
def t_str (C : Str) (K : PySem.W.Frag) : Bool := He.eqO (PySem.W.findIn K (.ref (He.ga K C)) "__str__") (some (some (.ref (He.ma K (He.ga K C) "__str__")))) && PySem.W.isFn K (.ref (He.ma K (He.ga K C) "__str__"))
theorem str_ok {C : Str} {K : PySem.W.Frag} (h : t_str C K = true) : OwnStr K C (He.ma K (He.ga K C) "__str__") := ⟨He.eqO_ok (He.ba h).1, (He.ba h).2⟩
def t_eq (C : Str) (K : PySem.W.Frag) : Bool := He.eqO (PySem.W.findIn K (.ref (He.ga K C)) "__eq__") (some (some (.ref (He.ma K (He.ga K C) "__eq__")))) && (PySem.W.isFn K (.ref (He.ma K (He.ga K C) "__eq__")) &&
  (He.eqO (PySem.W.findIn K (.ref (He.ga K C)) "__ne__") (some (some (.builtin "object.__ne__"))) && decide (PySem.W.mroIn K (He.ga K C) (.type "object") = some true)))
theorem eq_ok {C : Str} {K : PySem.W.Frag} (h : t_eq C K = true) : OwnEq K C (He.ma K (He.ga K C) "__eq__") := by
  obtain ⟨c1, h⟩ := He.ba h
  obtain ⟨c2, h⟩ := He.ba h
  obtain ⟨c3, c4⟩ := He.ba h
  exact ⟨He.eqO_ok c1, c2, He.eqO_ok c3, of_decide_eq_true c4⟩
def t_fn (ad : PySem.W.Frag → Addr) (K : PySem.W.Frag) : Bool := PySem.W.keepIn K (.ref (ad K))
/-- the module's tuple of texts -/
def t_tup (x : Str) (vs : List Str) (K : PySem.W.Frag) : Bool := He.tupB K x (vs.map He.Dv.str)
theorem avs_strs {K : PySem.W.Frag} {W : Wd} {H : Hp} : ∀ {vs : List Str}, (vs.all fun z => PyData.strOk z) = true → AVs K W H (vs.map D.str) ((vs.map He.Dv.str).map (He.Dv.v K))
  | [], _ => .nil
  | z :: r, h => by
    rw [List.all_cons, Bool.and_eq_true] at h
    exact .cons (.str h.1) (avs_strs h.2)
theorem kTup_ok {K : PySem.W.Frag} {x : Str} {vs : List He.Dv} (h : He.tupB K x vs = true) : KTup K (He.ga K x) (vs.map (He.Dv.v K)) := by
  unfold He.tupB at h
  cases q : K.lookup (He.ga K x) with
  | none => rw [q] at h; cases h
  | some o =>
    obtain ⟨oc, od, dt, osl⟩ := o
    rw [q] at h
    cases oc with
    | type c =>
      cases dt with
      | seq its n =>
        obtain ⟨h1, h2⟩ := He.ba (show (decide (c = "tuple") && (decide (its.size ≤ sizeLine) && He.relAll (vs.map (He.Dv.v K)) its.toList)) = true from h)
        obtain ⟨h3, h4⟩ := He.ba h2
        exact ⟨_, its, n, q, congrArg Value.type (of_decide_eq_true h1), rfl, of_decide_eq_true h3, He.relAll_ok h4⟩
      | _ => cases h
    | _ => cases dt <;> cases h
theorem av_tup {K : PySem.W.Frag} {x : Str} {vs : List Str} (h : t_tup x vs K = true) (hv : (vs.all fun z => PyData.strOk z) = true := by decide +kernel) : ∃ v, (∀ W H, AV K W H (.tup (vs.map D.str)) v) ∧ RelV v (.ref (He.ga K x)) :=
  ⟨.ref (He.ga K x), fun W H => .tup (.inr (kTup_ok h)) (avs_strs hv), rfl⟩
/-- the module's text, int -/
def t_txt (x z : Str) (K : PySem.W.Frag) : Bool := (He.Fa.str x z).ok K
def t_int (x : Str) (i : Int) (K : PySem.W.Frag) : Bool := (He.Fa.int x i).ok K
section
variable {K : PySem.W.Frag} {h : Heap} {mg : Str → Option Value}
/-- the empty tuple that is a default -/
def t_dfl0 (f : Str × Option Str) (i : Nat) (K : PySem.W.Frag) : Bool := match K.lookup (He.dflAt f i K) with
  | some ⟨.type c, _, .seq its _, _⟩ => decide (c = "tuple") && decide (its.size = 0)
  | _ => false
theorem av_dfl0 {f : Str × Option Str} {i : Nat} (h : t_dfl0 f i K = true) (W : Wd) (H : Hp) : AV K W H (.tup []) (.ref (He.dflAt f i K)) := by
  unfold t_dfl0 at h
  cases q : K.lookup (He.dflAt f i K) with
  | none => rw [q] at h; cases h
  | some o =>
    obtain ⟨oc, od, dt, osl⟩ := o
    rw [q] at h
    cases oc with
    | type c =>
      cases dt with
      | seq its n =>
        obtain ⟨h1, h2⟩ := He.ba (show (decide (c = "tuple") && decide (its.size = 0)) = true from h)
        have e0 := of_decide_eq_true h2
        refine .tup (.inr ⟨_, its, n, q, congrArg Value.type (of_decide_eq_true h1), rfl, by rw [e0]; exact Nat.zero_le _, ?_⟩) .nil
        rw [show its.toList = [] from by rw [← List.length_eq_zero_iff]; simpa using e0]
        exact .nil
      | _ => cases h
    | _ => cases dt <;> cases h
end
/-! ### a def that may be called, by how many arguments -/
structure Kept (P : Program) (w : World) (K : PySem.W.Frag) (mg : Str → Option Value) (base : Heap) (k : Nat) (f : Addr) (sp : Sp) : Prop where
  ex : ∃ fd ps, FnG P w K mg base k f fd ps sp ∧ Binds K fd ps []
  kp : PySem.W.keepIn K (.ref f) = true
/-- .. with defaults dxs filled up -/
structure KeptD (P : Program) (w : World) (K : PySem.W.Frag) (mg : Str → Option Value) (base : Heap) (k : Nat) (f : Addr) (sp : Sp) (dxs : List D) : Prop where
  ex : ∃ fd ps dvs ds, FnG P w K mg base k f fd ps sp ∧ Binds K fd ps ds ∧ Dft K dxs dvs ds
  kp : PySem.W.keepIn K (.ref f) = true
/-- the place where a body runs -/
structure Here (X : Cx) (Wx : WX) (k : Nat) : Prop where
  tk : Xq.Tk X Wx
  gu : X.A.guards = some []
  room : Room k X.A
section
variable [HasW] {X : Cx} {Wx : WX} {k j n : Nat} {f : Addr} {dxs : List D}
theorem AVs.len_d {K : PySem.W.Frag} {ds : List Value} {dvs : List V} (d : Dft K dxs dvs ds) : dvs.length = dxs.length := (d.av (fun _ => False) (fun _ => none)).length.symm
theorem Here.callE {g : List Bv.X → Sto → R Bv.X} (h : Here X Wx k) (c : Kept X.prog X.w X.K X.mg X.base j f (spE X.K n g)) (hj : j ≤ k := by decide) : CalX X Wx (.ref f) n (withD [] g) := by
  obtain ⟨fd, ps, F, b⟩ := c.ex
  exact cal_E h.tk h.gu F (h.room.mono hj) b dft_nil
theorem Here.callP {g : List D → PR} (h : Here X Wx k) (c : Kept X.prog X.w X.K X.mg X.base j f (spP X.K n g)) (hj : j ≤ k := by decide) : CalX X Wx (.ref f) n (withD [] (Bv.callP g)) := by
  obtain ⟨fd, ps, F, b⟩ := c.ex
  exact cal_P h.tk h.gu F (h.room.mono hj) b dft_nil
theorem Here.make {C : Str} {mk : Nat → R Bv.X → R Bv.X} {g : List Bv.X → Sto → R Bv.X} (hm : Mks mk) (h : Here X Wx k) (M : Mk X.K (He.ga X.K C) f) (c : Kept X.prog X.w X.K X.mg X.base j f (spE X.K (n + 1) g)) (hj : j + 1 ≤ k := by decide) : CalX X Wx (.ref (He.ga X.K C)) n (withD [] (made C mk g)) := by
  obtain ⟨fd, ps, F, b⟩ := c.ex
  exact cal_make hm h.tk h.gu M F (h.room.mono hj) b dft_nil
theorem Here.makeD {C : Str} {mk : Nat → R Bv.X → R Bv.X} {g : List Bv.X → Sto → R Bv.X} (hm : Mks mk) (h : Here X Wx k) (M : Mk X.K (He.ga X.K C) f) (c : KeptD X.prog X.w X.K X.mg X.base j f (spE X.K (n + dxs.length + 1) g) dxs) (hj : j + 1 ≤ k := by decide) : CalX X Wx (.ref (He.ga X.K C)) n (withD dxs (made C mk g)) := by
  obtain ⟨fd, ps, dvs, ds, F, b, d⟩ := c.ex
  have e := AVs.len_d d
  have q := cal_make hm h.tk h.gu M F (h.room.mono hj) b d (by rw [e]; omega)
  rw [e, Nat.add_sub_cancel] at q
  exact q
end
end Bv
set_option Elab.async false
set_option linter.all false
set_option maxRecDepth 100000
set_option maxHeartbeats 4000000
/-! By value: short words for derivations. -/
namespace Bv
open PySem PySem.Spec L2
open PyProof.Rows hiding St
variable [HasW]

theorem here_of {P : Program} {w : World} {K : PySem.W.Frag} {mg : Str → Option Value} {base : Heap} {N : List Str} {qual : Str} {sc : Scope} {f : Addr} {cdv : Value} {A : Around} {outer : List Env} {s : Shared} {H : Hp} {E : XK} {k : Nat}
    (gu : A.guards = some []) (room : Room k (A.deeper (envOfC qual sc s.heap.objs.size f cdv))) : Here (cxB P w K mg base N qual sc f cdv A outer s H E) (wxE E) k :=
  ⟨Xq.tk_of (E := E) rfl rfl rfl rfl, gu, room⟩
theorem own_of {P : Program} {w : World} {K : PySem.W.Frag} {mg : Str → Option Value} {base : Heap} {N : List Str} {qual : Str} {sc : Scope} {f : Addr} {cdv : Value} {A : Around} {outer : List Env} {s : Shared} {H : Hp} {E : XK} :
    PassesOwn (model (cxB P w K mg base N qual sc f cdv A outer s H E).prog (cxB P w K mg base N qual sc f cdv A outer s H E).w) (cxB P w K mg base N qual sc f cdv A outer s H E).A (cxB P w K mg base N qual sc f cdv A outer s H E).env (cxB P w K mg base N qual sc f cdv A outer s H E).xe :=
  passes_of (X := cxB P w K mg base N qual sc f cdv A outer s H E) rfl
theorem ownAt_of {P : Program} {w : World} {K : PySem.W.Frag} {mg : Str → Option Value} {base : Heap} {N : List Str} {qual : Str} {sc : Scope} {f : Addr} {cdv : Value} {A : Around} {outer : List Env} {s : Shared} {H : Hp} {E : XK} (hd : Option Value) :
    PassesOwnAt (model (cxB P w K mg base N qual sc f cdv A outer s H E).prog (cxB P w K mg base N qual sc f cdv A outer s H E).w) ((cxB P w K mg base N qual sc f cdv A outer s H E).A.mark hd) (cxB P w K mg base N qual sc f cdv A outer s H E).A (cxB P w K mg base N qual sc f cdv A outer s H E).env (cxB P w K mg base N qual sc f cdv A outer s H E).xe :=
  L2H.passesAt_of (X := cxB P w K mg base N qual sc f cdv A outer s H E) rfl hd
section
variable {X : Cx} {Wx : WX} {k : Nat} {pos : Pos} {a b c : Expr} {ma mb mc m : M}
theorem Here.blk (h : Here X Wx k) (s : Shared) (H : Hp) (sc : Scope) (ce : Env) (fp : List Addr) : Here (X.blk s H sc ce fp) WX0 k := ⟨Xq.tk0, h.gu, h.room⟩
theorem Here.u1 (h : Here X Wx k) : X.A.units + 1 < cLine := by have := h.room.un; omega
theorem Here.u64 (h : Here X Wx k) : X.A.units + 64 < cLine := by have := h.room.un; omega
theorem Here.u65 (h : Here X Wx k) : X.A.units + 65 < cLine := by have := h.room.un; omega
theorem Here.r0 (h : Here X Wx k) : Room 0 X.A := h.room.mono (Nat.zero_le _)
/-- an operator's two sides -/
structure Opr (X : Cx) (s : Value → Value → Sem Value) (f : D → D → Option D) : Prop where
  ex : ∃ r : R2, OpR X s r ∧ Op2 X.K r f
theorem Here.eq (h : Here X Wx k) : Opr X (compareOp .Eq) eqD := ⟨_, op_eqD h.u64, o_eq⟩
theorem Here.ne (h : Here X Wx k) : Opr X (compareOp .NotEq) neD := ⟨_, op_neD h.u64, o_ne⟩
theorem Here.in_ (h : Here X Wx k) : Opr X (compareOp .In) inD := ⟨_, op_inA h.u65, o_in⟩
theorem Here.nin (h : Here X Wx k) : Opr X (compareOp .NotIn) ninD := ⟨_, op_ninA h.u65, o_nin⟩
theorem Here.lt (h : Here X Wx k) : Opr X (compareOp .Lt) ltD := ⟨_, op_lt, o_cmpI⟩
theorem Here.le (h : Here X Wx k) : Opr X (compareOp .LtE) leD := ⟨_, op_le, o_cmpI⟩
theorem Here.gt (h : Here X Wx k) : Opr X (compareOp .Gt) gtD := ⟨_, op_gt, o_cmpI⟩
theorem Here.ge (h : Here X Wx k) : Opr X (compareOp .GtE) geD := ⟨_, op_ge, o_cmpI⟩
theorem Here.is_ (h : Here X Wx k) : Opr X (compareOp .Is) isD := ⟨_, op_isN, o_is⟩
theorem Here.isn (h : Here X Wx k) : Opr X (compareOp .IsNot) isnD := ⟨_, op_notN, o_isn⟩
theorem Here.isB (h : Here X Wx k) : Opr X (compareOp .Is) Bv.isB := ⟨_, op_isBl, o_isB⟩
theorem Here.isnB (h : Here X Wx k) : Opr X (compareOp .IsNot) Bv.isnB := ⟨_, op_notBl, o_isnB⟩
theorem Here.add (h : Here X Wx k) : Opr X (binaryOp .Add) addD := ⟨_, op_addA, o_add⟩
theorem Here.sub (h : Here X Wx k) : Opr X (binaryOp .Sub) subD := ⟨_, op_sub, o_int0⟩
theorem Here.mul (h : Here X Wx k) : Opr X (binaryOp .Mult) mulD := ⟨_, op_mul, o_intC⟩
theorem Here.fdiv (h : Here X Wx k) : Opr X (binaryOp .FloorDiv) fdivD := ⟨_, op_fdiv, o_intC⟩
theorem Here.mod (h : Here X Wx k) : Opr X (binaryOp .Mod) modD := ⟨_, op_mod, o_intC⟩
theorem Here.pow (h : Here X Wx k) : Opr X (binaryOp .Pow) powD := ⟨_, op_pow, o_intC⟩
theorem Here.eqO {j : Nat} {C : Str} {g : List D → PR} (h : Here X Wx k) (c : Kept X.prog X.w X.K X.mg X.base j (He.ma X.K (He.ga X.K C) "__eq__") (spP X.K 2 g)) (O : OwnEq X.K C (He.ma X.K (He.ga X.K C) "__eq__")) (hj : j ≤ k := by decide) : Opr X (compareOp .Eq) (Bv.eqO C g false) := by
  obtain ⟨fd, ps, F, b⟩ := c.ex
  exact ⟨_, op_eqO h.gu F O (h.room.mono hj) b, o_eqO⟩
theorem Here.neO {j : Nat} {C : Str} {g : List D → PR} (h : Here X Wx k) (c : Kept X.prog X.w X.K X.mg X.base j (He.ma X.K (He.ga X.K C) "__eq__") (spP X.K 2 g)) (O : OwnEq X.K C (He.ma X.K (He.ga X.K C) "__eq__")) (hj : j + 1 ≤ k := by decide) : Opr X (compareOp .NotEq) (Bv.eqO C g true) := by
  obtain ⟨fd, ps, F, b⟩ := c.ex
  exact ⟨_, op_neO h.gu F O (h.room.mono hj) b, o_eqO⟩
theorem e_op {op : Operator} {f : D → D → Option D} (o : Opr X (binaryOp op) f) (ha : ME X Wx a ma) (hb : ME X Wx b mb) : ME X Wx (.BinOp a op b pos) (m_op2 f ma mb) := by
  obtain ⟨r, h1, h2⟩ := o.ex
  exact me_op h1 h2 ha hb
theorem e_cmp {op : CmpOp} {f : D → D → Option D} (o : Opr X (compareOp op) f) (ha : ME X Wx a ma) (hb : ME X Wx b mb) (hm : behindInMarks op b = false := by first | exact nomark _ | (with_unfolding_all rfl)) : ME X Wx (.Compare a [op] [b] pos) (m_op2 f ma mb) := by
  obtain ⟨r, h1, h2⟩ := o.ex
  exact me_cmp h1 h2 ha hb hm
theorem t_cmp {op : CmpOp} {f : D → D → Option D} (o : Opr X (compareOp op) f) (ha : ME X Wx a ma) (hb : ME X Wx b mb) (hm : behindInMarks op b = false := by first | exact nomark _ | (with_unfolding_all rfl)) : MT X Wx (.Compare a [op] [b] pos) (m_tb (m_op2 f ma mb)) := by
  obtain ⟨r, h1, h2⟩ := o.ex
  exact mt_cmp h1 h2 ha hb hm
theorem e_chain {op op' : CmpOp} {f g : D → D → Option D} (o : Opr X (compareOp op) f) (o' : Opr X (compareOp op') g) (ha : ME X Wx a ma) (hb : ME X Wx b mb) (hc : ME X Wx c mc) (hm : lastMarks [op, op'] [b, c] = false := by with_unfolding_all rfl) :
    ME X Wx (.Compare a [op, op'] [b, c] pos) (m_chain f g ma mb mc) := by
  obtain ⟨r, h1, h2⟩ := o.ex
  obtain ⟨r', h1', h2'⟩ := o'.ex
  exact me_chain h1 h1' h2 h2' ha hb hc hm
theorem t_chain {op op' : CmpOp} {f g : D → D → Option D} (o : Opr X (compareOp op) f) (o' : Opr X (compareOp op') g) (ha : ME X Wx a ma) (hb : ME X Wx b mb) (hc : ME X Wx c mc) (hm : lastMarks [op, op'] [b, c] = false := by with_unfolding_all rfl) :
    MT X Wx (.Compare a [op, op'] [b, c] pos) (m_tb (m_chain f g ma mb mc)) := by
  obtain ⟨r, h1, h2⟩ := o.ex
  obtain ⟨r', h1', h2'⟩ := o'.ex
  exact mt_chain h1 h1' h2 h2' ha hb hc hm
/-! ### names of the module, built-in types -/
theorem e_gstr {x z : Str} (hg : Gl X x) (h : ∃ t, X.mg x = some (.str z t)) (hz : PyData.strOk z = true := by decide +kernel) (hd : (x == ("__debug__" : Str)) = false := by decide) : ME X Wx (.Name x pos) (m_c (.str z)) := by
  obtain ⟨t, e⟩ := h
  exact me_glob hg e ⟨.str z, fun _ _ => .str hz, ⟨t, rfl⟩⟩ hd
theorem e_gint {x : Str} {i : Int} (hg : Gl X x) (h : ∃ t, X.mg x = some (.int i t)) (hd : (x == ("__debug__" : Str)) = false := by decide) : ME X Wx (.Name x pos) (m_c (.int i)) := by
  obtain ⟨t, e⟩ := h
  exact me_glob hg e ⟨.int i, fun _ _ => .int i, ⟨t, rfl⟩⟩ hd
theorem e_gtup {x : Str} {vs : List Str} (hg : Gl X x) (h : X.mg x = some (.ref (He.ga X.K x))) (hv : t_tup x vs X.K = true) (hz : (vs.all fun z => PyData.strOk z) = true := by decide +kernel) (hd : (x == ("__debug__" : Str)) = false := by decide) : ME X Wx (.Name x pos) (m_c (.tup (vs.map D.str))) :=
  me_glob hg h (av_tup hv hz) hd
theorem e_gcls {x : Str} (hg : Gl X x) (h : X.mg x = some (.ref (He.ga X.K x))) (hd : (x == ("__debug__" : Str)) = false := by decide) : ME X Wx (.Name x pos) (m_c (.gl x)) :=
  me_glob hg h ⟨.ref (He.ga X.K x), fun _ _ => .gl x, rfl⟩ hd
theorem p_ty {x : Str} {T : String} (hg : Gl X x) (hm : X.mg x = none) (hv : bootBuiltins x = some (.type T) := by rfl) (hn : x ≠ "__name__" := by decide) (hd : (x == ("__debug__" : Str)) = false := by decide) : PE X (.Name x pos) (tC (.ty T)) := pe_bltn hg hm hv rfl hn hd
theorem p_own {x : Str} (hg : Gl X x) (h : X.mg x = some (.ref (He.ga X.K x))) (hd : (x == ("__debug__" : Str)) = false := by decide) : PE X (.Name x pos) (tC (.ref (He.ga X.K x))) := pe_glob hg h rfl hd
end
end Bv
set_option Elab.async false
set_option linter.all false
set_option maxRecDepth 100000
set_option maxHeartbeats 4000000
/-! By value: more short words. -/
namespace Bv
open PySem PySem.Spec L2
open PyProof.Rows hiding St
variable [HasW]
/-- built-in kinds are not of an own class -/
def tabNone : List (String × Bool) := [("NoneType", false), ("bool", false), ("int", false), ("str", false), ("tuple", false), ("list", false), ("dict", false)]
/-- a test that is never come to -/
def t_bad : MG Bool := fun _ _ => .bad
theorem mt_bad {X : Cx} {Wx : WX} {a : Expr} : MT X Wx a t_bad := ⟨fun _ _ _ _ _ _ ⟨Z, ρ, e, S, st, ev, p⟩ => p.elim⟩
section
variable {X : Cx} {Wx : WX} {k j n : Nat} {pos p : Pos} {e : Expr} {es : List Expr} {ms : MG (List Bv.X)} {C : Str} {g : List D → PR}
theorem Kept.strO (c : Kept X.prog X.w X.K X.mg X.base j (He.ma X.K (He.ga X.K C) "__str__") (spP X.K 1 g)) (O : OwnStr X.K C (He.ma X.K (He.ga X.K C) "__str__")) (h : Here X Wx k) (hj : j + 2 ≤ k) (hg : Gl X "str") (hm : X.mg "str" = none) (ha : MA X Wx (e :: es) ms)
    (he : starEach (e :: es) X.env = (false, eval e X.env) :: starEach es X.env := by rfl) (hpl : (backTo pos (starEach es X.env)).any (·.1) = false := by rfl) : ME X Wx (.Call (.Name "str" p) (e :: es) [] pos) (m_call (g_strO C g) ms) := by
  obtain ⟨fd, ps, F, b⟩ := c.ex
  exact me_bty (c_strO h.gu F O (h.room.mono hj) b) b_strO hg hm ha (by rfl) (by decide) (by decide) he hpl
end
end Bv
set_option Elab.async false
set_option linter.all false
set_option maxRecDepth 100000
set_option maxHeartbeats 4000000
/-! By value: facts, from the head's tests. -/
namespace Bv
open PySem PySem.Spec L2
open PyProof.Rows hiding St

def t_isT (u : PySem.W.Frag → Value) (tab : List (String × Bool)) (own : List (Str × Bool)) (K : PySem.W.Frag) : Bool := (tab.all fun p => decide (PySem.W.kitOne K (.type p.1) (u K) = some p.2)) && own.all fun p => t_own p.1 K && decide (PySem.W.kitOne K (.ref (He.ga K p.1)) (u K) = some p.2)
def t_isTs (us : List Value) (tab : List (String × Bool)) (own : List (Str × Bool)) (K : PySem.W.Frag) : Bool := (tab.all fun p => decide (PySem.W.kitAny K (.type p.1) us = some p.2)) && own.all fun p => t_own p.1 K && decide (PySem.W.kitAny K (.ref (He.ga K p.1)) us = some p.2)
def tabsOf (Ts : List String) : List (String × Bool) := ["NoneType", "bool", "int", "str", "tuple", "list", "dict"].map fun k => (k, Ts.any fun T => kitB k T == some true)
section
variable {K : PySem.W.Frag} {h : Heap} {mg : Str → Option Value}
theorem isT_ok {u : PySem.W.Frag → Value} {tab : List (String × Bool)} {own : List (Str × Bool)} (c : t_isT u tab own K = true) : IsT K (u K) tab own := by
  obtain ⟨c1, c2⟩ := He.ba c
  refine ⟨fun k b q => of_decide_eq_true (List.all_eq_true.mp c1 (k, b) (lk_mem q)), fun C b q => ?_⟩
  obtain ⟨c3, c4⟩ := He.ba (List.all_eq_true.mp c2 (C, b) (PySem.mem_of_lookup q))
  exact ⟨own_ok c3, of_decide_eq_true c4⟩
theorem isTs_ok {us : List Value} {tab : List (String × Bool)} {own : List (Str × Bool)} (c : t_isTs us tab own K = true) : IsTs K us tab own := by
  obtain ⟨c1, c2⟩ := He.ba c
  refine ⟨fun k b q => of_decide_eq_true (List.all_eq_true.mp c1 (k, b) (lk_mem q)), fun C b q => ?_⟩
  obtain ⟨c3, c4⟩ := He.ba (List.all_eq_true.mp c2 (C, b) (PySem.mem_of_lookup q))
  exact ⟨own_ok c3, of_decide_eq_true c4⟩
def t_attr (Cs : List Str) (f : Str) (K : PySem.W.Frag) : Bool := Cs.all fun C => t_cls C K && t_noat C f K
theorem attr_ok {Cs : List Str} {f : Str} (c : t_attr Cs f K = true) : AttrOk K Cs f := fun C m => by
  obtain ⟨c1, c2⟩ := He.ba (List.all_eq_true.mp c C m)
  exact ⟨He.cls_ok c1, He.noat_ok c2⟩
theorem glo_ok' (X : K.In h) (G : h.Ns mainGlobals mg) {x : Str} (c : t_glo x K = true) : mg x = some (.ref (He.ga K x)) := He.glo_ok X G c
theorem free_ok' (X : K.In h) (G : h.Ns mainGlobals mg) {x : Str} (c : t_free x K = true) : mg x = none := He.free_ok X G c
theorem txt_ok' (X : K.In h) (G : h.Ns mainGlobals mg) {x z : Str} (c : t_txt x z K = true) : ∃ t, mg x = some (.str z t) := He.str_ok X G c
theorem int_ok' (X : K.In h) (G : h.Ns mainGlobals mg) {x : Str} {i : Int} (c : t_int x i K = true) : ∃ t, mg x = some (.int i t) := He.int_ok X G c
theorem mkr_ok' {C : Str} (c : t_mkr C K = true) : Mk K (He.ga K C) (He.ma K (He.ga K C) "__init__") := He.mkr_ok c
end
section
variable {P : Program} {w : World} {K : PySem.W.Frag} {mg : Str → Option Value} {base : Heap} {k : Nat} {f : Addr} {fd : FuncData} {ps : List Str} {sp : Sp} {x qual : Str} {pa : Arguments} {bd : List Stmt} {sc : Scope} {dl : List V}
/-- a def without defaults -/
theorem kept0 (F : FunD K x qual pa bd sc [] [] f fd) (ok : FnG P w K mg base k f fd ps sp)
    (h : ∀ (kV doc pm : Value) (an : Option Addr) (cdv ct : Value) (us : List Value), us.length = ps.length → bindArgs (PySem.W.fnOf x qual pa bd sc .none kV doc pm an cdv ct) ⟨us, []⟩ = pure (ps.zip us)) : Kept P w K mg base k f sp := ⟨⟨fd, ps, ok, F.bindsN h⟩, F.kp⟩
/-- a def with defaults, all of them given -/
theorem keptA (F : FunD K x qual pa bd sc dl [] f fd) (ok : FnG P w K mg base k f fd ps sp) (hd : dl ≠ [])
    (h : ∀ (T : Addr) (kV doc pm : Value) (an : Option Addr) (cdv ct : Value) (us its : List Value), us.length = ps.length → its.length = dl.length →
      ∃ k, bindArgs (PySem.W.fnOf x qual pa bd sc (.ref T) kV doc pm an cdv ct) ⟨us, []⟩ = seqItems? (.ref T) >>= k ∧ k (some its.toArray) = pure (ps.zip (us ++ its.drop dl.length))) : Kept P w K mg base k f sp := by
  obtain ⟨ds, r, b⟩ := F.binds1 ps.length dl.length hd (by omega) h
  rw [List.drop_length] at r
  cases r
  exact ⟨⟨fd, ps, ok, b⟩, F.kp⟩
/-- .. the last ones not given -/
theorem keptD {dxs : List D} (F : FunD K x qual pa bd sc dl [] f fd) (ok : FnG P w K mg base k f fd ps sp) (n j : Nat) (hd : dl ≠ []) (hn : n + (dl.length - j) = ps.length) (a : ∀ W H, AVs K W H dxs (dl.drop j))
    (h : ∀ (T : Addr) (kV doc pm : Value) (an : Option Addr) (cdv ct : Value) (us its : List Value), us.length = n → its.length = dl.length →
      ∃ k, bindArgs (PySem.W.fnOf x qual pa bd sc (.ref T) kV doc pm an cdv ct) ⟨us, []⟩ = seqItems? (.ref T) >>= k ∧ k (some its.toArray) = pure (ps.zip (us ++ its.drop j))) : KeptD P w K mg base k f sp dxs := by
  obtain ⟨ds, r, b⟩ := F.binds1 n j hd hn h
  exact ⟨⟨fd, ps, dl.drop j, ds, ok, b, ⟨a, r⟩⟩, F.kp⟩
end
/-! ### the end -/
theorem law_sp {K : PySem.W.Frag} {g : List D → PR} (hg : ∀ ns : List Int, ns.length ≤ 63 → g [.scr ns] = .ok (.bl true)) (H : Hp) (a : Addr) (ns : List Int) (hl : ns.length ≤ 63) (only : Only H) (hS : SqL K H a (ns.map V.int)) : spP K 1 g [.ref a] H (fun v _ => v = .bl true) fun _ _ _ => False := by
  refine ⟨rfl, fun _ => False, [.scr ns], fun _ z => z.elim, .cons (.scr ?_) .nil, ?_⟩
  · rcases hS with h | h
    · exact .inl ⟨fun z => z, h⟩
    · exact .inr h
  · rw [hg ns hl]
    intro H' v k a
    cases a
    rfl
end Bv
set_option Elab.async false
set_option linter.all false
set_option maxRecDepth 100000
set_option maxHeartbeats 4000000
/-! By value: len(set(texts)). -/
namespace Bv
open PySem PySem.Spec L2
open PyProof.Rows hiding St
variable [HasW]

/-- each text once, as it was first met -/
def sawStep (acc : List Str) (x : Str) : List Str := if acc.contains x then acc else acc ++ [x]
def sawn (xs : List Str) : List Str := xs.foldl sawStep []
theorem sawn_succ {xs : List Str} {i : Nat} (h : i < xs.length) : sawn (xs.take (i + 1)) = sawStep (sawn (xs.take i)) (xs.getD i Str.empty) := by
  unfold sawn
  rw [List.take_add_one, List.getElem?_eq_getElem h, Option.toList_some, List.foldl_append]
  simp [List.getD_eq_getElem?_getD, h]
theorem saw_contains (acc : List Str) (x k : Str) : (sawStep acc x).contains k = (acc.contains k || decide (k = x)) := by
  unfold sawStep
  by_cases h : acc.contains x = true
  · rw [if_pos h]
    by_cases e : k = x
    · rw [e, h]; rfl
    · simp [e]
  · rw [if_neg h]
    simp [List.contains_append, Bool.or_comm, eq_comm]
theorem saw_length (acc : List Str) (x : Str) : (sawStep acc x).length = if acc.contains x then acc.length else acc.length + 1 := by
  unfold sawStep
  split <;> simp
theorem sawn_le : ∀ (xs acc : List Str), (xs.foldl sawStep acc).length ≤ acc.length + xs.length
  | [], acc => by simp
  | x :: r, acc => by
    have h := sawn_le r (sawStep acc x)
    have h2 := saw_length acc x
    simp only [List.foldl_cons, List.length_cons]
    split at h2 <;> omega
section
variable {prog : Program} {w : World} {A : Around} {R : Result → Shared → Prop} {it : Addr} {fp wr : List Addr} {G : Array GenState → Array GenState → Prop} {n : Nat} {P : Nat → Value → Prop} {St : Nat → Shared → Prop}
/-- the loop that fills a set -/
theorem fill (W : WalksS prog w A.in1 it fp wr G n P St) (S : Addr) (apart : S ∉ fp) (xs : List Str) (many : xs.length = n) (few : xs.length + 1 < scanBound) (says : ∀ i v, P i v → ∃ t, v = .str (xs.getD i Str.empty) t) :
    ∀ (k i : Nat) (s : Shared), n - i = k → i ≤ n → St i s → s.heap.SetOf (PySem.strKind prog w) S (fun k => (sawn (xs.take i)).contains k) (sawn (xs.take i)).length →
      (∀ s', Moved (S :: wr) G s s' → s'.heap.SetOf (PySem.strKind prog w) S (fun k => (sawn (xs.take n)).contains k) (sawn (xs.take n)).length → R (.ok (.ret .none)) s') →
      codeAny (model prog w) A (.builtin "set.update.loop" ⟨[.ref S, .ref it], []⟩) R s := by
  have out : S ∉ wr := fun z => apart (W.sub _ z)
  have more : ∀ b ∈ wr, b ∈ S :: wr := fun b z => List.mem_cons_of_mem _ z
  have stay : ∀ {i : Nat} {s s' : Shared}, Moved wr G s s' → s.heap.SetOf (PySem.strKind prog w) S (fun k => (sawn (xs.take i)).contains k) (sawn (xs.take i)).length → s'.heap.SetOf (PySem.strKind prog w) S (fun k => (sawn (xs.take i)).contains k) (sawn (xs.take i)).length :=
    fun mv ⟨o, es, ep, t, q, rest⟩ => ⟨o, es, ep, t, mv.heap S _ out q, rest⟩
  intro k
  induction k with
  | zero =>
    intro i s e1 e2 st set fin
    obtain rfl : i = n := by omega
    refine (codeAny_builtin PyProof.Rows.F.entry_set_update_loop ?_)
    rw [(Around.under_plainId PyProof.Rows.F.plain_set_update_loop _)]
    show wpAny _ A.in1 (pyNext (.ref it) >>= _) _ _ s
    refine wpAny_bind (W.done s _ _ st fun s' mv => ?_)
    exact wpAny_pure (fin s' (mv.mono more) (stay mv set))
  | succ k ih =>
    intro i s e1 e2 st set fin
    have lt : i < n := by omega
    refine (codeAny_builtin PyProof.Rows.F.entry_set_update_loop ?_)
    rw [(Around.under_plainId PyProof.Rows.F.plain_set_update_loop _)]
    show wpAny _ A.in1 (pyNext (.ref it) >>= _) _ _ s
    refine wpAny_bind (W.item i s _ _ lt st fun v s' p st' mv => ?_)
    obtain ⟨t, rfl⟩ := says i v p
    have set' := stay mv set
    have room : (sawn (xs.take i)).length + 1 < scanBound := by
      have h := sawn_le (xs.take i) []
      have h2 := List.length_take_le i xs
      unfold sawn at *
      simp only [List.length_nil, Nat.zero_add] at h
      omega
    show wpAny _ A.in1 (holding [Value.str (xs.getD i Str.empty) t] (setAdd S (.str (xs.getD i Str.empty) t)) >>= _) _ _ s'
    refine (wpAny_bind (wpAny_holding ?_))
    unfold setAdd
    refine (wpAny_holding (wpAny_bind ((PySem.strKind prog w).pyHash (k := xs.getD i Str.empty) (strKind_is _ _ _ _) ?_)))
    refine wpAny_setAddHashed_of (knd := PySem.strKind prog w) (s := { s' with toks := s'.toks + 1 }) (strKind_is _ _ _ _) rfl set' room fun h' but set2 => ?_
    have set3 : h'.SetOf (PySem.strKind prog w) S (fun k => (sawn (xs.take (i + 1))).contains k) (sawn (xs.take (i + 1))).length := SetOf_congr set2 (fun k => by rw [sawn_succ (by omega), saw_contains]) (by rw [sawn_succ (by omega), saw_length])
    refine wpAny_pure ⟨plainId_quiet PyProof.Rows.F.plain_set_update_loop _, ih (i + 1) _ (by omega) lt (W.frame _ s' _ _ st' (Nat.le_succ _) fun b z o q => ?_) set3 fun s2 mv2 q2 => ?_⟩
    · rw [but.2 b fun y => apart (by rw [← y]; exact z)]; exact q
    · refine fin s2 (Moved.trans W.gtrans ((mv.mono more).then_heap (Nat.le_succ _) fun b o z q => ?_) mv2) q2
      rw [but.2 b fun y => z (by rw [y]; exact List.mem_cons_self)]; exact q
end
section
variable {prog : Program} {w : World} {A : Around} {E : Value → Shared → Prop} {s : Shared}

set_option maxHeartbeats 3200000 in
theorem set_list {l : Addr} {items : Array Value} {xs : List Str} {Q : Value → Shared → Prop} (calm : A.handled = none) (at_ : s.heap.IsList l items) (are : StrsAre items.toList xs) (few : xs.length + 1 < scanBound)
    (fin : ∀ (h' : Heap) (tk : Nat), h'.SetOf (PySem.strKind prog w) s.heap.objs.size (fun k => (sawn xs).contains k) (sawn xs).length → (∀ b o, b < s.heap.objs.size → s.heap.get? b = some o → h'.get? b = some o) → Q (.ref s.heap.objs.size) { s with heap := h', toks := tk }) :
    wpAny (model prog w) A (call (.type "set") [.ref l]) Q E s := by
  obtain ⟨c, tl, known⟩ := PySem.F.called_set.mro
  have mk := PySem.F.called_set.made
  have below := PySem.F.called_set.sub
  have no1 := PySem.F.called_set.notType
  have may := PySem.F.called_set.canCreate
  have chk := PySem.F.typeCall_set_1 (.ref l)
  have slen : xs.length = items.size := by rw [← StrsAre.len_eq are, Array.length_toList]
  refine wpAny_call (codeAny_of_tree ?_)
  show wpAny _ _ (callAny (.type "set") _) _ E s
  refine (wpAny_pure ⟨Code.quiet_builtin _ (by decide +kernel), (codeAny_builtin PySem.F.entry_type_call ?_)⟩)
  rw [(Around.under_plain (weight_type_call_type "set" [.ref l] []) rfl)]
  (repeat (any_goals (first | assumption | wp_step)))
  let new (led : Bool) : Heap := s.heap.push { cls := .type "set", dict := none, data := .set #[] 0 (.fresh 0 0 led) }
  refine codeAny_mono (code_set_new_1 (.ref l) (E := E) (Q₁ := fun obj s1 => ∃ led : Bool, obj = .ref s.heap.objs.size ∧ s1 = { s with heap := new led }) fun led => ⟨led, rfl, rfl⟩) fun y s1 z => ?_
  match y, z with
  | .error e, z => exact z
  | .ok (.ret obj), z =>
    obtain ⟨led, rfl, rfl⟩ := z
    have there : (new led).get? s.heap.objs.size = some { cls := .type "set", dict := none, data := .set #[] 0 (.fresh 0 0 led) } := Heap.get?_push_size _ rfl
    have isSet : Shared.TypeIs { s with heap := new led } (.ref s.heap.objs.size) "set" := ⟨_, there, rfl⟩
    have look := PySem.F.called_set.init.lookup
    have bound := PySem.F.called_set.init.bind (.ref s.heap.objs.size)
    (repeat (any_goals (first | assumption | wp_step)))
    refine codeAny_mono (codeAny_call_builtin (R := wants (fun r s2 => r = .none ∧ ∃ h' tk, s2 = { s with heap := h', toks := tk } ∧ h'.SetOf (PySem.strKind prog w) s.heap.objs.size (fun k => (sawn xs).contains k) (sawn xs).length ∧ (∀ b o, b < s.heap.objs.size → s.heap.get? b = some o → h'.get? b = some o)) E)
      PySem.F.called_set.init.plain PySem.F.entry_set_init (check_set_init_1 isSet ?_)) fun y2 s2 z2 => ?_
    · obtain ⟨ob, hob, cl, n, dt⟩ := at_
      obtain ⟨obc, obd, obt, obs⟩ := ob
      simp only at cl dt
      subst cl dt
      have ob2 : (new led).get? l = some { cls := .type "list", dict := obd, data := .seq items n, slots := obs } := Heap.get?_push_of_some _ hob
      have no2 := PySem.F.sub_list_set
      have no3 := PySem.F.sub_list_frozenset
      have no4 : (Value.type "list" == Value.type "dict") = false := by decide
      have isL : (new led).IsList l items := ⟨_, ob2, rfl, n, rfl⟩
      unfold Builtin.«set.__init__» noKeywords Builtin.Frozenset.updateFrom
      generalize hp : pyIter = it
      wp_walk
      subst hp
      refine wpAny_pyIter_list isL ?_
      refine (wpAny_bind (wpAny_runValue ?_))
      have lt : l < s.heap.objs.size := Heap.lt_size hob
      have sz : (new led).objs.size = s.heap.objs.size + 1 := Heap.size_push ..
      have off1 : l ≠ (new led).objs.size := by rw [sz]; exact Nat.ne_of_lt (Nat.lt_succ_of_lt lt)
      have off2 : s.heap.objs.size ∉ [(new led).objs.size, l] := by
        simp only [List.mem_cons, List.not_mem_nil, or_false, not_or]
        exact ⟨by rw [sz]; exact Nat.ne_of_lt (Nat.lt_succ_self _), Nat.ne_of_gt lt⟩
      refine fill ((Walks.list (show A.in1.in1.in1.handled = none by simp [calm]) _ l off1 items).toS) s.heap.objs.size off2 xs slen few (fun i v q => SS.strs_at are i v (by rw [Array.getElem?_toList]; exact q)) (items.size - 0) 0 _ (by omega) (Nat.zero_le _) ⟨⟨_, Heap.get?_push_size _ rfl, rfl, rfl⟩, isL.push _⟩ ?_ ?_
      · have there2 : ((new led).push { cls := .type "list_iterator", data := .fields #[.ref l, .int 0 0] }).get? s.heap.objs.size = some { cls := .type "set", dict := none, data := .set #[] 0 (.fresh 0 0 led) } := Heap.get?_push_of_some _ there
        exact SetOf_congr ((setObjOf_fresh (knd := PySem.strKind prog w) led).setOf there2 (by unfold scanBound; omega)) (fun _ => rfl) rfl
      · intro s3 mv set3
        obtain ⟨h3, g3, d3, t3, o3⟩ := s3
        obtain rfl : g3 = s.gens := mv.gens
        obtain rfl : d3 = s.drawn := mv.drawn
        obtain rfl : o3 = s.os := mv.os
        show (wpAny _ _ _ _ _ _)
        refine (wpAny_pure ?_)
        show (wpAny _ _ (ret Value.none) _ _ _)
        refine wpAny_pure ⟨rfl, h3, t3, rfl, by rw [← slen, List.take_length] at set3; exact set3, fun b o hb q => ?_⟩
        exact mv.heap b o (by simp only [List.mem_cons, List.not_mem_nil, or_false, not_or]; exact ⟨Nat.ne_of_lt hb, by rw [sz]; exact Nat.ne_of_lt (Nat.lt_succ_of_lt hb)⟩) (Heap.get?_push_of_some _ (Heap.get?_push_of_some _ q))
    · match y2, z2 with
      | .error e, z2 => exact z2
      | .ok (.ret r), z2 =>
        obtain ⟨rfl, h3, t3, rfl, set3, keep3⟩ := z2
        (repeat (any_goals (first | assumption | wp_step)))
        exact fin _ _ set3 keep3
      | .ok .next, z2 => exact z2.elim
      | .ok .brk, z2 => exact z2.elim
      | .ok .cont, z2 => exact z2.elim
  | .ok .next, z => exact z.elim
  | .ok .brk, z => exact z.elim
  | .ok .cont, z => exact z.elim
end
end Bv
set_option Elab.async false
set_option linter.all false
set_option maxRecDepth 100000
set_option maxHeartbeats 4000000
/-! By value: len(set(texts)), of a tuple; the rule. -/
namespace Bv
open PySem PySem.Spec L2
open PyProof.Rows hiding St
variable [HasW]
section
variable {prog : Program} {w : World} {A : Around} {E : Value → Shared → Prop} {s : Shared}

set_option maxHeartbeats 3200000 in
theorem set_tuple {l : Addr} {items : Array Value} {xs : List Str} {Q : Value → Shared → Prop} (calm : A.handled = none) (at_ : s.heap.IsTuple l items) (are : StrsAre items.toList xs) (few : xs.length + 1 < scanBound)
    (fin : ∀ (h' : Heap) (tk : Nat), h'.SetOf (PySem.strKind prog w) s.heap.objs.size (fun k => (sawn xs).contains k) (sawn xs).length → (∀ b o, b < s.heap.objs.size → s.heap.get? b = some o → h'.get? b = some o) → Q (.ref s.heap.objs.size) { s with heap := h', toks := tk }) :
    wpAny (model prog w) A (call (.type "set") [.ref l]) Q E s := by
  obtain ⟨c, tl, known⟩ := PySem.F.called_set.mro
  have mk := PySem.F.called_set.made
  have below := PySem.F.called_set.sub
  have no1 := PySem.F.called_set.notType
  have may := PySem.F.called_set.canCreate
  have chk := PySem.F.typeCall_set_1 (.ref l)
  have slen : xs.length = items.size := by rw [← StrsAre.len_eq are, Array.length_toList]
  refine wpAny_call (codeAny_of_tree ?_)
  show wpAny _ _ (callAny (.type "set") _) _ E s
  refine (wpAny_pure ⟨Code.quiet_builtin _ (by decide +kernel), (codeAny_builtin PySem.F.entry_type_call ?_)⟩)
  rw [(Around.under_plain (weight_type_call_type "set" [.ref l] []) rfl)]
  (repeat (any_goals (first | assumption | wp_step)))
  let new (led : Bool) : Heap := s.heap.push { cls := .type "set", dict := none, data := .set #[] 0 (.fresh 0 0 led) }
  refine codeAny_mono (code_set_new_1 (.ref l) (E := E) (Q₁ := fun obj s1 => ∃ led : Bool, obj = .ref s.heap.objs.size ∧ s1 = { s with heap := new led }) fun led => ⟨led, rfl, rfl⟩) fun y s1 z => ?_
  match y, z with
  | .error e, z => exact z
  | .ok (.ret obj), z =>
    obtain ⟨led, rfl, rfl⟩ := z
    have there : (new led).get? s.heap.objs.size = some { cls := .type "set", dict := none, data := .set #[] 0 (.fresh 0 0 led) } := Heap.get?_push_size _ rfl
    have isSet : Shared.TypeIs { s with heap := new led } (.ref s.heap.objs.size) "set" := ⟨_, there, rfl⟩
    have look := PySem.F.called_set.init.lookup
    have bound := PySem.F.called_set.init.bind (.ref s.heap.objs.size)
    (repeat (any_goals (first | assumption | wp_step)))
    refine codeAny_mono (codeAny_call_builtin (R := wants (fun r s2 => r = .none ∧ ∃ h' tk, s2 = { s with heap := h', toks := tk } ∧ h'.SetOf (PySem.strKind prog w) s.heap.objs.size (fun k => (sawn xs).contains k) (sawn xs).length ∧ (∀ b o, b < s.heap.objs.size → s.heap.get? b = some o → h'.get? b = some o)) E)
      PySem.F.called_set.init.plain PySem.F.entry_set_init (check_set_init_1 isSet ?_)) fun y2 s2 z2 => ?_
    · obtain ⟨ob, hob, cl, n, dt⟩ := at_
      obtain ⟨obc, obd, obt, obs⟩ := ob
      simp only at cl dt
      subst cl dt
      have ob2 : (new led).get? l = some { cls := .type "tuple", dict := obd, data := .seq items n, slots := obs } := Heap.get?_push_of_some _ hob
      have no2 := PySem.F.sub_tuple_set
      have no3 := PySem.F.sub_tuple_frozenset
      have no4 : (Value.type "tuple" == Value.type "dict") = false := by decide
      have isL : (new led).IsTuple l items := ⟨_, ob2, rfl, n, rfl⟩
      unfold Builtin.«set.__init__» noKeywords Builtin.Frozenset.updateFrom
      generalize hp : pyIter = it
      wp_walk
      subst hp
      refine wpAny_pyIter_tuple isL ?_
      refine (wpAny_bind (wpAny_runValue ?_))
      have lt : l < s.heap.objs.size := Heap.lt_size hob
      have sz : (new led).objs.size = s.heap.objs.size + 1 := Heap.size_push ..
      have off1 : l ≠ (new led).objs.size := by rw [sz]; exact Nat.ne_of_lt (Nat.lt_succ_of_lt lt)
      have off2 : s.heap.objs.size ∉ [(new led).objs.size, l] := by
        simp only [List.mem_cons, List.not_mem_nil, or_false, not_or]
        exact ⟨by rw [sz]; exact Nat.ne_of_lt (Nat.lt_succ_self _), Nat.ne_of_gt lt⟩
      refine fill ((Walks.tuple (show A.in1.in1.in1.handled = none by simp [calm]) _ l off1 items).toS) s.heap.objs.size off2 xs slen few (fun i v q => SS.strs_at are i v (by rw [Array.getElem?_toList]; exact q)) (items.size - 0) 0 _ (by omega) (Nat.zero_le _) ⟨⟨_, Heap.get?_push_size _ rfl, rfl, rfl⟩, isL.push _⟩ ?_ ?_
      · have there2 : ((new led).push { cls := .type "tuple_iterator", data := .fields #[.ref l, .int 0 0] }).get? s.heap.objs.size = some { cls := .type "set", dict := none, data := .set #[] 0 (.fresh 0 0 led) } := Heap.get?_push_of_some _ there
        exact SetOf_congr ((setObjOf_fresh (knd := PySem.strKind prog w) led).setOf there2 (by unfold scanBound; omega)) (fun _ => rfl) rfl
      · intro s3 mv set3
        obtain ⟨h3, g3, d3, t3, o3⟩ := s3
        obtain rfl : g3 = s.gens := mv.gens
        obtain rfl : d3 = s.drawn := mv.drawn
        obtain rfl : o3 = s.os := mv.os
        show (wpAny _ _ _ _ _ _)
        refine (wpAny_pure ?_)
        show (wpAny _ _ (ret Value.none) _ _ _)
        refine wpAny_pure ⟨rfl, h3, t3, rfl, by rw [← slen, List.take_length] at set3; exact set3, fun b o hb q => ?_⟩
        exact mv.heap b o (by simp only [List.mem_cons, List.not_mem_nil, or_false, not_or]; exact ⟨Nat.ne_of_lt hb, by rw [sz]; exact Nat.ne_of_lt (Nat.lt_succ_of_lt hb)⟩) (Heap.get?_push_of_some _ (Heap.get?_push_of_some _ q))
    · match y2, z2 with
      | .error e, z2 => exact z2
      | .ok (.ret r), z2 =>
        obtain ⟨rfl, h3, t3, rfl, set3, keep3⟩ := z2
        (repeat (any_goals (first | assumption | wp_step)))
        exact fin _ _ set3 keep3
      | .ok .next, z2 => exact z2.elim
      | .ok .brk, z2 => exact z2.elim
      | .ok .cont, z2 => exact z2.elim
  | .ok .next, z => exact z.elim
  | .ok .brk, z => exact z.elim
  | .ok .cont, z => exact z.elim
end
def g_lenset : List Bv.X → Sto → R Bv.X
  | [x], S => (match (items S x).bind strs? with
    | some xs => if decide (xs.length + 1 < scanBound) then .ok (.d (.int (sawn xs).length)) S else .bad
    | none => .bad)
  | _, _ => .bad
def m_lenset (m : M) : M := fun e S => (m e S).bind fun x S1 => g_lenset [x] S1
section
variable {X : Cx} {Wx : WX} {p p2 q pos : Pos} {a : Expr} {m : M}
theorem me_lenset (hc : X.calm = true) (hg : Gl X "len") (hm : X.mg "len" = none) (hg2 : Gl X "set") (hm2 : X.mg "set" = none) (ha : ME X Wx a m) (na : starEach [a] X.env = (false, eval a X.env) :: starEach [] X.env := by rfl) :
    ME X Wx (.Call (.Name "len" p) [.Call (.Name "set" p2) [a] [] q] [] pos) (m_lenset m) := ⟨fun pins s σ H Q I ⟨Z, ρ, e, S, st, ev, w⟩ => by
  refine Call_ (ld_blt I hg hm boot_len (callWith_builtin1 (args_cons (Call_ (ld_blt I hg2 hm2 boot_set (callWith_type1 (args_cons (thn (ha.run pins s σ H _ I (tt_bind (R' := fun v H1 => ∃ (b : Addr) (xs : List Str), v = .ref b ∧ (SqT X.K H1 b (xs.map V.str) ∨ SqL X.K H1 b (xs.map V.str)) ∧ xs.length + 1 < scanBound ∧ Q (.int (sawn xs).length) H1) st ev w
    fun ρ1 H1 v x S1 s1 g1 ev1 a1 p1 => ?_)) fun v s1 ⟨x, H1, I1, r1, b, xs, ex, hq, few, q1⟩ => args_nil ?_) na) na rfl))) rfl) rfl rfl))
  · have p1 : PostG (AX X.K) X.K Z ρ1 H1 Wx σ Q (match (items S1 x).bind strs? with
      | some xs => if decide (xs.length + 1 < scanBound) then .ok (.d (.int (sawn xs).length)) S1 else .bad
      | none => .bad) := p1
    cases y : (items S1 x).bind strs? with
    | none => rw [y] at p1; exact p1.elim
    | some xs =>
      rw [y] at p1
      have p1 : PostG (AX X.K) X.K Z ρ1 H1 Wx σ Q (if decide (xs.length + 1 < scanBound) then .ok (.d (.int (sawn xs).length)) S1 else .bad) := p1
      split at p1
      · rename_i few
        obtain ⟨ys, h1, h2⟩ := Option.bind_eq_some_iff.mp y
        obtain ⟨b, us, rfl, hq, hp⟩ := a1.items s1 h1
        obtain ⟨rfl, _⟩ := strs_inv hp h2
        exact ⟨b, xs, rfl, hq, of_decide_eq_true few, PostG.ret0 p1 s1 (.d (.int _))⟩
      · exact p1.elim
  · subst ex
    cases r1
    have fin : ∀ (h' : Heap) (tk : Nat), h'.SetOf (PySem.strKind X.prog X.w) s1.heap.objs.size (fun k => (sawn xs).contains k) (sawn xs).length → (∀ b o, b < s1.heap.objs.size → s1.heap.get? b = some o → h'.get? b = some o) →
        wpAny (model X.prog X.w) X.A (spliced (backTo pos (starEach [] X.env))) (fun vs s2 => wpAny (model X.prog X.w) X.A (call (.builtin "len") (Value.ref s1.heap.objs.size :: vs)) (EP X pins σ Q) X.xe s2) X.xe { s1 with heap := h', toks := tk } := fun h' tk set keep => by
      refine args_nil ?_
      obtain ⟨o, es, ep, t, ho, hex, hd, _, _, _, hf, hn⟩ := set
      have I2 : Inv X pins σ H1 { s1 with heap := h', toks := tk } := I1.kept fun b o e => keep b o (Heap.lt_size e) e
      have le := sawn_le xs []
      refine call_len_set ho hex hd hf (by rw [hn]; unfold sawn scanBound at *; simp only [List.length_nil, Nat.zero_add] at le; omega) ⟨.int (sawn xs).length, H1, I2.tok _, ⟨_, by rw [hn]⟩, q1⟩
    rcases hq with hq | hq
    · obtain ⟨its, r, pl, _⟩ := I1.tuple hq
      exact set_tuple (I1.ok.hd hc) pl (by simpa using strsAre_of r) few fun h' tk set keep => fin h' tk set keep
    · obtain ⟨its, r, pl, _⟩ := I1.list hq
      exact set_list (I1.ok.hd hc) pl.isList (by simpa using strsAre_of r) few fun h' tk set keep => fin h' tk set keep⟩
end
end Bv
set_option Elab.async false
set_option linter.all false
set_option maxRecDepth 100000
set_option maxHeartbeats 4000000
/-! By value: classmethods, a class held by a name, try that runs through, x op= e, methods of texts. -/
namespace Bv
open PySem PySem.Spec L2
open PyProof.Rows hiding St

/-! ### C.m(..) of a classmethod -/
structure ClsM (K : PySem.W.Frag) (C m : Str) : Prop where
  rd : ClX.CRead K (He.ga K C) (.type "type")
  me : ClX.CMet K (He.ga K C) (.type "type") m (He.ma K (He.ga K C) m) (cmAd C m K)
def t_cm (C m : Str) (K : PySem.W.Frag) : Bool := PySem.W.readsIn K (He.ga K C) (.type "type") && (He.eqO (PySem.W.specialIn K (.ref (He.ga K C)) "__getattribute__") (some (some (.builtin "type.__getattribute__"))) &&
  ((match PySem.W.findCls K (.ref (He.ga K C)) (.type "type") m with
    | some (.get (.builtin id) (.ref p) .none (.ref c)) => decide (id = "classmethod.__get__") && (decide (p = He.ma K (He.ga K C) m) && decide (c = He.ga K C))
    | _ => false) && ((match PySem.W.recIn K (He.ma K (He.ga K C) m) "classmethod" with
    | some (.ref _ :: _) => true
    | _ => false) && PySem.W.fnIn K (cmAd C m K))))
theorem cm_ok {C m : Str} {K : PySem.W.Frag} (h : t_cm C m K = true) : ClsM K C m := by
  obtain ⟨c1, h⟩ := He.ba h
  obtain ⟨c2, h⟩ := He.ba h
  obtain ⟨c3, h⟩ := He.ba h
  obtain ⟨c4, c5⟩ := He.ba h
  refine ⟨⟨c1, He.eqO_ok c2⟩, ⟨?_, ?_, c5⟩⟩
  · split at c3
    · rename_i id p c q
      obtain ⟨e1, e2⟩ := He.ba c3
      obtain ⟨e2, e3⟩ := He.ba e2
      obtain rfl := of_decide_eq_true e1
      obtain rfl := of_decide_eq_true e2
      obtain rfl := of_decide_eq_true e3
      exact q
    · cases c3
  · split at c4
    · rename_i g rest q
      refine ⟨rest, ?_⟩
      have e : cmAd C m K = g := by unfold cmAd; rw [q]
      rw [e]; exact q
    · cases c4
def m_cmeth (C : Str) (g : List Bv.X → Sto → R Bv.X) (mo : M) (ms : MG (List Bv.X)) : M := fun e S => (mo e S).bind fun x S1 => match x with
  | .d (.gl D) => if decide (D = C) then (ms e S1).bind fun xs S2 => g (x :: xs) S2 else .bad
  | _ => .bad
section
variable [HasW] {X : Cx} {Wx : WX} {n : Nat} {x : Str} {p pos apos : Pos} {e o : Expr} {es : List Expr} {ms : MG (List Bv.X)} {mo m : M} {g : List Bv.X → Sto → R Bv.X} {C mth : Str} {pl : Sem Bool}
theorem me_cm (cc : CalX X Wx (.ref (cmAd C mth X.K)) n g) (k : ClsM X.K C mth) (ho : ME X Wx o mo) (ha : MA X Wx (e :: es) ms) (hst : starEach (e :: es) X.env = (false, eval e X.env) :: starEach es X.env := by rfl) (hpl : (backTo pos (starEach es X.env)).any (·.1) = false := by rfl)
    (ht : eval (.Call (.Attribute o mth apos) (e :: es) [] pos) X.env = (do
      let ov ← eval o X.env
      standAt apos.atName
      let (f, first) ← holding [ov] (getMethod ov mth pl)
      callWith pos f first (backTo pos (starEach (e :: es) X.env)) (backToKw pos (keywordEach [] X.env))) := by rfl) : ME X Wx (.Call (.Attribute o mth apos) (e :: es) [] pos) (m_cmeth C (arity n g) mo ms) := ⟨fun pins s σ H Q I ⟨Z, ρ, e, S, st, ev, q⟩ => by
  refine PySem.W.methodCall_KW (pl := pl) (thn (ho.run pins s σ H _ I (tt_bind (R' := fun v H1 => v = .ref (He.ga X.K C) ∧ ∃ (ρ1 : List Addr) (S1 : Sto), Sta X.K Z ρ1 S1 H1 ∧ EvOk X.K (Wn Z ρ1) ρ1 H1 e σ ∧ PostG (AX X.K) X.K Z ρ1 H1 Wx σ Q ((ms e S1).bind fun xs S2 => arity n g (.d (.gl C) :: xs) S2)) st ev q
    fun ρ1 H1 v y S1 s1 g1 ev1 a1 p1 => by
      cases a1 with
      | r _ => exact p1.elim
      | d a =>
        cases a with
        | gl D =>
          have p2 : PostG (AX X.K) X.K Z ρ1 H1 Wx σ Q (if decide (D = C) then (ms e S1).bind fun xs S2 => arity n g (.d (.gl D) :: xs) S2 else .bad) := p1
          clear p1
          by_cases hd : D = C
          · rw [if_pos (decide_eq_true hd)] at p2
            subst hd
            exact ⟨rfl, ρ1, S1, s1, ev1, p2⟩
          · rw [if_neg (by simpa using hd)] at p2; exact p2.elim
        | _ => exact p1.elim)) fun u s1 ⟨x, H1, I1, rx, ex, ρ1, S1, st1, ev1, p1⟩ => ?_) ht
  subst ex
  obtain rfl : u = Value.ref (He.ga X.K C) := rx
  refine ClX.getmethcm_ok I1 k.rd k.me fun s2 I2 => ?_
  refine ClX.callwith_cm I2 (ClX.base_none I1 (Nat.le_refl _)) k.me.fi (thn (ha.run pos _ s2 σ H1 _ I2 (tt_bind (R' := fun vs H2 => ∃ (ρ2 : List Addr) (xs : List Bv.X) (S2 : Sto), Sta X.K Z ρ2 S2 H2 ∧ AXs X.K (Wn Z ρ2) ρ2 H2 xs vs ∧ PostG (AX X.K) X.K Z ρ2 H2 Wx σ Q (arity n g (.d (.gl C) :: xs) S2)) st1 ev1 p1
    fun ρ2 H2 v xs S2 s2 g2 ev2 a2 p2 => ⟨ρ2, xs, S2, s2, a2, p2⟩)) fun us s3 ⟨vs, H2, I3, rv, ρ2, xs, S2, st2, a2, p2⟩ => ⟨⟨ClX.pin_at I3, I3.kIn⟩, ?_⟩) hst hpl
  obtain ⟨hl, p3⟩ := ari (rel := PostG (AX X.K) X.K Z ρ2 H2 Wx σ Q) (fun z => z) p2
  have aa : AXs X.K (Wn Z ρ2) ρ2 H2 (.d (.gl C) :: xs) (V.ref (He.ga X.K C) :: vs) := .cons (.d (.gl C)) a2
  have z := wpAny_call (PySem.W.method_call (ClX.pin_at I3) (cc _ s3 σ H2 Q (.ref (He.ga X.K C) :: us) (.ref (He.ga X.K C) :: vs) Z ρ2 _ S2 I3 (.cons rfl rv) st2 aa (by rw [← Paired.length aa]; exact hl) p3))
  exact thn z fun _ _ y => ClX.unpinE y⟩

/-! ### cls(..), the class held by a local name -/
def m_callV (i : Nat) (C : Str) (g : List Bv.X → Sto → R Bv.X) (ms : MG (List Bv.X)) : M := fun e S => (m_var i e S).bind fun x S1 => match x with
  | .d (.gl D) => if decide (D = C) then (ms e S1).bind g else .bad
  | _ => .bad
theorem me_callV (i : Nat) (c : CalX X Wx (.ref (He.ga X.K C)) n g) (hk : PySem.W.keepIn X.K (.ref (He.ga X.K C)) = true) (ha : MA X Wx (e :: es) ms) (hN : X.N[i]? = some x := by rfl) (hv : Vis X.env.scope x := by first | exact Or.inl rfl | exact Or.inr (Or.inl rfl) | exact Or.inr (Or.inr rfl))
    (hdb : (x == ("__debug__" : Str)) = false := by decide) (hcd : (x == ("__classdict__" : Str)) = false := by decide) (he : starEach (e :: es) X.env = (false, eval e X.env) :: starEach es X.env := by rfl) (hpl : (backTo pos (starEach es X.env)).any (·.1) = false := by rfl) :
    ME X Wx (.Call (.Name x p) (e :: es) [] pos) (m_callV i C (arity n g) ms) := ⟨fun pins s σ H Q I ⟨Z, ρ, e, S, st, ev, q⟩ => by
  refine wpAny_Call_Name_kw (thn ((me_var (Wx := Wx) (pos := p) i hN hv hdb hcd).run pins s σ H _ I (tt_bind (R' := fun v H1 => v = .ref (He.ga X.K C) ∧ ∃ (ρ1 : List Addr) (S1 : Sto), Sta X.K Z ρ1 S1 H1 ∧ EvOk X.K (Wn Z ρ1) ρ1 H1 e σ ∧ PostG (AX X.K) X.K Z ρ1 H1 Wx σ Q ((ms e S1).bind (arity n g))) st ev q
    fun ρ1 H1 v y S1 s1 g1 ev1 a1 p1 => by
      cases a1 with
      | r _ => exact p1.elim
      | d a =>
        cases a with
        | gl D =>
          have p2 : PostG (AX X.K) X.K Z ρ1 H1 Wx σ Q (if decide (D = C) then (ms e S1).bind (arity n g) else .bad) := p1
          clear p1
          by_cases hd : D = C
          · rw [if_pos (decide_eq_true hd)] at p2
            subst hd
            exact ⟨rfl, ρ1, S1, s1, ev1, p2⟩
          · rw [if_neg (by simpa using hd)] at p2; exact p2.elim
        | _ => exact p1.elim)) fun u s1 ⟨x, H1, I1, rx, ex, ρ1, S1, st1, ev1, p1⟩ => ?_)
  subst ex
  obtain rfl : u = Value.ref (He.ga X.K C) := rx
  refine PySem.W.callWith_K (h₀ := X.base) I1.ok.mod.kin hk (thn (ha.run pos pins s1 σ H1 _ I1 (tt_bind (R' := fun vs H2 => ∃ (ρ2 : List Addr) (xs : List Bv.X) (S2 : Sto), Sta X.K Z ρ2 S2 H2 ∧ AXs X.K (Wn Z ρ2) ρ2 H2 xs vs ∧ PostG (AX X.K) X.K Z ρ2 H2 Wx σ Q (arity n g xs S2)) st1 ev1 p1
    fun ρ2 H2 v xs S2 s2 g2 ev2 a2 p2 => ⟨ρ2, xs, S2, s2, a2, p2⟩)) fun us s2 ⟨vs, H2, I2, r, ρ2, xs, S2, st2, a2, p2⟩ => ⟨I2.kIn, ?_⟩) he hpl
  obtain ⟨hl, p3⟩ := ari (rel := PostG (AX X.K) X.K Z ρ2 H2 Wx σ Q) (fun z => z) p2
  exact wpAny_call (c pins s2 σ H2 Q us vs Z ρ2 xs S2 I2 r st2 a2 (by rw [← Paired.length a2]; exact hl) p3)⟩

/-! ### try, where nothing is raised -/
def s_ne (m : MS) : MS := fun e S => match m e S with
  | .err _ _ _ _ => .bad
  | r => r
theorem mp_try {body : List Stmt} {h0 : ExceptHandler} {hs : List ExceptHandler} {mb : MS} (hb : MPs X.nox WX0 body mb) : MP X Wx (.Try body (h0 :: hs) [] [] pos) (s_ne mb) := PS.of (ps_try_thru0 hb) fun D σ H ⟨Z, ρ, e, S, st, ev, q⟩ => by
  refine ⟨Z, ρ, e, S, st, ev, ?_⟩
  unfold s_ne at q
  cases z : mb e S with
  | bad => rw [z] at q; exact q
  | err _ _ _ _ => rw [z] at q; exact q.elim
  | go o S' => rw [z] at q; cases o <;> exact q
theorem Here.nox {k : Nat} (h : Here X Wx k) : Here X.nox WX0 k := ⟨Xq.tk0, h.gu, h.room⟩

/-! ### x += e of ints -/
def s_aug (i : Nat) (f : D → D → Option D) (m : M) : MS := fun e S => (m_var i e S).so e fun x S1 => (m e S1).so e fun y S2 => (op2 f S2 x y).so e fun z S3 => .go (.nx (e.set i (some z))) S3
def addI : D → D → Option D := ii fun i j => some (.int (i + j))
def subI : D → D → Option D := ii fun i j => some (.int (i - j))
theorem o_addI {K : PySem.W.Frag} : Op2 K (ipI fun i j => i + j) addI := fun W H d1 d2 v1 v2 d Q hw a1 a2 e k => by
  obtain ⟨i, j, rfl, rfl, e⟩ := ii_inv e
  cases e
  exact ⟨i, j, a1.int_inv, a2.int_inv, k H _ (Same.refl H) (.int _)⟩
theorem o_subI {K : PySem.W.Frag} : Op2 K (ipI fun i j => i - j) subI := fun W H d1 d2 v1 v2 d Q hw a1 a2 e k => by
  obtain ⟨i, j, rfl, rfl, e⟩ := ii_inv e
  cases e
  exact ⟨i, j, a1.int_inv, a2.int_inv, k H _ (Same.refl H) (.int _)⟩
theorem mp_aug {i : Nat} {f : D → D → Option D} {op : Operator} {ti : TIp} {pos' : Pos} (hN : X.N.Nodup) (hi : X.N[i]? = some x) (hx : Loc X.env.scope x) (he : ME X Wx e m) (ho : PIp X op ti) (hf : Op2 X.K ti f)
    (hc : X.fn x = true ∨ X.env.scope.names.lookup x = some .local := by first | exact .inl rfl | exact .inr rfl | assumption) : MP X Wx (.AugAssign (.Name x pos') op e pos) (s_aug i f m) := PS.of (ps_aug hN hi hx he ho hc) fun D σ H ⟨Z, ρ, e, S, st, ev, q⟩ => by
  unfold s_aug m_var at q
  cases z : e[i]? with
  | none => rw [z] at q; exact q.elim
  | some o =>
    cases o with
    | none => rw [z] at q; exact q.elim
    | some y =>
      rw [z] at q
      obtain ⟨v, h1, h2⟩ := ev.at_ i y z
      refine ⟨v, h1, so_bind st ev (show PostS X.K Z ρ H Wx D ((m e S).so e fun w S2 => (op2 f S2 y w).so e fun z S3 => .go (.nx (e.set i (some z))) S3) from q) fun ρ1 H1 u w S1 s1 g1 ev1 a1 p1 => ?_⟩
      have b1 := h2.mv (g1.mv st) g1.pre
      unfold op2 at p1
      cases e1 : y.get S1 with
      | none => rw [e1] at p1; exact p1.elim
      | some d1 =>
        cases e2 : w.get S1 with
        | none => rw [e1, e2] at p1; exact p1.elim
        | some d2 =>
          rw [e1, e2] at p1
          cases e3 : f d1 d2 with
          | none => simp only [e3] at p1; exact p1.elim
          | some d =>
            simp only [e3] at p1
            exact hf (Wn Z ρ1) H1 d1 d2 v u d _ (fun _ h => s1.thereW h) (b1.get s1 e1) (a1.get s1 e2) e3 fun H' v' k a =>
              p1 ρ1 H' _ (s1.grow k) (Go.grow k) ((ev1.mv ((Go.grow k).mv s1) (List.prefix_refl _)).set (.d a))
end
end Bv
set_option Elab.async false
set_option linter.all false
set_option maxRecDepth 100000
set_option maxHeartbeats 4000000
/-! By value: isinstance of two types, its binders in another order. -/
namespace Bv
open PySem PySem.Spec L2
open PyProof.Rows hiding St
variable [HasW]
theorem me_isiP {X : Cx} {Wx : WX} {pos p tpos : Pos} {kt : Nat} {a b c : Expr} {m : M} {tab : List (String × Bool)} {own : List (Str × Bool)} {u1 u2 : Value} {c1 c2 : V} (hg : Gl X "isinstance") (hm : X.mg "isinstance" = none) (he : ME X Wx a m) (hc1 : PE X b (tC c1)) (hc2 : PE X c (tC c2)) (T : IsTs X.K [u1, u2] tab own) (k1 : ClsV c1 u1) (k2 : ClsV c2 u2)
    (ht1 : starEach [b, c] X.env = (false, eval b X.env) :: starEach [c] X.env := by rfl) (ht2 : starEach [c] X.env = (false, eval c X.env) :: starEach [] X.env := by rfl)
    (hs : starEach [a, .Tuple [b, c] kt tpos] X.env = (false, eval a X.env) :: starEach [.Tuple [b, c] kt tpos] X.env := by rfl) (hs2 : starEach [.Tuple [b, c] kt tpos] X.env = (false, eval (.Tuple [b, c] kt tpos) X.env) :: starEach [] X.env := by rfl)
    (hpl : (backTo pos (starEach [.Tuple [b, c] kt tpos] X.env)).any (·.1) = false := by rfl) : ME X Wx (.Call (.Name "isinstance" p) [a, .Tuple [b, c] kt tpos] [] pos) (m_isi tab own m) := PE.of (pe_callB call_isiT hg hm (by rfl) (pa_cons he (pa_cons (pe_tup (pa_cons hc1 (pa_cons hc2 pa_nil ht2) ht1)) pa_nil hs2) hs) (by decide) (by decide) hs hpl) fun σ H Q ⟨Z, ρ, e, S, st, ev, q⟩ => tt_bind st ev q fun ρ1 H1 v x S1 s1 g1 ev1 a1 p1 => by
  obtain ⟨w, hw, p2⟩ := p1.opt
  obtain ⟨b, h1, h2⟩ := Option.map_eq_some_iff.mp hw
  subst h2
  refine ⟨Nat.le_trans (show [c1, c2].length ≤ 2 from Nat.le_refl _) (by decide), fun r hr => ?_⟩
  have k := upd_keep (o := HO.tup [c1, c2]) hr
  have s2 := s1.grow k
  obtain ⟨t, ty, kt⟩ := isXs_ty T s2 (a1.mv ((Go.grow k).mv s1) (List.prefix_refl _)) h1
  exact ⟨v, r, [c1, c2], t, [u1, u2], b, rfl, upd_same, .cons k1 (.cons k2 .nil), ty, kt, PostG.ret p2 s1 k (.d (.bl b))⟩
end Bv
set_option Elab.async false
set_option linter.all false
set_option maxRecDepth 100000
set_option maxHeartbeats 4000000
/-! By value: split, strip. -/
namespace Bv
open PySem PySem.Spec L2
open PyProof.Rows hiding St
variable [HasW]
def okStrs (l : List Str) : Bool := l.all fun z => PyData.strOk z
def g_split (a : Str) (y : Bv.X) (S : Sto) : R Bv.X := match y with
  | .d (.str b) => if !(b.length == 0) && decide (a.length + 2 ≤ sizeLine) && okStrs (Txt.split a b) then .ok (.d (.lst ((Txt.split a b).map .str))) S else .bad
  | _ => .bad
def g_words (a : Str) (S : Sto) : R Bv.X := if decide (a.length + 2 ≤ sizeLine) && okStrs (Txt.words a) then .ok (.d (.lst ((Txt.words a).map .str))) S else .bad
def g_strip (a : Str) (S : Sto) : R Bv.X := if decide (a.length ≤ sizeLine) && PyData.strOk (Txt.strip a) then .ok (.d (.str (Txt.strip a))) S else .bad
/-- a text's method without arguments -/
def m_sm0 (g : Str → Sto → R Bv.X) (mo : M) : M := fun e S => (mo e S).bind fun x S1 => match x with
  | .d (.str a) => g a S1
  | _ => .bad
theorem avs_strOk {K : PySem.W.Frag} {W : Wd} {H : Hp} : ∀ {l : List Str}, okStrs l = true → AVs K W H (l.map D.str) (l.map V.str)
  | [], _ => .nil
  | z :: r, h => by
    have h2 : (PyData.strOk z && okStrs r) = true := h
    rw [Bool.and_eq_true] at h2
    exact .cons (.str h2.1) (avs_strOk h2.2)
section
variable {X : Cx} {Wx : WX} {pos apos : Pos} {o e : Expr} {mo m : M}
theorem new_strs {Z : Wd} {ρ : List Addr} {S : Sto} {H : Hp} {σ : L2.St} {Q : VK} {l : List Str} (st : Sta X.K Z ρ S H) (h : okStrs l = true) (p : PostG (AX X.K) X.K Z ρ H Wx σ Q (.ok (.d (.lst (l.map .str))) S)) : ∀ q, H q = none → Q (.ref q) (upd H q (.lst (l.map V.str))) :=
  fun q hq => PostG.ret p st (upd_keep hq) (.d (new_lst (fun z hz => st.thereW hz) hq (avs_strOk h)))
theorem me_split (ho : ME X Wx o mo) (he : ME X Wx e m) (hs : starEach [e] X.env = [(false, eval e X.env)] := by rfl) (hbase : attributeBase o "split" X.env (eval o X.env) = eval o X.env := by rfl) (hline : (apos.endLine == pos.line) = true := by rfl) :
    ME X Wx (.Call (.Attribute o "split" apos) [e] [] pos) (m_sm1 g_split mo m) := PE.of (pe_split ho he hs hbase hline) fun σ H Q ⟨Z, ρ, e, S, st, ev, p⟩ => tt_bind st ev p fun ρ1 H1 v x S1 s1 g1 ev1 a1 p1 => by
  cases a1 with
  | r _ => exact p1.elim
  | d a =>
    cases a with
    | str hz =>
      rename_i z
      refine ⟨⟨z, rfl⟩, tt_bind s1 ev1 (show PostG (AX X.K) X.K Z ρ1 H1 Wx σ Q ((m e S1).bind fun y S2 => g_split z y S2) from p1) fun ρ2 H2 u y S2 s2 g2 ev2 a2 p2 => ?_⟩
      unfold g_split at p2
      split at p2
      · rename_i b
        split at p2
        · rename_i hc
          rw [Bool.and_eq_true, Bool.and_eq_true] at hc
          obtain ⟨⟨c1, c2⟩, c3⟩ := hc
          cases a2 with
          | d a2 =>
            cases a2 with
            | str hb => exact ⟨z, b, rfl, rfl, by simpa using c1, of_decide_eq_true c2, new_strs s2 c3 p2⟩
        · exact p2.elim
      · exact p2.elim
    | _ => exact p1.elim
theorem me_words (ho : ME X Wx o mo) (hbase : attributeBase o "split" X.env (eval o X.env) = eval o X.env := by rfl) (hline : (apos.endLine == pos.line) = true := by rfl) :
    ME X Wx (.Call (.Attribute o "split" apos) [] [] pos) (m_sm0 g_words mo) := PE.of (pe_words ho hbase hline) fun σ H Q ⟨Z, ρ, e, S, st, ev, p⟩ => tt_bind st ev p fun ρ1 H1 v x S1 s1 g1 ev1 a1 p1 => by
  cases a1 with
  | r _ => exact p1.elim
  | d a =>
    cases a with
    | str hz =>
      rename_i z
      have p2 : PostG (AX X.K) X.K Z ρ1 H1 Wx σ Q (g_words z S1) := p1
      unfold g_words at p2
      split at p2
      · rename_i hc
        obtain ⟨c1, c2⟩ := Bool.and_eq_true_iff.mp hc
        exact ⟨⟨z, rfl⟩, z, rfl, rfl, of_decide_eq_true c1, new_strs s1 c2 p2⟩
      · exact p2.elim
    | _ => exact p1.elim
theorem me_strip (ho : ME X Wx o mo) (hbase : attributeBase o "strip" X.env (eval o X.env) = eval o X.env := by rfl) (hline : (apos.endLine == pos.line) = true := by rfl) :
    ME X Wx (.Call (.Attribute o "strip" apos) [] [] pos) (m_sm0 g_strip mo) := PE.of (pe_strip ho hbase hline) fun σ H Q ⟨Z, ρ, e, S, st, ev, p⟩ => tt_bind st ev p fun ρ1 H1 v x S1 s1 g1 ev1 a1 p1 => by
  cases a1 with
  | r _ => exact p1.elim
  | d a =>
    cases a with
    | str hz =>
      rename_i z
      have p2 : PostG (AX X.K) X.K Z ρ1 H1 Wx σ Q (g_strip z S1) := p1
      unfold g_strip at p2
      split at p2
      · rename_i hc
        obtain ⟨c1, c2⟩ := Bool.and_eq_true_iff.mp hc
        exact ⟨⟨z, rfl⟩, z, rfl, rfl, of_decide_eq_true c1, PostG.ret0 p2 s1 (.d (.str c2))⟩
      · exact p2.elim
    | _ => exact p1.elim
end
end Bv
set_option Elab.async false
set_option linter.all false
set_option maxRecDepth 100000
set_option maxHeartbeats 4000000
/-! By value: enumerate of lists and of tuples. -/
namespace Bv
open PySem PySem.Spec L2
open PyProof.Rows hiding St
variable [HasW]

/-- enumerate of the tuple at a -/
def ItE (K : PySem.W.Frag) (a : Addr) : It :=
  ⟨fun i H => ∃ xs x, SqT K H a xs ∧ xs[i]? = some x, fun i H v H' => ∃ T x, v = .ref T ∧ H T = none ∧ H' = upd H T (.tup [.int (i : Nat), x]) ∧ ∀ xs, SqT K H a xs → xs[i]? = some x, fun i H => ∃ xs : List V, SqT K H a xs ∧ xs.length ≤ i⟩
theorem drawn_out {prog : Program} {w : World} {A : Around} {it a : Addr} {i : Nat} {items : Array Value} (hh : A.handled = none) (no : items[i]? = none) : Draws prog w A it [it, a] i (fun _ _ => True) (fun j h => j = i ∧ h.IsTupleIter it a i ∧ h.IsTuple a items) where
  live := fun _ _ st => let ⟨o, ho, _⟩ := st.2.1; ⟨o, ho⟩
  frame := fun _ _ _ st hk => ⟨st.1, st.2.1.at fun o e => hk it (by simp) o e, st.2.2.at fun o e => hk a (by simp) o e⟩
  item := fun j s Q E hj st _ => absurd st.1 (Nat.ne_of_lt hj)
  done := fun s Q E st hE => wpAny_nextOf_tuple_end hh st.2.1 st.2.2 no hE
theorem turn_enumT {P : Program} {w : World} {K : PySem.W.Frag} {elts : List Expr} {kk : Nat} {tpos : Pos} (a e it : Addr) :
    Turn P w K (.Tuple elts kk tpos) (ItE K a) [e, it] e (fun i h => (∃ old, IsEnum h e it ((i : Nat) : Int) old) ∧ h.IsTupleIter it a i ∧ e ≠ it ∧ a ≠ it ∧ e ≠ a) where
  mem := by simp
  obj := fun i h st b hb => by
    obtain ⟨⟨old, he⟩, ⟨o, ho, hc, hd⟩, _⟩ := st
    rcases (show b = e ∨ b = it by simpa using hb) with z | z
    · rw [z]; exact ⟨_, he, fun v q => nomatch q⟩
    · rw [z]; exact ⟨o, ho, fun v q => by rw [hd] at q; cases q⟩
  keep := fun i h h' st k => let ⟨⟨old, he⟩, hi, hne⟩ := st; ⟨⟨old, k e (by simp) _ he⟩, hi.at fun o q => k it (by simp) o q, hne⟩
  item := by
    intro X hP hw hK hc i pins s σ H E I hf st hg
    subst hP hw hK
    obtain ⟨⟨old, he⟩, hit, hne, hai, hea⟩ := st
    obtain ⟨xs, x, hq, hx⟩ := hg
    obtain ⟨its, rv, p, hz⟩ := I.tuple hq
    obtain ⟨u, hu, ru⟩ := rv.get hx
    have el : e < s.heap.objs.size := Heap.lt_size he
    have il : it < s.heap.objs.size := by obtain ⟨_, q, _⟩ := hit; exact Heap.lt_size q
    have lt : i < its.toArray.size := by
      have := (List.getElem?_eq_some_iff.mp hu).1
      simpa using this
    refine wpAny_pyNext_enum_itemD (Draws.tuple (A := X.A.in1) (show X.A.in1.handled = none from I.ok.hd hc) it a hai its.toArray) he ⟨hit, p⟩ lt hne (by simp; exact ⟨hne, hea⟩) fun y h' tk hy ho hit' hT hsz hk => ?_
    have ey : y = u := by
      have hy : its.toArray[i]? = some y := hy
      have hu' : its.toArray[i]? = some u := by simpa using hu
      rw [hy] at hu'
      exact Option.some.inj hu'
    subst ey
    refine ⟨_, rfl, wpAny_letOwnedTupleGo_enum (s := { s with heap := h', toks := tk + 1 }) ho fun h'' he' sb => ?_⟩
    have hT2 : h''.get? s.heap.objs.size = some { cls := .type "tuple", data := .seq #[.int i tk, y] } := (sb.2 _ (Nat.ne_of_gt el)).trans hT
    have new : ObjOk X.prog X.w (upd H s.heap.objs.size (.tup [.int (i : Nat), x])) h'' s.heap.objs.size (.tup [.int (i : Nat), x]) := ⟨(by decide : 2 ≤ sizeLine), [.int i tk, y], .cons ⟨_, rfl⟩ (.cons ru .nil), ⟨_, hT2, rfl, _, rfl⟩⟩
    have I1 : Inv X pins σ (upd H s.heap.objs.size (.tup [.int (i : Nat), x])) { s with heap := h'', toks := tk + 1 } :=
      I.turnedNew (ch := [e, it]) (fun b ob hb q => (sb.2 b (fun z => hb (by simp [z]))).trans (hk b ob (fun z => hb (by simp [z])) (fun z => hb (by simp [z])) q)) hf (Nat.le_refl _) new
    refine ⟨.ref s.heap.objs.size, _, I1, rfl, ⟨_, x, rfl, I.hok.fresh (Nat.le_refl _), rfl, fun ys hy => by rw [I.tuple_inj hy hq]; exact hx⟩, ⟨⟨y, ?_⟩, hit'.1.at fun o q => (sb.2 it (Ne.symm hne)).trans q, hne, hai, hea⟩, fun b hb => ?_⟩
    · rw [show ((i + 1 : Nat) : Int) = (i : Int) + 1 by omega]; exact he'
    · have hb' : b < s.heap.objs.size := by
        rcases (show b = e ∨ b = it by simpa using hb) with z | z
        · rw [z]; exact el
        · rw [z]; exact il
      rw [upd_ne (Nat.ne_of_lt hb')]
      exact (hf b hb).1
  done := by
    intro X hP hw hK hc i pins s σ H E I hf st hg
    subst hP hw hK
    obtain ⟨⟨old, he⟩, hit, hne, hai, hea⟩ := st
    obtain ⟨xs, hq, hx⟩ := hg
    obtain ⟨its, rv, p, hz⟩ := I.tuple hq
    obtain ⟨f0, f1, f2, f3, f4, f5⟩ := hf it (by simp)
    have no : its.toArray[i]? = none := by
      have := rv.length
      simp; omega
    exact wpAny_pyNext_enum_endD (drawn_out (A := X.A.in1) (show X.A.in1.handled = none from I.ok.hd hc) no) he ⟨rfl, hit, p⟩ fun h' eb => ⟨rfl, I.turned (t' := s.toks) (fun b o hb q => eb b o hb q) f0 f1 f3 f4 f5⟩
  self := fun A i s Q E st h => let ⟨⟨_, he⟩, _⟩ := st; wpAny_pyIter_enum he h
end Bv
set_option Elab.async false
set_option linter.all false
set_option maxRecDepth 100000
set_option maxHeartbeats 4000000
/-! By value: enumerate, made and walked. -/
namespace PySem
open Sem (wp)
open AutoSeq1 (wpAny_loadPart')
theorem enumT_new (t : Addr) (items : Array Value) (n : Nat) (dct : Option Addr) (sl : Array (Option Value)) :
    Meets (Builtin.«enumerate.__new__» ⟨[.type "enumerate", .ref t], []⟩) (fun _ R s => s.heap.get? t = some { cls := .type "tuple", dict := dct, data := .seq items n, slots := sl } ∧
      R (.ok (.ret (.ref (s.heap.push { cls := .type "tuple_iterator", data := .fields #[.ref t, .int 0 0] }).objs.size))) { s with heap := (s.heap.push { cls := .type "tuple_iterator", data := .fields #[.ref t, .int 0 0] }).push { cls := .type "enumerate", data := .fields #[.none, .bool false, .ref s.heap.objs.size, rawInt 0, .none, .none] } }) :=
  .of_wp fun prog w A R s q => by
    obtain ⟨hp, g, d, tk, os⟩ := s
    obtain ⟨ht, fin⟩ := q
    have below := sub_enumerate
    have isT : Heap.IsTuple (Shared.heap ⟨hp, g, d, tk, os⟩) t items := ⟨_, ht, rfl, n, rfl⟩
    wp_walk using wpAny_loadPart' ht
    refine (wpAny_stack_any fun st => wpAny_pure ?_)
    split
    · rename_i c _ _ _ _ _
      cases (c == Value.type "enumerate") <;> (wp_walk using wpAny_loadPart' ht, wpAny_pyIter_tuple isT; exact ⟨_, rfl, fin⟩)
    · wp_walk using wpAny_loadPart' ht, wpAny_pyIter_tuple isT
      exact ⟨_, rfl, fin⟩
theorem call_enumT {prog : Program} {w : World} {A : Around} {E : Value → Shared → Prop} {s : Shared} {t : Addr} {items : Array Value} {Q : Value → Shared → Prop} (hT : s.heap.IsTuple t items)
    (fin : ∀ h', IsEnum h' (s.heap.objs.size + 1) s.heap.objs.size 0 .none → h'.IsTupleIter s.heap.objs.size t 0 → h'.objs.size = s.heap.objs.size + 2 → (∀ b o, s.heap.get? b = some o → h'.get? b = some o) → Q (.ref (s.heap.objs.size + 1)) { s with heap := h' }) :
    wpAny (model prog w) A (call (.type "enumerate") [.ref t]) Q E s := by
  obtain ⟨⟨c, dct, dt, sl⟩, ht, hc, n, hd⟩ := hT
  obtain rfl : c = .type "tuple" := hc
  obtain rfl : dt = .seq items n := hd
  refine callType_new F.called_enumerate (by decide) (F.typeCall_enumerate_1 _) (F.newCall_enumerate_1 _) (fun obj => F.args_object_init_2 obj _) F.entry_enumerate_new (enumT_new t items n dct sl) ⟨ht, ?_⟩
  have z : (s.heap.push { cls := .type "tuple_iterator", data := .fields #[.ref t, .int 0 0] }).objs.size = s.heap.objs.size + 1 := Heap.size_push ..
  show _ ∧ _
  rw [z]
  have en : IsEnum ((s.heap.push { cls := .type "tuple_iterator", data := .fields #[.ref t, .int 0 0] }).push { cls := .type "enumerate", data := .fields #[.none, .bool false, .ref s.heap.objs.size, rawInt 0, .none, .none] }) (s.heap.objs.size + 1) s.heap.objs.size 0 .none := by
    have y := Heap.get?_push_size (s.heap.push { cls := .type "tuple_iterator", data := .fields #[.ref t, .int 0 0] }) (o := { cls := .type "enumerate", data := .fields #[.none, .bool false, .ref s.heap.objs.size, rawInt 0, .none, .none] }) rfl
    rw [z] at y
    exact y
  exact ⟨⟨_, en, rfl⟩, fin _ en ⟨_, Heap.get?_push_of_some _ (Heap.get?_push_size _ rfl), rfl, rfl⟩ (by rw [Heap.size_push, z]) fun b o x => Heap.get?_push_of_some _ (Heap.get?_push_of_some _ x)⟩
end PySem
set_option Elab.async false
set_option linter.all false
set_option maxRecDepth 100000
set_option maxHeartbeats 4000000
/-! By value: enumerate. -/
namespace Bv
open PySem PySem.Spec L2
open PyProof.Rows hiding St
variable [HasW]
def iEnumA (K : PySem.W.Frag) (ta : TA) : TI := fun σ H R => ta σ H fun vs H1 => ∃ a xs, vs = [.ref a] ∧ ((SqL K H1 a xs ∧ R (Ite K a) H1) ∨ (SqT K H1 a xs ∧ R (ItE K a) H1))
theorem pi_enumA {X : Cx} {e : Expr} {ta : TA} {p pos tpos : Pos} {elts : List Expr} {kk : Nat} (hg : Gl X "enumerate") (hm : X.mg "enumerate" = none) (ha : PA X [e] ta) (hs : starEach [e] X.env = [(false, eval e X.env)] := by rfl) :
    PI X (.Tuple elts kk tpos) (.Call (.Name "enumerate" p) [e] [] pos) (iEnumA X.K ta) := ⟨fun pins s σ H R I h => by
  refine Call_ (ld_blt I hg hm boot_enumerate (callWith_type1 (thn (ha.run pos pins s σ H _ I h) fun us s1 ⟨vs, H1, I1, r1, a, xs, ex, q1⟩ => ?_) hs rfl))
  subst ex
  cases r1 with
  | cons r rr =>
    cases rr
    cases r
    have two : ∀ b ∈ [s1.heap.objs.size + 1, s1.heap.objs.size], FpOk X pins H1 b := fun b hb => by
      have le : s1.heap.objs.size ≤ b := by
        rcases (show b = s1.heap.objs.size + 1 ∨ b = s1.heap.objs.size by simpa using hb) with z | z
        · rw [z]; exact Nat.le_add_right _ _
        · rw [z]; exact Nat.le_refl _
      exact I1.fpOk le (I1.hok.fresh le)
    rcases q1 with ⟨hq, q⟩ | ⟨hq, q⟩
    · obtain ⟨its, rv, pl, _⟩ := I1.list hq
      exact call_enumerate_list pl.isList fun h' he hit hsz hk => wpAny_pyIter_enum he ⟨s1.heap.objs.size + 1, [s1.heap.objs.size + 1, s1.heap.objs.size], _, _, H1, rfl, I1.kept (t' := s1.toks) hk, turn_enum a (s1.heap.objs.size + 1) s1.heap.objs.size, ⟨⟨.none, he⟩, hit, Nat.succ_ne_self _⟩, two, q⟩
    · obtain ⟨its, rv, pl, _⟩ := I1.tuple hq
      have lt : a < s1.heap.objs.size := by obtain ⟨o, ho, _⟩ := id pl; exact Heap.lt_size ho
      exact call_enumT (show s1.heap.IsTuple a its.toArray from pl) fun h' he hit hsz hk => wpAny_pyIter_enum he ⟨s1.heap.objs.size + 1, [s1.heap.objs.size + 1, s1.heap.objs.size], _, _, H1, rfl, I1.kept (t' := s1.toks) hk, turn_enumT a (s1.heap.objs.size + 1) s1.heap.objs.size, ⟨⟨.none, he⟩, hit, Nat.succ_ne_self _, Nat.ne_of_lt lt, Nat.ne_of_gt (Nat.lt_succ_of_lt lt)⟩, two, q⟩⟩
theorem walk_enumT {K : PySem.W.Frag} {a : Addr} {xs : List V} : Walk (ItE K a) xs.length (fun H => SqT K H a xs) (YPair (fun i => some (.int (i : Nat))) (fun i => xs[i]?)) :=
  ⟨fun i _ hi q => ⟨xs, xs[i], q, by simp [hi]⟩, fun _ q => ⟨xs, q, Nat.le_refl _⟩, fun i H v H' _ q ⟨T, x, h1, h2, h3, h4⟩ => ⟨T, .int (i : Nat), x, h1, h2, h3, rfl, h4 xs q⟩⟩
def numbered (ds : List D) : List Bv.X := (List.range ds.length).zipWith (fun (i : Nat) d => Bv.X.d (.tup [.int (i : Nat), d])) ds
def enumX : List Bv.X → Option (List Bv.X × Lk)
  | [.d (.lst ds)] => some (numbered ds, .free)
  | [.d (.tup ds)] => some (numbered ds, .free)
  | _ => none
def i_enum (ms : MG (List Bv.X)) : MIt := fun e S => (ms e S).bind fun xs S1 => optR (enumX xs) S1
theorem numbered_at {ds : List D} {i : Nat} {d : D} (h : ds[i]? = some d) : (numbered ds)[i]? = some (.d (.tup [.int (i : Nat), d])) := by
  have lt := (List.getElem?_eq_some_iff.mp h).1
  unfold numbered
  rw [List.getElem?_zipWith, h]
  simp [lt]
theorem numbered_len (ds : List D) : (numbered ds).length = ds.length := by simp [numbered]
theorem srv_pairs {K : PySem.W.Frag} {W : Wd} {ρ : List Addr} {H : Hp} {J : It} {G : Hp → Prop} {xs : List V} {ds : List D} (hs : AVs K W H ds xs) (w : Walk J xs.length G (YPair (fun i => some (.int (i : Nat))) (fun i => xs[i]?)))
    (hg : ∀ (Z2 : Wd) (ρ2 : List Addr) (H2 : Hp), Mv W H (Wn Z2 ρ2) H2 → G H2) : Srv K W ρ H (numbered ds, .free) J :=
  ⟨G, _, by rw [show (numbered ds, Lk.free).1.length = xs.length by rw [show (numbered ds, Lk.free).1 = numbered ds from rfl, numbered_len, hs.length]]; exact w, fun Z2 ρ2 S2 H2 st m p fz k => ⟨hg Z2 ρ2 H2 m, fun i x H3 y => by
    obtain ⟨T, u, v, rfl, hT, rfl, h1, h2⟩ := y
    cases h1
    obtain ⟨d, h3, h4⟩ := (hs.mv m).at_ h2
    have kp := upd_keep (o := HO.tup [.int (i : Nat), v]) hT
    exact ⟨kp, _, numbered_at h3, .d (.tup (.inl ⟨st.fresh hT, upd_same⟩) (.cons (.int _) (.cons (h4.mv (same_mv kp)) .nil)))⟩⟩⟩
theorem mi_enum {X : Cx} {Wx : WX} {e : Expr} {ms : MG (List Bv.X)} {p pos tpos : Pos} {elts : List Expr} {kk : Nat} (hg : Gl X "enumerate") (hm : X.mg "enumerate" = none) (ha : MA X Wx [e] ms) (hs : starEach [e] X.env = [(false, eval e X.env)] := by rfl) :
    MI X Wx (.Tuple elts kk tpos) (.Call (.Name "enumerate" p) [e] [] pos) (i_enum ms) := PI.of (pi_enumA hg hm ha hs) fun σ H R ⟨Z, ρ, e, S, st, ev, p⟩ => tt_bind st ev p fun ρ1 H1 v xs S1 st1 g1 ev1 a1 p1 => by
  obtain ⟨w, hw, p2⟩ := p1.opt
  unfold enumX at hw
  split at hw
  · cases hw
    obtain ⟨v, rfl, a⟩ := one_d a1
    cases a with
    | lst w r hs => exact ⟨_, _, rfl, .inl ⟨.inl (.inl r), PostG.ret0 p2 st1 (srv_pairs hs walk_enum fun Z2 ρ2 H2 m => .inl (.inl (m _ _ w r).2))⟩⟩
  · cases hw
    obtain ⟨v, rfl, a⟩ := one_d a1
    cases a with
    | tup t hs => exact ⟨_, _, rfl, .inr ⟨t.sq, PostG.ret0 p2 st1 (srv_pairs hs walk_enumT fun Z2 ρ2 H2 m => (m.tp t).sq)⟩⟩
  · cases hw
end Bv
set_option Elab.async false
set_option linter.all false
set_option maxRecDepth 100000
set_option maxHeartbeats 4000000
/-! By value: zip of a tuple and a list. -/
namespace Bv
open PySem PySem.Spec L2
open PyProof.Rows hiding St
variable [HasW]
def ItM (K : PySem.W.Frag) (a b : Addr) : It :=
  ⟨fun i H => ∃ (xs ys : List V) (x y : V), SqT K H a xs ∧ SqL K H b ys ∧ xs[i]? = some x ∧ ys[i]? = some y,
    fun i H v H' => ∃ T x y, v = .ref T ∧ H T = none ∧ H' = upd H T (.tup [x, y]) ∧ (∀ xs, SqT K H a xs → xs[i]? = some x) ∧ ∀ ys, SqL K H b ys → ys[i]? = some y,
    fun i H => ∃ xs ys : List V, SqT K H a xs ∧ SqL K H b ys ∧ ((i ≤ xs.length ∧ i ≤ ys.length) ∧ (i = xs.length ∨ i = ys.length))⟩
theorem zsep {z TI TO i1 i2 a b : Addr} (D : ZipApart z TI TO i1 i2 a b) : ZipSep2 z TI TO i1 i2 [i1, a] [i2, b] where
  TIz := D.TIz
  TOz := D.TOz
  TITO := D.TITO
  TIi1 := D.TIi1
  mem1 := by simp
  zf1 := by simp; exact ⟨Ne.symm D.i1z, Ne.symm D.l1z⟩
  Tf1 := by simp; exact ⟨D.TOi1, Ne.symm D.l1TO⟩
  TIi2 := D.TIi2
  mem2 := by simp
  zf2 := by simp; exact ⟨Ne.symm D.i2z, Ne.symm D.l2z⟩
  Tf2 := by simp; exact ⟨D.TOi2, Ne.symm D.l2TO⟩
  sep1_2 := by simp; exact ⟨D.i12, Ne.symm D.l2i1⟩
  sep2_1 := by simp; exact ⟨Ne.symm D.i12, Ne.symm D.l1i2⟩
theorem turn_zipM {P : Program} {w : World} {K : PySem.W.Frag} {elts : List Expr} {kk : Nat} {tpos : Pos} {a b z TI TO i1 i2 : Addr} (D : ZipApart z TI TO i1 i2 a b) :
    Turn P w K (.Tuple elts kk tpos) (ItM K a b) [z, TI, TO, i1, i2] z (fun i h => IsZip h z TI TO .none ∧ IsTupOf2 h TI (.ref i1) (.ref i2) ∧ (∃ x y, IsTupOf2 h TO x y) ∧ h.IsTupleIter i1 a i ∧ h.IsListIter i2 b i) where
  mem := by simp
  obj := fun i h st c hc => by
    obtain ⟨hz, hTI, ⟨x, y, hTO⟩, ⟨o1, e1, _, d1⟩, ⟨o2, e2, _, d2⟩⟩ := st
    rcases (show c = z ∨ c = TI ∨ c = TO ∨ c = i1 ∨ c = i2 by simpa using hc) with q | q | q | q | q <;> rw [q]
    · exact ⟨_, hz, fun v q => nomatch q⟩
    · exact ⟨_, hTI, fun v q => nomatch q⟩
    · exact ⟨_, hTO, fun v q => nomatch q⟩
    · exact ⟨o1, e1, fun v q => by rw [d1] at q; cases q⟩
    · exact ⟨o2, e2, fun v q => by rw [d2] at q; cases q⟩
  keep := fun i h h' st k => by
    obtain ⟨hz, hTI, ⟨x, y, hTO⟩, h1, h2⟩ := st
    exact ⟨k z (by simp) _ hz, k TI (by simp) _ hTI, ⟨x, y, k TO (by simp) _ hTO⟩, h1.at fun o q => k i1 (by simp) o q, h2.at fun o q => k i2 (by simp) o q⟩
  item := by
    intro X hP hw hK hc i pins s σ H E I hf st hg
    subst hP hw hK
    obtain ⟨hz, hTI, ⟨x0, y0, hTO⟩, h1, h2⟩ := st
    obtain ⟨xs, ys, x, y, hqx, hqy, hx, hy⟩ := hg
    obtain ⟨its, rv, p, _⟩ := I.tuple hqx
    obtain ⟨its2, rv2, p2, _⟩ := I.list hqy
    obtain ⟨u, hu, ru⟩ := rv.get hx
    obtain ⟨u2, hu2, ru2⟩ := rv2.get hy
    have zl : z < s.heap.objs.size := Heap.lt_size hz
    have hh : X.A.in1.handled = none := I.ok.hd hc
    refine wpAny_pyNext_zipD2_item (zsep D) (Draws.tuple hh i1 a D.l1i1 its.toArray) (Draws.list hh i2 b D.l2i2 its2.toArray) hz hTI hTO ⟨h1, p⟩ ⟨h2, p2.isList⟩ (by have := (List.getElem?_eq_some_iff.mp hu).1; simpa using this) (by have := (List.getElem?_eq_some_iff.mp hu2).1; simpa using this)
      fun y1 y2 h' tk e1 e2 z' TO' s1 s2 hT hsz hk => ?_
    obtain rfl : y1 = u := by
      have e1 : its.toArray[i]? = some y1 := e1
      rw [List.getElem?_toArray, hu] at e1; exact (Option.some.inj e1).symm
    obtain rfl : y2 = u2 := by
      have e2 : its2.toArray[i]? = some y2 := e2
      rw [List.getElem?_toArray, hu2] at e2; exact (Option.some.inj e2).symm
    refine ⟨_, rfl, wpAny_letOwnedTupleGo_zip (s := { s with heap := h', toks := tk }) z' fun h'' z'' sb => ?_⟩
    have hT2 : h''.get? s.heap.objs.size = some { cls := .type "tuple", data := .seq #[y1, y2] } := (sb.2 _ (Nat.ne_of_gt zl)).trans hT
    have new : ObjOk X.prog X.w (upd H s.heap.objs.size (.tup [x, y])) h'' s.heap.objs.size (.tup [x, y]) := ⟨(by decide : 2 ≤ sizeLine), [y1, y2], .cons ru (.cons ru2 .nil), ⟨_, hT2, rfl, _, rfl⟩⟩
    have I1 : Inv X pins σ (upd H s.heap.objs.size (.tup [x, y])) { s with heap := h'', toks := tk } :=
      I.turnedNew (ch := [z, TI, TO, i1, i2]) (fun c o hb q => (sb.2 c (fun q' => hb (by simp [q']))).trans (hk c o (fun q' => hb (by simp [q'])) (fun q' => hb (by simp [q'])) (fun q' => hb (by simp [q'])) (fun q' => hb (by simp [q'])) q)) hf (Nat.le_refl _) new
    refine ⟨.ref s.heap.objs.size, _, I1, rfl, ⟨_, x, y, rfl, I.hok.fresh (Nat.le_refl _), rfl, fun l hl => by rw [I.tuple_inj hl hqx]; exact hx, fun l hl => by rw [I.list_inj hl hqy]; exact hy⟩, ⟨z'', (sb.2 _ D.TIz).trans (hk _ _ D.TIz D.TITO D.TIi1 D.TIi2 hTI), ⟨y1, y2, (sb.2 _ D.TOz).trans TO'⟩, s1.1.at fun o q => (sb.2 _ D.i1z).trans q, s2.1.at fun o q => (sb.2 _ D.i2z).trans q⟩, fun c hcm => ?_⟩
    have lt : c < s.heap.objs.size := by
      rcases (show c = z ∨ c = TI ∨ c = TO ∨ c = i1 ∨ c = i2 by simpa using hcm) with q | q | q | q | q <;> rw [q]
      · exact zl
      · exact Heap.lt_size hTI
      · exact Heap.lt_size hTO
      · obtain ⟨_, e1, _⟩ := h1; exact Heap.lt_size e1
      · obtain ⟨_, e2, _⟩ := h2; exact Heap.lt_size e2
    rw [upd_ne (Nat.ne_of_lt lt)]
    exact (hf c hcm).1
  done := by
    intro X hP hw hK hc i pins s σ H E I hf st hg
    subst hP hw hK
    obtain ⟨hz, hTI, ⟨x0, y0, hTO⟩, h1, h2⟩ := st
    obtain ⟨xs, ys, hqx, hqy, ⟨le1, le2⟩, hend⟩ := hg
    obtain ⟨its, rv, p, _⟩ := I.tuple hqx
    obtain ⟨its2, rv2, p2, _⟩ := I.list hqy
    have l1 := rv.length
    have l2 := rv2.length
    have hh : X.A.in1.handled = none := I.ok.hd hc
    exact wpAny_pyNext_zipD2_end (zsep D) (Draws.tuple hh i1 a D.l1i1 its.toArray) (Draws.list hh i2 b D.l2i2 its2.toArray) hz hTI hTO ⟨h1, p⟩ ⟨h2, p2.isList⟩ (by simp; omega) (by simp; omega) (by simp; omega)
      fun h' tk hk => ⟨rfl, I.turnedL (t' := tk) (ch := [z, TI, TO, i1, i2]) (fun c o hb q => hk c o (fun q' => hb (by simp [q'])) (fun q' => hb (by simp [q'])) (fun q' => hb (by simp [q'])) (fun q' => hb (by simp [q'])) q) hf⟩
  self := fun A i s Q E st h => wpAny_pyIter_zip st.1 h
end Bv
set_option Elab.async false
set_option linter.all false
set_option maxRecDepth 100000
set_option maxHeartbeats 4000000
/-! By value: zip of a tuple and a list, the rule. -/
namespace Bv
open PySem PySem.Spec L2
open PyProof.Rows hiding St
variable [HasW]
def iZipM (K : PySem.W.Frag) (ta : TA) : TI := fun σ H R => ta σ H fun vs H1 => ∃ a b xs ys, vs = [.ref a, .ref b] ∧ SqT K H1 a xs ∧ SqL K H1 b ys ∧ R (ItM K a b) H1
theorem pi_zipM {X : Cx} {e e2 : Expr} {ta : TA} {p pos tpos : Pos} {elts : List Expr} {kk : Nat} (hg : Gl X "zip") (hm : X.mg "zip" = none) (ha : PA X [e, e2] ta) (hs : starEach [e, e2] X.env = (false, eval e X.env) :: starEach [e2] X.env := by rfl) (hpl : (backTo pos (starEach [e2] X.env)).any (·.1) = false := by rfl) :
    PI X (.Tuple elts kk tpos) (.Call (.Name "zip" p) [e, e2] [] pos) (iZipM X.K ta) := ⟨fun pins s σ H R I h => by
  refine Call_ (ld_blt I hg hm boot_zip (callWith_type1 (thn (ha.run pos pins s σ H _ I h) fun us s1 ⟨vs, H1, I1, r1, a, b, xs, ys, ex, hqx, hqy, q⟩ => ?_) hs hpl))
  subst ex
  cases r1 with
  | cons r rr =>
    cases rr with
    | cons r' rr =>
      cases rr
      cases r
      cases r'
      obtain ⟨its, rv, p1, _⟩ := I1.tuple hqx
      obtain ⟨its2, rv2, p2, _⟩ := I1.list hqy
      have lt1 : a < s1.heap.objs.size := by obtain ⟨o, ho, _⟩ := id p1; exact Heap.lt_size ho
      have five : ∀ c ∈ [s1.heap.objs.size + 4, s1.heap.objs.size + 2, s1.heap.objs.size + 3, s1.heap.objs.size, s1.heap.objs.size + 1], FpOk X pins H1 c := fun c hc => by
        have le : s1.heap.objs.size ≤ c := by
          simp only [List.mem_cons, List.not_mem_nil, or_false] at hc
          rcases hc with z | z | z | z | z <;> rw [z] <;> first | exact Nat.le_refl _ | exact Nat.le_add_right _ _
        exact I1.fpOk le (I1.hok.fresh le)
      exact zip_begins2 (begins_tuple a its.toArray) (begins_list b its2.toArray) (show s1.heap.IsTuple a its.toArray from p1) p2.isList fun h' hz hTI hTO g1 g2 hsz hk => wpAny_pyIter_zip hz
        ⟨s1.heap.objs.size + 4, [s1.heap.objs.size + 4, s1.heap.objs.size + 2, s1.heap.objs.size + 3, s1.heap.objs.size, s1.heap.objs.size + 1], _, _, H1, rfl, I1.kept (t' := s1.toks) hk, turn_zipM (PySem.W.ktu_apart s1.heap.objs.size a b lt1 p2.lt), ⟨hz, hTI, ⟨_, _, hTO⟩, ⟨_, g1, rfl, rfl⟩, ⟨_, g2, rfl, rfl⟩⟩, five, q⟩⟩
theorem walk_zipM {K : PySem.W.Frag} {a b : Addr} {xs ys : List V} : Walk (ItM K a b) (min xs.length ys.length) (fun H => SqT K H a xs ∧ SqL K H b ys) (YPair (fun i => xs[i]?) (fun i => ys[i]?)) :=
  ⟨fun i _ hi q => ⟨xs, ys, xs[i]'(by omega), ys[i]'(by omega), q.1, q.2, by simp [show i < xs.length by omega], by simp [show i < ys.length by omega]⟩, fun _ q => ⟨xs, ys, q.1, q.2, by omega⟩,
    fun i H v H' _ q ⟨T, x, y, h1, h2, h3, h4, h5⟩ => ⟨T, x, y, h1, h2, h3, h4 xs q.1, h5 ys q.2⟩⟩
def zipped (ds es : List D) : List Bv.X := List.zipWith (fun d e => Bv.X.d (.tup [d, e])) ds es
def zipX : List Bv.X → Option (List Bv.X × Lk)
  | [.d (.tup ds), .d (.lst es)] => some (zipped ds es, .free)
  | _ => none
def i_zip (ms : MG (List Bv.X)) : MIt := fun e S => (ms e S).bind fun xs S1 => optR (zipX xs) S1
theorem mi_zip {X : Cx} {Wx : WX} {e e2 : Expr} {ms : MG (List Bv.X)} {p pos tpos : Pos} {elts : List Expr} {kk : Nat} (hg : Gl X "zip") (hm : X.mg "zip" = none) (ha : MA X Wx [e, e2] ms) (hs : starEach [e, e2] X.env = (false, eval e X.env) :: starEach [e2] X.env := by rfl) (hpl : (backTo pos (starEach [e2] X.env)).any (·.1) = false := by rfl) :
    MI X Wx (.Tuple elts kk tpos) (.Call (.Name "zip" p) [e, e2] [] pos) (i_zip ms) := PI.of (pi_zipM hg hm ha hs hpl) fun σ H R ⟨Z, ρ, e, S, st, ev, p⟩ => tt_bind st ev p fun ρ1 H1 v xs S1 st1 g1 ev1 a1 p1 => by
  obtain ⟨w, hw, p2⟩ := p1.opt
  unfold zipX at hw
  split at hw
  · rename_i ds es
    cases hw
    cases a1 with
    | cons h1 t =>
      cases t with
      | cons h2 t =>
        cases t
        cases h1 with
        | d h1 =>
          cases h2 with
          | d h2 =>
            cases h1 with
            | tup t1 hs1 =>
              cases h2 with
              | lst w2 r2 hs2 =>
                rename_i a us b ws
                refine ⟨a, b, us, ws, rfl, t1.sq, .inl (.inl r2), PostG.ret0 p2 st1 ⟨fun H => SqT X.K H a us ∧ SqL X.K H b ws, YPair (fun i => us[i]?) (fun i => ws[i]?), ?_, fun Z2 ρ2 S2 H2 st m p fz k => ⟨⟨(m.tp t1).sq, .inl (.inl (m _ _ w2 r2).2)⟩, fun i x H3 y => ?_⟩⟩⟩
                · rw [show (zipped ds es, Lk.free).1.length = min us.length ws.length by simp [zipped, hs1.length, hs2.length]]; exact walk_zipM
                · obtain ⟨T, u, v, rfl, hT, rfl, q1, q2⟩ := y
                  obtain ⟨d1, q3, q4⟩ := (hs1.mv m).at_ q1
                  obtain ⟨d2, q5, q6⟩ := (hs2.mv m).at_ q2
                  have kp := upd_keep (o := HO.tup [u, v]) hT
                  exact ⟨kp, .d (.tup [d1, d2]), by simp [zipped, List.getElem?_zipWith, q3, q5], .d (.tup (.inl ⟨st.fresh hT, upd_same⟩) (.cons (q4.mv (same_mv kp)) (.cons (q6.mv (same_mv kp)) .nil)))⟩
  · cases hw
end Bv
set_option Elab.async false
set_option linter.all false
set_option maxRecDepth 100000
set_option maxHeartbeats 4000000
/-! By value: in a tuple, where an item's == is answered by the right side's own __eq__. -/
namespace PySem
open Sem (wp)
open AutoSeq1 (wpAny_loadPart')
open MeetsSeq MeetsSeq2 MeetsSeq3 SeqRoads2
namespace BvIn
theorem str_declines_ins (b : Str) (u : Tok) (l C dx : Addr) :
    Meets (Builtin.«str.__eq__» ⟨[.str b u, .ref l], []⟩) (fun _ R s => s.heap.get? l = some (W.instObj C dx) ∧ R (.ok (.ret .notImplemented)) s) :=
  .of_wp fun prog w A R s h => by
    obtain ⟨hp, g, d, tk, os⟩ := s
    obtain ⟨hl, h⟩ := h
    wp_walk using wpAny_load hl
    exact ⟨_, rfl, h⟩
theorem tuple_declines_ins (l b C dx : Addr) (items : Array Value) (n : Nat) (dd : Option Addr) (sl : Array (Option Value)) :
    Meets (Builtin.«tuple.__eq__» ⟨[.ref l, .ref b], []⟩) (fun _ R s => s.heap.get? l = some { cls := .type "tuple", dict := dd, data := .seq items n, slots := sl } ∧ s.heap.get? b = some (W.instObj C dx) ∧ (∀ M : Model, W.Looks M s.heap (isSubtype (.ref C) (.type "tuple")) false) ∧ R (.ok (.ret .notImplemented)) s) :=
  .of_wp fun prog w A R s h => by
    obtain ⟨hp, g, d, tk, os⟩ := s
    obtain ⟨hl, hb, hi, h⟩ := h
    wp_walk using wpAny_loadPart' hl, wpAny_loadPart' hb, (hi _).here
    exact ⟨_, rfl, h⟩
section
variable {prog : Program} {w : World} {A : Around} {E : Value → Shared → Prop} {s : Shared}
/-- x in (..): each item's == may do what it likes within J -/
theorem tuple_hasG (l : Addr) (items : Array Value) (n : Nat) (dd : Option Addr) (sl : Array (Option Value)) (x : Value) (J : Shared → Prop) (e : Value → Bool) :
    MeetsIn prog w (Builtin.«tuple.__contains__» ⟨[.ref l, x], []⟩) (fun A R s => s.heap.get? l = some { cls := .type "tuple", dict := dd, data := .seq items n, slots := sl } ∧ J s ∧
      (∀ y, y ∈ items → ∀ (s' : Shared) (Q : Bool → Shared → Prop), J s' → (∀ s'', J s'' → Q (e y) s'') → wpAny (model prog w) A.in1 (eqBool y x) Q (fun e s' => R (.error e) s') s') ∧ ∀ s', J s' → R (.ok (.ret (.bool (items.any e)))) s') :=
  .of_wp fun A R s h => by
    obtain ⟨hp, g, d, tk, os⟩ := s
    obtain ⟨hl, hJ, he, h⟩ := h
    wp_walk using wpAny_loadPart' hl, wpAny_forIn_array _ (fun rest b s' => b.1 = none ∧ J s' ∧ (∀ y, y ∈ rest → y ∈ items) ∧ (fun l : List Value => ∀ s'', J s'' → R (.ok (.ret (.bool (l.any e)))) s'') rest) _
    case turn =>
      rintro y rest b s' ⟨hb, hj, hmem, hR⟩
      refine wpAny_bind (he y (hmem y (List.mem_cons_self ..)) s' _ hj fun s'' hj' => ?_)
      rw [List.any_cons] at hR
      cases hy : e y with
      | true =>
        rw [hy] at hR
        wp_walk
        exact ⟨_, rfl, by simpa using hR s'' hj'⟩
      | false =>
        rw [hy] at hR
        wp_walk
        exact ⟨rfl, hj', fun z hz => hmem z (List.mem_cons_of_mem _ hz), by simpa using hR⟩
    case fin =>
      rintro ⟨b1, b2⟩ s' ⟨hb, hj, -, hR⟩
      simp only at hb
      subst hb
      wp_walk
      exact ⟨_, rfl, by simpa using hR s' hj⟩
    case h =>
      exact ⟨rfl, hJ, fun y hy => by simpa using hy, by simpa using h⟩
/-- == where the left side declines and the right side's own __eq__ answers -/
theorem rc_own {K : W.Frag} {y : Value} {T id : String} {a C f : Addr} {ox : Obj} {od : Option Obj} {Q : Value → Shared → Prop} (hu : A.units < cLine) (hT : s.TypeIs y T) (slot : Slot T "__eq__" id) (X : K.In s.heap) (J : W.InstAt s.heap a ox C od) (hsub : W.subIn K (.ref C) (.type T) = some false)
    (hs : W.findIn K (.ref C) "__eq__" = some (some (.ref f))) (hf : W.isFn K (.ref f) = true) (hd : wpAny (model prog w) A (call (.builtin id) [y, .ref a]) (fun v s' => v = .notImplemented ∧ s' = s) E s)
    (h : wpAny (model prog w) A (call (.ref f) [.ref a, y]) (fun v s' => ∃ r : Bool, v = .bool r ∧ Q (.bool r) s') E s) : wpAny (model prog w) A (richCompare .Eq y (.ref a)) Q E s := by
  have one : wpAny (model prog w) A (tryCompare (.ref a) "__eq__" y) (fun r s' => ∃ v, r = some v ∧ Q v s') E s := by
    unfold tryCompare
    refine wpAny_bind (W.ifBound_K X J hs hf (wpAny_mono h (fun v s' hv => ?_) fun _ _ e => e))
    obtain ⟨r, rfl, q⟩ := hv
    exact wpAny_pure ⟨_, rfl, q⟩
  unfold richCompare
  simp only [hT.oneThing_none]
  refine wpAny_holding (wpAny_bind (wpAny_cRoomFor hu ?_))
  refine wpAny_bind (wpAny_typeOf hT (wpAny_bind (J.type.here ?_)))
  rw [if_pos (by simp)]
  refine wpAny_bind ((W.looks_subIn X hsub).here ?_)
  simp only [Bool.false_eq_true, if_false, Bool.not_false, if_true]
  refine wpAny_bind (wpAny_tryCompare_declines hT slot (wpAny_mono hd (fun v s1 z => ⟨z.1, ?_⟩) fun _ _ z => z))
  obtain ⟨_, rfl⟩ := z
  refine wpAny_bind (wpAny_mono one (fun r s' z => ?_) fun _ _ e => e)
  obtain ⟨v, rfl, hq⟩ := z
  exact wpAny_pure hq
/-- y == a, y is no object that is a -/
theorem eqBool_own {y : Value} {a : Addr} {Q : Bool → Shared → Prop} (hne : (y == .ref a) = false) (h : wpAny (model prog w) A (richCompare .Eq y (.ref a)) (fun v s' => ∃ r : Bool, v = .bool r ∧ Q r s') E s) : wpAny (model prog w) A (eqBool y (.ref a)) Q E s := by
  unfold eqBool
  refine wpAny_holding ?_
  rw [if_neg (by rw [hne]; exact Bool.false_ne_true)]
  have fin : wpAny (model prog w) A (richCompare .Eq y (.ref a) >>= truthOfDropped) Q E s := by
    refine wpAny_bind (wpAny_mono h (fun v s' hv => ?_) fun _ _ x => x)
    obtain ⟨r, rfl, q⟩ := hv
    exact wpAny_truthy_bool q
  cases y <;> exact fin
end
end BvIn
end PySem
set_option Elab.async false
set_option linter.all false
set_option maxRecDepth 100000
set_option maxHeartbeats 4000000
/-! By value: in a tuple of other things, by an own __eq__. -/
namespace Bv
open PySem PySem.Spec L2
open PyProof.Rows hiding St
/-- no built-in type is above the class -/
structure OwnSub (K : PySem.W.Frag) (C : Str) : Prop where
  st : PySem.W.subIn K (.ref (He.ga K C)) (.type "str") = some false
  no : PySem.W.subIn K (.ref (He.ga K C)) (.type "NoneType") = some false
  tu : PySem.W.subIn K (.ref (He.ga K C)) (.type "tuple") = some false
def t_sub (C : Str) (K : PySem.W.Frag) : Bool := decide (PySem.W.subIn K (.ref (He.ga K C)) (.type "str") = some false) && (decide (PySem.W.subIn K (.ref (He.ga K C)) (.type "NoneType") = some false) && decide (PySem.W.subIn K (.ref (He.ga K C)) (.type "tuple") = some false))
theorem sub_ok {C : Str} {K : PySem.W.Frag} (h : t_sub C K = true) : OwnSub K C := by
  obtain ⟨c1, h⟩ := He.ba h
  obtain ⟨c2, c3⟩ := He.ba h
  exact ⟨of_decide_eq_true c1, of_decide_eq_true c2, of_decide_eq_true c3⟩
variable [HasW]
def declB : D → Bool
  | .str _ | .non | .tup _ => true
  | _ => false
/-- o is none of ds, by its own == -/
def noneOf (g : List D → PR) (o : D) (ds : List D) : Bool := ds.all fun d => declB d && (match g [o, d] with
  | .ok (.bl false) => true
  | _ => false)
theorem noneOf_mem {g : List D → PR} {o d : D} {ds : List D} (h : noneOf g o ds = true) (m : d ∈ ds) : declB d = true ∧ g [o, d] = .ok (.bl false) := by
  have h := List.all_eq_true.mp h d m
  obtain ⟨h1, h2⟩ := Bool.and_eq_true_iff.mp h
  refine ⟨h1, ?_⟩
  split at h2
  · assumption
  · cases h2
abbrev rInO (K : PySem.W.Frag) (C : Str) (g : List D → PR) (neg : Bool) : R2 := fun x y H Q => ∃ (W : Wd) (o : D) (ds : List D) (a dx l : Addr) (fs : List (Str × V)) (ys : List V), x = .ref a ∧ y = .ref l ∧ H a = some (.ins (He.ga K C) dx fs) ∧ SqT K H l ys ∧
  (∀ a, W a → ∃ o, H a = some o) ∧ AV K W H o (.ref a) ∧ AVs K W H ds ys ∧ noneOf g o ds = true ∧ ∀ H', Same H H' → Q (.bl neg) H'
section
variable {X : Cx} {k : Nat} {f : Addr} {fd : FuncData} {ps : List Str} {g : List D → PR} {C : Str}
theorem vals_at : ∀ {vs : List V} {us : List Value} {u : Value}, Vals vs us → u ∈ us → ∃ (i : Nat) (v : V), vs[i]? = some v ∧ RelV v u
  | _, _, _, .nil, m => by cases m
  | _, _, u, .cons h t, m => by
    rcases List.mem_cons.mp m with e | m
    · subst e; exact ⟨0, _, rfl, h⟩
    · obtain ⟨i, v, h1, h2⟩ := vals_at t m
      exact ⟨i + 1, v, by simpa using h1, h2⟩
theorem ins_obj {pins : List (Addr × Obj)} {σ : St} {H : Hp} {s : Shared} {a Ca dx : Addr} {fs : List (Str × V)} (I : Inv X pins σ H s) (h : H a = some (.ins Ca dx fs)) : s.heap.get? a = some (PySem.W.instObj Ca dx) := by
  have x := I.hok a _ h
  obtain ⟨_, _, _, e, _⟩ := x
  exact e
theorem in_core (gu : X.A.guards = some []) (F : FnG X.prog X.w X.K X.mg X.base k f fd ps (spP X.K 2 g)) (O : OwnEq X.K C f) (N : OwnSub X.K C) (room : Room (k + 2) X.A) (hb : Binds X.K fd ps []) {pins : List (Addr × Obj)} {σ : St} {H : Hp} {s : Shared} {E : Value → Shared → Prop} {Q : Value → Shared → Prop}
    {W : Wd} {o : D} {ds : List D} {a dx l : Addr} {fs : List (Str × V)} {ys : List V} (I : Inv X pins σ H s) (ha : H a = some (.ins (He.ga X.K C) dx fs)) (hq : SqT X.K H l ys) (hw : ∀ a, W a → ∃ o, H a = some o) (a0 : AV X.K W H o (.ref a)) (as : AVs X.K W H ds ys) (hn : noneOf g o ds = true)
    (fin : ∀ H' s', Same H H' → Inv X pins σ H' s' → Q (.bool false) s') : wpAny (model X.prog X.w) X.A (call (.builtin "tuple.__contains__") [.ref l, .ref a]) Q E s := by
  obtain ⟨its, rv, p, hz⟩ := I.tuple hq
  obtain ⟨⟨cls, dd, data, sl⟩, ho, hc, n, hd⟩ := id p
  simp only at hc hd
  subst hc hd
  refine call_meetsIn PySem.F.slot_tuple_contains ⟨_, ho, rfl⟩ PySem.F.entry_tuple_contains (PySem.F.args_tuple_contains_2 _ _) (BvIn.tuple_hasG l its.toArray n dd sl (.ref a) (fun s' => ∃ H', Inv X pins σ H' s' ∧ Same H H') fun _ => false) ⟨ho, ⟨H, I, Same.refl H⟩, fun y hy s' Q' ⟨H', I', k'⟩ fin' => ?_, fun s' ⟨H', I', k'⟩ => ?_⟩
  · obtain ⟨i, v, h1, r⟩ := vals_at rv (by simpa using hy)
    obtain ⟨d, h2, av⟩ := as.at_ h1
    obtain ⟨hdc, hg⟩ := noneOf_mem hn (List.mem_of_getElem? h2)
    have ha' : H' a = some (.ins (He.ga X.K C) dx fs) := k' _ _ ha
    obtain ⟨ox, od, J⟩ := ins_at I' ha'
    have hob := ins_obj I' ha'
    have hu : X.A.in1.units < cLine := by have := room.in1.un; omega
    -- the own ==
    have own : wpAny (model X.prog X.w) X.A.in1 (call (.ref f) [.ref a, y]) (fun v s' => ∃ r : Bool, v = .bool r ∧ ∃ r', Value.bool r = .bool r' ∧ Q' r' s') (fun e s' => wants Q E (.error e) s') s' := by
      refine wpAny_mono (run_in (Q := fun v H'' => v = .bl false ∧ Same H' H'') F (by exact gu) (room.in1.mono (Nat.le_succ k)) hb I' I'.env0.in1 (.cons (show RelV (V.ref a) (Value.ref a) from rfl) (.cons r .nil)) ⟨rfl, W, [o, d], fun a h => let ⟨o, q⟩ := hw a h; ⟨o, k' _ _ q⟩, .cons (a0.mv (same_mv k')) (.cons (av.mv (same_mv k')) .nil), ?_⟩) (fun w s'' z => ?_) fun _ _ z => z
      · rw [hg]
        intro H'' v ex a1
        cases a1
        exact ⟨rfl, ex⟩
      · obtain ⟨v, H'', I'', rv', rfl, k''⟩ := z
        cases rv'
        exact ⟨false, rfl, false, rfl, fin' s'' ⟨H'', I'', fun b o q => k'' b o (k' b o q)⟩⟩
    cases d with
    | str z =>
      cases av
      obtain ⟨t, rfl⟩ := r
      exact BvIn.eqBool_own rfl (BvIn.rc_own hu (typeIs_str _ _ _) PySem.F.slot_str_eq I'.kIn J N.st O.at_ O.fn (call_meets PySem.F.slot_str_eq (typeIs_str _ _ _) PySem.F.entry_str_eq (PySem.F.args_str_eq_2 _ _) (BvIn.str_declines_ins z t a _ dx) ⟨hob, rfl, rfl⟩) own)
    | non =>
      cases av
      obtain rfl : y = Value.none := r
      exact BvIn.eqBool_own rfl (BvIn.rc_own (T := "NoneType") hu (show s'.TypeIs .none "NoneType" from rfl) PySem.F.slot_NoneType_eq I'.kIn J N.no O.at_ O.fn (call_gives PySem.F.slot_NoneType_eq (show s'.TypeIs .none "NoneType" from rfl) PySem.F.entry_NoneType_eq (PySem.F.args_NoneType_eq_2 _ _) (PySem.SeqAt.NoneType___eq___none_ref_0 a) ⟨rfl, rfl⟩) own)
    | tup es =>
      cases av with
      | @tup b us _ t _ =>
        obtain rfl : y = Value.ref b := r
        have t' := (same_mv (W := W) k').tp t
        obtain ⟨its2, _, p2, _⟩ := I'.tuple t'.sq
        obtain ⟨⟨cls2, dd2, data2, sl2⟩, ho2, hc2, n2, hd2⟩ := id p2
        simp only at hc2 hd2
        subst hc2 hd2
        have hne : (Value.ref b == Value.ref a) = false := by
          refine beq_eq_false_iff_ne.mpr fun z => ?_
          cases z
          rw [ho2] at hob
          cases hob
        exact BvIn.eqBool_own hne (BvIn.rc_own hu ⟨_, ho2, rfl⟩ PySem.F.slot_tuple_eq I'.kIn J N.tu O.at_ O.fn (call_meets PySem.F.slot_tuple_eq ⟨_, ho2, rfl⟩ PySem.F.entry_tuple_eq (PySem.F.args_tuple_eq_2 _ _) (BvIn.tuple_declines_ins b a _ dx its2.toArray n2 dd2 sl2) ⟨ho2, hob, fun M => PySem.W.looks_subIn I'.kIn N.tu, rfl, rfl⟩) own)
    | _ => cases hdc
  · have e : (its.toArray.any fun _ => false) = false := by simp
    rw [e]
    exact fin H' s' k' I'
theorem op_inO (gu : X.A.guards = some []) (F : FnG X.prog X.w X.K X.mg X.base k f fd ps (spP X.K 2 g)) (O : OwnEq X.K C f) (N : OwnSub X.K C) (room : Room (k + 2) X.A) (hb : Binds X.K fd ps []) : OpR X (compareOp .In) (rInO X.K C g false) := fun pins s σ H x y v u Q I rx ry h => by
  obtain ⟨W, o, ds, a, dx, l, fs, ys, rfl, rfl, ha, hq, hw, a0, as, hn, q⟩ := h
  cases rx
  cases ry
  obtain ⟨its, rv, p, hz⟩ := I.tuple hq
  have hT : s.TypeIs (.ref l) "tuple" := let ⟨o, h1, h2, _⟩ := p; ⟨o, h1, h2⟩
  show wpAny _ X.A (do return .bool (← contains (.ref l) (.ref a))) (EP X pins σ Q) X.xe s
  refine wpAny_bind (wpAny_contains_slot hT PySem.F.slot_tuple_contains (in_core gu F O N room hb I ha hq hw a0 as hn fun H' s' k' I' => ?_))
  exact wpAny_truthy_bool (wpAny_pure ⟨.bl false, H', I', rfl, q H' k'⟩)
theorem op_ninO (gu : X.A.guards = some []) (F : FnG X.prog X.w X.K X.mg X.base k f fd ps (spP X.K 2 g)) (O : OwnEq X.K C f) (N : OwnSub X.K C) (room : Room (k + 2) X.A) (hb : Binds X.K fd ps []) : OpR X (compareOp .NotIn) (rInO X.K C g true) := fun pins s σ H x y v u Q I rx ry h => by
  obtain ⟨W, o, ds, a, dx, l, fs, ys, rfl, rfl, ha, hq, hw, a0, as, hn, q⟩ := h
  cases rx
  cases ry
  obtain ⟨its, rv, p, hz⟩ := I.tuple hq
  have hT : s.TypeIs (.ref l) "tuple" := let ⟨o, h1, h2, _⟩ := p; ⟨o, h1, h2⟩
  show wpAny _ X.A (do return .bool (!(← contains (.ref l) (.ref a)))) (EP X pins σ Q) X.xe s
  refine wpAny_bind (wpAny_contains_slot hT PySem.F.slot_tuple_contains (in_core gu F O N room hb I ha hq hw a0 as hn fun H' s' k' I' => ?_))
  exact wpAny_truthy_bool (wpAny_pure ⟨.bl true, H', I', rfl, q H' k'⟩)
end
def inOwn (C : Str) (g : List D → PR) (neg : Bool) (a b : D) : Option D := match a, b with
  | .obj C1 f1, .tup ds => if decide (C1 = C) && noneOf g (.obj C1 f1) ds then some (.bl neg) else none
  | _, _ => none
theorem o_inO {K : PySem.W.Frag} {C : Str} {g : List D → PR} {neg : Bool} : Op2 K (rInO K C g neg) (inOwn C g neg) := fun W H d1 d2 v1 v2 d Q hw a1 a2 e k => by
  unfold inOwn at e
  split at e
  · rename_i C1 f1 ds
    obtain ⟨h1, h2⟩ := ite_some e
    obtain ⟨h3, h4⟩ := Bool.and_eq_true_iff.mp h1
    obtain rfl := of_decide_eq_true h3
    cases h2
    obtain ⟨a, dx, vs, rfl, w, r, hs⟩ := a1.ob
    obtain ⟨l, ys, rfl, t, as⟩ := a2.tq
    exact ⟨W, _, ds, a, dx, l, vs, ys, rfl, rfl, r, t.sq, hw, .obj w r hs, as, h4, fun H' s => k H' _ s (.bl _)⟩
  · cases e
section
variable {X : Cx} {Wx : WX} {k j : Nat} {C : Str} {g : List D → PR}
theorem Here.inO (h : Here X Wx k) (c : Kept X.prog X.w X.K X.mg X.base j (He.ma X.K (He.ga X.K C) "__eq__") (spP X.K 2 g)) (O : OwnEq X.K C (He.ma X.K (He.ga X.K C) "__eq__")) (N : OwnSub X.K C) (hj : j + 2 ≤ k := by decide) : Opr X (compareOp .In) (Bv.inOwn C g false) := by
  obtain ⟨fd, ps, F, b⟩ := c.ex
  exact ⟨_, op_inO h.gu F O N (h.room.mono hj) b, o_inO⟩
theorem Here.ninO (h : Here X Wx k) (c : Kept X.prog X.w X.K X.mg X.base j (He.ma X.K (He.ga X.K C) "__eq__") (spP X.K 2 g)) (O : OwnEq X.K C (He.ma X.K (He.ga X.K C) "__eq__")) (N : OwnSub X.K C) (hj : j + 2 ≤ k := by decide) : Opr X (compareOp .NotIn) (Bv.inOwn C g true) := by
  obtain ⟨fd, ps, F, b⟩ := c.ex
  exact ⟨_, op_ninO h.gu F O N (h.room.mono hj) b, o_inO⟩
end
end Bv
set_option Elab.async false
set_option linter.all false
set_option maxRecDepth 100000
set_option maxHeartbeats 4000000
/-! By value: tuples of own things that are equal, one by one; - of an int. -/
namespace PySem
open Sem (wp)
open AutoSeq1 (wpAny_loadPart')
open MeetsSeq MeetsSeq2 MeetsSeq3 SeqRoads2
namespace BvTu
section
variable {prog : Program} {w : World} {A : Around} {R : Result → Shared → Prop}
/-- != of tuples whose items are equal, one by one -/
theorem ne_all (p q : Addr) (us vs : Array Value) (n m : Nat) (dp dq : Option Addr) (sp sq : Array (Option Value)) (many : us.size = vs.size) (J : Nat → Shared → Prop)
    (one : ∀ i (h1 : i < us.size) (h2 : i < vs.size) s, J i s → wpAny (model prog w) A.in1 (eqBool us[i] vs[i]) (fun r s' => r = true ∧ J (i + 1) s') (fun e s' => R (.error e) s') s)
    (last : ∀ s, J us.size s → R (.ok (.ret (.bool false))) s) {s : Shared} (gp : s.heap.get? p = some { cls := .type "tuple", dict := dp, data := .seq us n, slots := sp }) (gq : s.heap.get? q = some { cls := .type "tuple", dict := dq, data := .seq vs m, slots := sq }) (start : J 0 s) :
    wpAny (model prog w) A.in1 (Builtin.«tuple.__ne__» ⟨[.ref p, .ref q], []⟩) (GQ.FinOf prog w A R) (fun e s' => R (.error e) s') s := by
  have below := AutoSeq1.sub_tuple_tuple
  have zl : (us.toList.zip vs.toList).length = us.size := by simp [many]
  have st := start
  obtain ⟨hp, g, d, tk, os⟩ := s
  wp_walk using wpAny_loadPart' gp, wpAny_loadPart' gq, wpAny_forIn_list _ (fun rest b s' => b.1 = none ∧ ∃ i, rest = (us.toList.zip vs.toList).drop i ∧ i ≤ us.size ∧ J i s') _
  case turn =>
    rintro ⟨y, x⟩ rest b s' ⟨eb, i, ez, le, ji⟩
    have lt : i < (us.toList.zip vs.toList).length := by
      rcases Nat.lt_or_ge i (us.toList.zip vs.toList).length with z | z
      · exact z
      · rw [List.drop_of_length_le z] at ez; cases ez
    have l1 : i < us.size := zl ▸ lt
    have l2 : i < vs.size := many ▸ l1
    rw [List.drop_eq_getElem_cons lt] at ez
    injection ez with e1 e2
    obtain rfl : y = us[i] := by have := congrArg Prod.fst e1; simpa using this
    obtain rfl : x = vs[i] := by have := congrArg Prod.snd e1; simpa using this
    refine wpAny_bind (wpAny_mono (one i l1 l2 s' ji) (fun r s2 ⟨hr, j2⟩ => ?_) fun _ _ x => x)
    subst hr
    wp_walk
    exact ⟨rfl, i + 1, e2, l1, j2⟩
  case fin =>
    rintro ⟨b1, b2⟩ s' ⟨eb, i, ez, le, ji⟩
    simp only at eb
    subst eb
    have ge : us.size ≤ i := by
      rcases Nat.lt_or_ge i (us.toList.zip vs.toList).length with z | z
      · rw [List.drop_eq_getElem_cons z] at ez; cases ez
      · exact zl ▸ z
    have e3 : i = us.size := by omega
    have fine : R (.ok (.ret (.bool false))) s' := last s' (e3 ▸ ji)
    wp_walk
    simpa [Builtin.Tuple.tupleCompareSizes, many] using fine
  case h => exact ⟨rfl, 0, rfl, Nat.zero_le _, st⟩
variable {E : Value → Shared → Prop} {s : Shared}
theorem rc_ne {p q : Addr} {us vs : Array Value} {Q : Value → Shared → Prop} (many : us.size = vs.size) (room : A.units < cLine) (J : Nat → Shared → Prop) (tp : s.heap.IsTuple p us) (tq : s.heap.IsTuple q vs)
    (one : ∀ i (h1 : i < us.size) (h2 : i < vs.size) s, J i s → wpAny (model prog w) A.in1 (eqBool us[i] vs[i]) (fun r s' => r = true ∧ J (i + 1) s') E s) (last : ∀ s, J us.size s → Q (.bool false) s) (start : J 0 s) : wpAny (model prog w) A (richCompare .NotEq (.ref p) (.ref q)) Q E s := by
  obtain ⟨⟨c1, d1, t1, l1⟩, o1, k1, n1, e1⟩ := id tp
  obtain ⟨⟨c2, d2, t2, l2⟩, o2, k2, n2, e2⟩ := id tq
  simp only at k1 e1 k2 e2
  subst k1 e1 k2 e2
  refine wpAny_richCompare_same_room (op := .NotEq) ⟨_, o1, rfl⟩ ⟨_, o2, rfl⟩ F.slot_tuple_ne (GQ.call_here F.slot_tuple_ne ⟨_, o1, rfl⟩ F.entry_tuple_ne (F.args_tuple_ne_2 _ _) ?_) room
  exact ne_all (R := wants (fun v s' => v ≠ .notImplemented ∧ Q v s') E) p q us vs n1 n2 d1 d2 l1 l2 many J one (fun s' z => ⟨(fun x => nomatch x), last s' z⟩) o1 o2 start
end
end BvTu
end PySem
namespace Bv
open PySem PySem.Spec L2
open PyProof.Rows hiding St
variable [HasW]
/-- own things, equal one by one -/
def pairsEq (C : Str) (g : List D → PR) : List D → List D → Bool
  | [], [] => true
  | .obj C1 f1 :: ds, .obj C2 f2 :: es => decide (C1 = C) && decide (C2 = C) && (match g [.obj C1 f1, .obj C2 f2] with
    | .ok (.bl true) => true
    | _ => false) && pairsEq C g ds es
  | _, _ => false
theorem pairsEq_at {C : Str} {g : List D → PR} : ∀ {ds es : List D}, pairsEq C g ds es = true → ds.length = es.length ∧ ∀ (i : Nat) d e, ds[i]? = some d → es[i]? = some e → ∃ f1 f2, d = .obj C f1 ∧ e = .obj C f2 ∧ g [d, e] = .ok (.bl true)
  | [], [], _ => ⟨rfl, fun i d e h _ => by simp at h⟩
  | d :: ds, e :: es, h => by
    cases d with
    | obj C1 f1 =>
      cases e with
      | obj C2 f2 =>
        have h : (decide (C1 = C) && decide (C2 = C) && (match g [.obj C1 f1, .obj C2 f2] with
          | .ok (.bl true) => true
          | _ => false) && pairsEq C g ds es) = true := h
        simp only [Bool.and_eq_true, decide_eq_true_eq] at h
        obtain ⟨⟨⟨rfl, rfl⟩, hg⟩, hr⟩ := h
        obtain ⟨hl, hi⟩ := pairsEq_at hr
        have hg : g [.obj C2 f1, .obj C2 f2] = .ok (.bl true) := by
          split at hg
          · assumption
          · cases hg
        refine ⟨by simp [hl], fun i a b h1 h2 => ?_⟩
        cases i with
        | zero =>
          simp at h1 h2
          subst h1 h2
          exact ⟨f1, f2, rfl, rfl, hg⟩
        | succ i => exact hi i a b (by simpa using h1) (by simpa using h2)
      | _ => cases h
    | _ => cases h
  | [], _ :: _, h => by cases h
  | d :: _, [], h => by cases d <;> cases h
abbrev rTuO (K : PySem.W.Frag) (C : Str) (g : List D → PR) (neg : Bool) : R2 := fun x y H Q => ∃ (W : Wd) (ds es : List D) (a b : Addr) (xs ys : List V), x = .ref a ∧ y = .ref b ∧ SqT K H a xs ∧ SqT K H b ys ∧ (∀ a, W a → ∃ o, H a = some o) ∧ AVs K W H ds xs ∧ AVs K W H es ys ∧ pairsEq C g ds es = true ∧ ∀ H', Same H H' → Q (.bl (!neg)) H'
section
variable {X : Cx} {k : Nat} {f : Addr} {fd : FuncData} {ps : List Str} {g : List D → PR} {C : Str}
theorem tu_turn (gu : X.A.guards = some []) (F : FnG X.prog X.w X.K X.mg X.base k f fd ps (spP X.K 2 g)) (O : OwnEq X.K C f) (room : Room (k + 2) X.A) (hb : Binds X.K fd ps []) {pins : List (Addr × Obj)} {σ : St} {H : Hp} {E : Value → Shared → Prop}
    {W : Wd} {ds es : List D} {xs ys : List V} {us vs : List Value} (hw : ∀ a, W a → ∃ o, H a = some o) (as : AVs X.K W H ds xs) (bs : AVs X.K W H es ys) (hp : pairsEq C g ds es = true) (r1 : Vals xs us) (r2 : Vals ys vs)
    (i : Nat) (h1 : i < us.toArray.size) (h2 : i < vs.toArray.size) (s : Shared) (J : ∃ H', Inv X pins σ H' s ∧ Same H H') : wpAny (model X.prog X.w) X.A.in1 (eqBool us.toArray[i] vs.toArray[i]) (fun r s' => r = true ∧ ∃ H', Inv X pins σ H' s' ∧ Same H H') E s := by
  obtain ⟨H', I', k'⟩ := J
  obtain ⟨hl, hi⟩ := pairsEq_at hp
  have u1 : us[i]? = some us.toArray[i] := by simp
  have u2 : vs[i]? = some vs.toArray[i] := by simp
  have z1 : i < xs.length := by rw [r1.length]; simpa using h1
  have z2 : i < ys.length := by rw [r2.length]; simpa using h2
  obtain ⟨a, ha, ra⟩ := r1.get (List.getElem?_eq_getElem z1)
  obtain ⟨b, hb2, rb⟩ := r2.get (List.getElem?_eq_getElem z2)
  rw [u1] at ha
  rw [u2] at hb2
  cases ha
  cases hb2
  obtain ⟨d, hd, ad⟩ := as.at_ (List.getElem?_eq_getElem z1)
  obtain ⟨e, he, ae⟩ := bs.at_ (List.getElem?_eq_getElem z2)
  obtain ⟨f1, f2, rfl, rfl, hg⟩ := hi i _ _ hd he
  generalize us.toArray[i] = ua at *
  generalize vs.toArray[i] = ub at *
  generalize xs[i] = xa at *
  generalize ys[i] = xb at *
  cases ad with
  | obj w0 q0 q1 =>
    cases ae with
    | obj w2 q2 q3 =>
      rename_i p0 dx0 vs0 p1 dx1 vs1
      obtain rfl : ua = Value.ref p0 := ra
      obtain rfl : ub = Value.ref p1 := rb
      have ha' := k' _ _ q0
      have hb' := k' _ _ q2
      by_cases hab : p0 = p1
      · subst hab
        unfold eqBool
        refine wpAny_holding ?_
        rw [if_pos (by simp)]
        exact wpAny_bind (wpAny_rule (wpAny_pure ⟨rfl, H', I', k'⟩))
      · obtain ⟨ox, od, J1⟩ := ins_at I' ha'
        obtain ⟨oy, oe, J2⟩ := ins_at I' hb'
        obtain ⟨m, hF⟩ := I'.fr
        refine GQ.eqBool_refG hab (PySem.W.cmp_K (op := .Eq) (tb := .ref (He.ga X.K C)) (by have := room.in1.un; omega) hF I'.ok.mod.kin J1 J2.type (by simp [PySem.W.notFirst]) O.at_ O.fn ?_)
        refine wpAny_mono (run_in (Q := fun v H'' => v = .bl true ∧ Same H' H'') F (by exact gu) (room.in1.mono (Nat.le_succ k)) hb I' I'.env0.in1 (.cons (show RelV (V.ref p0) (Value.ref p0) from rfl) (.cons (show RelV (V.ref p1) (Value.ref p1) from rfl) .nil)) ⟨rfl, W, [.obj C f1, .obj C f2], fun a h => let ⟨o, q⟩ := hw a h; ⟨o, k' _ _ q⟩, .cons ((AV.obj w0 q0 q1).mv (same_mv k')) (.cons ((AV.obj w2 q2 q3).mv (same_mv k')) .nil), ?_⟩) (fun w s'' z => ?_) fun _ _ z => z
        · rw [hg]
          intro H'' v ex a1
          cases a1
          exact ⟨rfl, ex⟩
        · obtain ⟨v, H'', I'', rv', rfl, k''⟩ := z
          cases rv'
          exact ⟨true, rfl, rfl, H'', I'', fun b o q => k'' b o (k' b o q)⟩
theorem op_tuO (gu : X.A.guards = some []) (F : FnG X.prog X.w X.K X.mg X.base k f fd ps (spP X.K 2 g)) (O : OwnEq X.K C f) (room : Room (k + 2) X.A) (hb : Binds X.K fd ps []) : OpR X (compareOp .Eq) (rTuO X.K C g false) := fun pins s σ H x y v u Q I rx ry h => by
  obtain ⟨W, ds, es, a, b, xs, ys, rfl, rfl, t1, t2, hw, as, bs, hp, q⟩ := h
  cases rx
  cases ry
  obtain ⟨us, r1, p1, _⟩ := I.tuple t1
  obtain ⟨vs, r2, p2, _⟩ := I.tuple t2
  have many : us.toArray.size = vs.toArray.size := by rw [List.size_toArray, List.size_toArray, ← r1.length, ← r2.length, ← as.length, ← bs.length]; exact (pairsEq_at hp).1
  show wpAny (model X.prog X.w) X.A (richCompare .Eq (.ref a) (.ref b)) (EP X pins σ Q) X.xe s
  exact GQ.rc_tupG many room.units0 (fun _ s' => ∃ H', Inv X pins σ H' s' ∧ Same H H') p1 p2 (fun i h1 h2 s' j => tu_turn gu F O room hb hw as bs hp r1 r2 i h1 h2 s' j) (fun s' ⟨H', I', k'⟩ => ⟨.bl true, H', I', rfl, q H' k'⟩) ⟨H, I, Same.refl H⟩
theorem op_tunO (gu : X.A.guards = some []) (F : FnG X.prog X.w X.K X.mg X.base k f fd ps (spP X.K 2 g)) (O : OwnEq X.K C f) (room : Room (k + 2) X.A) (hb : Binds X.K fd ps []) : OpR X (compareOp .NotEq) (rTuO X.K C g true) := fun pins s σ H x y v u Q I rx ry h => by
  obtain ⟨W, ds, es, a, b, xs, ys, rfl, rfl, t1, t2, hw, as, bs, hp, q⟩ := h
  cases rx
  cases ry
  obtain ⟨us, r1, p1, _⟩ := I.tuple t1
  obtain ⟨vs, r2, p2, _⟩ := I.tuple t2
  have many : us.toArray.size = vs.toArray.size := by rw [List.size_toArray, List.size_toArray, ← r1.length, ← r2.length, ← as.length, ← bs.length]; exact (pairsEq_at hp).1
  show wpAny (model X.prog X.w) X.A (richCompare .NotEq (.ref a) (.ref b)) (EP X pins σ Q) X.xe s
  exact BvTu.rc_ne many room.units0 (fun _ s' => ∃ H', Inv X pins σ H' s' ∧ Same H H') p1 p2 (fun i h1 h2 s' j => tu_turn gu F O room hb hw as bs hp r1 r2 i h1 h2 s' j) (fun s' ⟨H', I', k'⟩ => ⟨.bl false, H', I', rfl, q H' k'⟩) ⟨H, I, Same.refl H⟩
end
def tuO (C : Str) (g : List D → PR) (neg : Bool) (a b : D) : Option D := match a, b with
  | .tup ds, .tup es => if pairsEq C g ds es then some (.bl (!neg)) else none
  | _, _ => none
theorem o_tuO {K : PySem.W.Frag} {C : Str} {g : List D → PR} {neg : Bool} : Op2 K (rTuO K C g neg) (tuO C g neg) := fun W H d1 d2 v1 v2 d Q hw a1 a2 e k => by
  unfold tuO at e
  split at e
  · rename_i ds es
    obtain ⟨h1, h2⟩ := ite_some e
    cases h2
    obtain ⟨a, xs, rfl, t1, as⟩ := a1.tq
    obtain ⟨b, ys, rfl, t2, bs⟩ := a2.tq
    exact ⟨W, ds, es, a, b, xs, ys, rfl, rfl, t1.sq, t2.sq, hw, as, bs, h1, fun H' s => k H' _ s (.bl _)⟩
  · cases e
def m_neg (m : M) : M := fun e S => (m e S).bind fun x S1 => optR ((intX x).map fun i => .d (.int (-i))) S1
section
variable {X : Cx} {Wx : WX} {k j : Nat} {C : Str} {g : List D → PR} {pos : Pos} {a : Expr} {m : M}
theorem Here.tuO (h : Here X Wx k) (c : Kept X.prog X.w X.K X.mg X.base j (He.ma X.K (He.ga X.K C) "__eq__") (spP X.K 2 g)) (O : OwnEq X.K C (He.ma X.K (He.ga X.K C) "__eq__")) (hj : j + 2 ≤ k := by decide) : Opr X (compareOp .Eq) (Bv.tuO C g false) := by
  obtain ⟨fd, ps, F, b⟩ := c.ex
  exact ⟨_, op_tuO h.gu F O (h.room.mono hj) b, o_tuO⟩
theorem Here.tunO (h : Here X Wx k) (c : Kept X.prog X.w X.K X.mg X.base j (He.ma X.K (He.ga X.K C) "__eq__") (spP X.K 2 g)) (O : OwnEq X.K C (He.ma X.K (He.ga X.K C) "__eq__")) (hj : j + 2 ≤ k := by decide) : Opr X (compareOp .NotEq) (Bv.tuO C g true) := by
  obtain ⟨fd, ps, F, b⟩ := c.ex
  exact ⟨_, op_tunO h.gu F O (h.room.mono hj) b, o_tuO⟩
theorem me_neg (h : ME X Wx a m) : ME X Wx (.UnaryOp .USub a pos) (m_neg m) := PE.of (pe_un un_neg h) fun σ H Q ⟨Z, ρ, e, S, st, ev, p⟩ => tt_bind st ev p fun ρ1 H1 v x S1 s1 g1 ev1 a1 p1 => by
  obtain ⟨w, hw, p2⟩ := p1.opt
  obtain ⟨i, h1, h2⟩ := Option.map_eq_some_iff.mp hw
  subst h2
  exact ⟨i, a1.int h1, PostG.ret0 p2 s1 (.d (.int _))⟩
end
end Bv
set_option Elab.async false
set_option linter.all false
set_option maxRecDepth 100000
set_option maxHeartbeats 4000000
/-! By value: split into a list that will be changed. -/
namespace Bv
open PySem PySem.Spec L2
open PyProof.Rows hiding St
variable [HasW]
def g_splitN (a : Str) (y : Bv.X) (S : Sto) : R Bv.X := match y with
  | .d (.str b) => if !(b.length == 0) && decide (a.length + 2 ≤ sizeLine) && okStrs (Txt.split a b) then .ok (.r S.length) (S ++ [.lst ((Txt.split a b).map fun z => .d (.str z))]) else .bad
  | _ => .bad
theorem axs_strOk {K : PySem.W.Frag} {W : Wd} {ρ : List Addr} {H : Hp} : ∀ {l : List Str}, okStrs l = true → AXs K W ρ H (l.map fun z => .d (.str z)) (l.map V.str)
  | [], _ => .nil
  | z :: r, h => by
    have h2 : (PyData.strOk z && okStrs r) = true := h
    rw [Bool.and_eq_true] at h2
    exact .cons (.d (.str h2.1)) (axs_strOk h2.2)
section
variable {X : Cx} {Wx : WX} {pos apos : Pos} {o e : Expr} {mo m : M}
theorem me_splitN (ho : ME X Wx o mo) (he : ME X Wx e m) (hs : starEach [e] X.env = [(false, eval e X.env)] := by rfl) (hbase : attributeBase o "split" X.env (eval o X.env) = eval o X.env := by rfl) (hline : (apos.endLine == pos.line) = true := by rfl) :
    ME X Wx (.Call (.Attribute o "split" apos) [e] [] pos) (m_sm1 g_splitN mo m) := PE.of (pe_split ho he hs hbase hline) fun σ H Q ⟨Z, ρ, e, S, st, ev, p⟩ => tt_bind st ev p fun ρ1 H1 v x S1 s1 g1 ev1 a1 p1 => by
  cases a1 with
  | r _ => exact p1.elim
  | d a =>
    cases a with
    | str hz =>
      rename_i z
      refine ⟨⟨z, rfl⟩, tt_bind s1 ev1 (show PostG (AX X.K) X.K Z ρ1 H1 Wx σ Q ((m e S1).bind fun y S2 => g_splitN z y S2) from p1) fun ρ2 H2 u y S2 s2 g2 ev2 a2 p2 => ?_⟩
      unfold g_splitN at p2
      split at p2
      · rename_i b
        split at p2
        · rename_i hc
          rw [Bool.and_eq_true, Bool.and_eq_true] at hc
          obtain ⟨⟨c1, c2⟩, c3⟩ := hc
          cases a2 with
          | d a2 =>
            cases a2 with
            | str hb =>
              refine ⟨z, b, rfl, rfl, by simpa using c1, of_decide_eq_true c2, fun q hq => ?_⟩
              obtain ⟨h1, h2⟩ := s2.pushL hq (axs_strOk (K := X.K) (W := Wn Z ρ2) (ρ := ρ2) (H := H2) c3)
              exact p2 _ _ _ h1 h2 (.r (by rw [s2.len]; simp))
        · exact p2.elim
      · exact p2.elim
    | _ => exact p1.elim
end
end Bv
set_option Elab.async false
set_option linter.all false
set_option maxRecDepth 100000
set_option maxHeartbeats 4000000
/-! By value: xs.extend(ys). -/
namespace Bv
open PySem PySem.Spec L2
open PyProof.Rows hiding St
variable [HasW]
def lstX (S : Sto) : X → Option (List X)
  | .d (.lst ds) => some (ds.map .d)
  | .d _ => none
  | .r n => match S[n]? with
    | some (.lst xs) => some xs
    | _ => none
theorem lstX_inv {K : PySem.W.Frag} {Z : Wd} {ρ : List Addr} {S : Sto} {H : Hp} {x : Bv.X} {v : V} {xs : List Bv.X} (st : Sta K Z ρ S H) (a : AX K (Wn Z ρ) ρ H x v) (h : lstX S x = some xs) : ∃ q vs, v = .ref q ∧ H q = some (.lst vs) ∧ AXs K (Wn Z ρ) ρ H xs vs := by
  cases x with
  | d d =>
    cases a with
    | d a =>
      cases a with
      | lst h1 h2 h3 =>
        cases h
        exact ⟨_, _, rfl, h2, h3.axs⟩
      | _ => cases h
  | r n =>
    have h2 : lstOf S (.r n) = some (n, xs) := by
      unfold lstX at h
      unfold lstOf
      cases z : S[n]? with
      | none => simp only [z] at h; cases h
      | some o =>
        cases o with
        | lst ys =>
          simp only [z] at h ⊢
          cases h
          rfl
        | _ => simp only [z] at h; cases h
    obtain ⟨q, vs, e, _, h3, h4⟩ := lstOf_inv st a h2
    exact ⟨q, vs, e, h3, h4⟩
def g_extend : Bv.X → List Bv.X → Sto → R Bv.X := fun x ys S => match lstOf S x, ys with
  | some (n, xs), [y] => (match lstX S y with
    | some zs => if decide (xs.length + zs.length ≤ sizeLine) then .ok (.d .non) (S.set n (.lst (xs ++ zs))) else .bad
    | none => .bad)
  | _, _ => .bad
theorem b_extend {K : PySem.W.Frag} : MtX K rExtend g_extend := fun Z ρ S H Wx σ x v ys ws Q st a as p => by
  unfold g_extend at p
  split at p
  · rename_i n xs y hl
    cases as with
    | cons h t =>
      cases t
      split at p
      · rename_i zs hy
        split at p
        · rename_i hz
          obtain ⟨q, vs, rfl, e, h3, h4⟩ := lstOf_inv st a hl
          obtain ⟨b, us, rfl, h5, h6⟩ := lstX_inv st h hy
          have hz := of_decide_eq_true hz
          obtain ⟨s5, g5⟩ := st.putL e h3 (Paired.append h4 h6)
          exact ⟨q, b, vs, us, rfl, rfl, h3, h5, by rw [← Paired.length h4, ← Paired.length h6]; exact hz, p ρ _ .non s5 g5 (.d .non)⟩
        · exact p.elim
      · exact p.elim
  · exact p.elim
end Bv
set_option Elab.async false
set_option linter.all false
set_option maxRecDepth 100000
set_option maxHeartbeats 4000000
/-! A class of exceptions over a built-in one whose __new__ is another's (KeyError: LookupError's). -/
namespace Xe
open PySem PySem.W PySem.Calls PyProof.Rows PySem.HandSPX
/-- what is asked of the class's own tail: who makes it, and what it is not -/
structure TailF (newId : String) (bm : List Value) : Prop where
  new : ∃ (Bn inN : String) (bmN : List Value), ExcBaseFacts Bn newId inN bmN ∧ bm.contains (.type Bn) = true
  noA : bm.contains (.type "AttributeError") = false
  noN : bm.contains (.type "NameError") = false
/-- the built-in __init__ -/
structure InitF (B initId : String) : Prop where
  init : Slot B "__init__" initId
  entry : entryFor table initId = some Builtin.«BaseException.__init__»
  kind : builtinKind initId = some .slot
  row : Manifest.signature? initId = some ⟨.positional, "*", B, .self, [⟨"args", .varPos, false⟩]⟩
  star : (B != "*") = true
theorem TailF.of {B newId initId : String} {bm : List Value} (F : ExcBaseFacts B newId initId bm) : TailF newId bm := ⟨⟨B, initId, bm, F, F.hasB⟩, F.noAttr, F.noName⟩
theorem InitF.of {B newId initId : String} {bm : List Value} (F : ExcBaseFacts B newId initId bm) : InitF B initId := ⟨F.init, F.initEntry, F.initKind, F.initRow, F.noStar⟩
theorem TailF.same {newId : String} {bm bmB : List Value} (T : TailF newId bmB) (h : ∀ X : String, bm.contains (.type X) = bmB.contains (.type X)) : TailF newId bm := by
  obtain ⟨⟨Bn, inN, bmN, F, hb⟩, a, n⟩ := T
  exact ⟨⟨Bn, inN, bmN, F, (h _).trans hb⟩, (h _).trans a, (h _).trans n⟩
section
variable {prog : Program} {w : World} {M : Model} {A : Around} {E : Value → Shared → Prop} {R : Result → Shared → Prop} {h : Heap} {g : Array GenState} {d : Drawn} {t : Nat} {os : OsState}
variable {nm q : Str} {C N : Addr} {bs bm : List Value} {hdct : Bool} {sn : List Str} {sub : List Value} {ab : Bool} {col : Option Bool} {dd : Option Addr} {k0 k1 k2 k3 k5 : Option Value} {B newId initId : String}
theorem new_check {Bn inN : String} {bmN : List Value} (F : ExcBaseFacts Bn newId inN bmN) (hB : bm.contains (.type Bn) = true) {rest : List Value} {Q : Unit → Shared → Prop}
    (hC : h.get? C = some (excClassObj nm q C N bs bm hdct sn sub ab col dd k0 k1 k2 k3 k5 newId)) (hq : Q () ⟨h, g, d, t, os⟩) : wpAny M A (checkBuiltinCall newId ⟨.ref C :: rest, []⟩) Q E ⟨h, g, d, t, os⟩ := by
  have within : (Value.ref C :: bm).contains (.type Bn) = true := by rw [List.contains_cons, hB, Bool.or_true]
  have star := F.noStar
  simp only [checkBuiltinCall, F.newKind, F.newSplit, F.newRow]
  repeat (first | refine wpAny_loadPart_at hC ?_ | (refine wpAny_isSubtype_exc hC ?_; rw [within]) | refine wpAny_staticBase_exc hC ?_ | refine wpAny_madeBy_exc hC ?_ | simp only [bne_self_eq_false, Bool.false_eq_true, if_false] | wp_step)
  exact hq
theorem new_made {Bn inN : String} {bmN : List Value} (F : ExcBaseFacts Bn newId inN bmN) (hB : bm.contains (.type Bn) = true) (hA : bm.contains (.type "AttributeError") = false) (hN : bm.contains (.type "NameError") = false) {rest : List Value}
    (hC : h.get? C = some (excClassObj nm q C N bs bm hdct sn sub ab col dd k0 k1 k2 k3 k5 newId))
    (hq : R (.ok (.ret (.ref (h.objs.size + 1)))) ⟨(h.push (kdv_tup rest)).push (excO C h.objs.size), g, d, t, os⟩) (hrest : rest.length ≤ sizeLine) :
    codeAny (model prog w) A (.builtin newId ⟨.ref C :: rest, []⟩) R ⟨h, g, d, t, os⟩ := by
  have ends := F.ends
  have c1 : (Value.ref C :: bm).contains (.type Bn) = true := by rw [List.contains_cons, hB, Bool.or_true]
  have c2 : (Value.ref C :: bm).contains (.type "AttributeError") = false := by rw [List.contains_cons, hA]; rfl
  have c3 : (Value.ref C :: bm).contains (.type "NameError") = false := by rw [List.contains_cons, hN]; rfl
  refine codeAny_builtinAt F.entry ?_
  unfold Builtin.«BaseException.__new__»
  refine PySem.wpAt_bind ?_
  show PySem.wpAt _ _ _ (stack >>= _) _ _ _
  refine PySem.wpAt_bind (PySem.wpAt_stack fun p below => PySem.wpAt_of_wpAny ?_)
  wp_walk
  refine PySem.wpAt_of_wpAny ?_
  rw [F.owner]
  repeat (first | with_reducible refine wpAny_madeHere_exc F.canon hC ?_ | with_reducible refine wpAny_loadPart_at hC ?_ | (with_reducible refine wpAny_isSubtype_exc hC ?_; first | rw [c1] | rw [c2] | rw [c3]) | wp_step)
  show R _ _
  rw [Heap.size_push]
  exact hq
theorem class_call (T : TailF newId bm) {rest : List Value} {fI : Addr} {Q : Fin → Shared → Prop}
    (hC : h.get? C = some (excClassObj nm q C N bs bm hdct sn sub ab col dd k0 k1 k2 k3 k5 newId))
    (hi : W.Looks (model prog w) h (typeLookup (.ref C) "__init__") (some (.ref fI))) (hb : ∀ self, W.Looks (model prog w) h (bindSpecial (.ref fI) self) (.ref fI, [self])) (hrest : rest.length ≤ sizeLine)
    (hq : codeAny (model prog w) A (.call (.ref fI) ⟨.ref (h.objs.size + 1) :: rest, []⟩)
      (fun r s' => match r with | .ok (.ret v) => v = .none ∧ Q (.done (.ret (.ref (h.objs.size + 1)))) s' | .ok _ => False | .error e => E e s')
      ⟨(h.push (W.kdv_tup rest)).push (excO C h.objs.size), g, d, t, os⟩) :
    wpAny (model prog w) A (Builtin.«type.__call__» ⟨.ref C :: rest, []⟩) Q E ⟨h, g, d, t, os⟩ := by
  obtain ⟨⟨Bn, inN, bmN, F, hB⟩, hA, hN⟩ := T
  repeat (first | with_reducible refine wpAny_loadPart_at hC ?_ | with_reducible refine wpAny_madeBy_exc hC ?_ | wp_step)
  refine codeAny_call_builtin_code (Code.quiet_builtin _ F.quiet) (new_check F hB hC ?_)
  refine new_made F hB hA hN hC ?_ hrest
  show wpAny _ _ _ _ _ _
  have k : ∀ b o, h.get? b = some o → ((h.push (W.kdv_tup rest)).push (excO C h.objs.size)).get? b = some o := fun b o e => Heap.get?_push_of_some _ (Heap.get?_push_of_some _ e)
  have cls1 := k _ _ hC
  have obj1 : ((h.push (W.kdv_tup rest)).push (excO C h.objs.size)).get? (h.objs.size + 1) = some (excO C h.objs.size) := by heap_get
  have self1 : (Value.ref C :: bm).contains (.ref C) = true := by simp
  have i1 := hi.keeps k
  have b1 := (hb (.ref (h.objs.size + 1))).keeps k
  unfold isInstance
  repeat (first | with_reducible refine wpAny_loadPart_at obj1 ?_ | (with_reducible refine wpAny_isSubtype_exc cls1 ?_; rw [self1]) | wp_step)
  show wpAny _ _ (typeLookup (.ref C) _) _ _ _
  refine i1.at ?_
  refine wpAny_holding (wpAny_bind (b1.at ?_))
  refine wpAny_bind (wpAny_call (codeAny_mono hq fun r s' z => ?_))
  rcases r with e | (v | _ | _ | _) <;> first | exact z | exact z.elim | skip
  obtain ⟨rfl, z⟩ := z
  first
    | exact wpAny_pure (wpAny_pure z)
    | (wp_walk; exact z)
theorem call_class (T : TailF newId bm) {rest : List Value} {fI : Addr}
    (hC : h.get? C = some (excClassObj nm q C N bs bm hdct sn sub ab col dd k0 k1 k2 k3 k5 newId))
    (hi : W.Looks (model prog w) h (typeLookup (.ref C) "__init__") (some (.ref fI))) (hb : ∀ self, W.Looks (model prog w) h (bindSpecial (.ref fI) self) (.ref fI, [self])) (hrest : rest.length ≤ sizeLine)
    (hq : codeAny (model prog w) (A.under (.builtin "type.__call__" ⟨.ref C :: rest, []⟩)) (.call (.ref fI) ⟨.ref (h.objs.size + 1) :: rest, []⟩) (W.InitBack (h.objs.size + 1) R)
      ⟨(h.push (W.kdv_tup rest)).push (excO C h.objs.size), g, d, t, os⟩) :
    codeAny (model prog w) A (.call (.ref C) ⟨rest, []⟩) R ⟨h, g, d, t, os⟩ := by
  have f1 := tc_lookup
  have f2 := tc_bind (.ref C)
  have ty : (⟨h, g, d, t, os⟩ : Shared).TypeIs (.ref C) "type" := ⟨_, hC, rfl⟩
  refine codeAny_of_tree ?_
  show wpAny _ _ (callAny (.ref C) _) _ _ _
  repeat (any_goals (first | assumption | with_reducible refine wpAny_loadPart_at hC ?_ | wp_step))
  refine ⟨rfl, ?_⟩
  refine codeAny_call_builtin_at (Code.quiet_builtin _ (by decide +kernel)) entry_typeCall (wpAny_check_type_call_sub hC (class_call T hC hi hb hrest ?_))
  refine codeAny_mono hq fun r s' z => ?_
  rcases r with e | (v | _ | _ | _) <;> exact z
theorem bound_check (F : InitF B initId) {e : Addr} {oe : Obj} {rest : List Value} {Q : Unit → Shared → Prop}
    (hC : h.get? C = some (excClassObj nm q C N bs bm hdct sn sub ab col dd k0 k1 k2 k3 k5 newId)) (he : h.get? e = some oe) (hcls : oe.cls = .ref C) (hq : Q () ⟨h, g, d, t, os⟩) : wpAny M A (checkBoundCall initId ⟨.ref e :: rest, []⟩) Q E ⟨h, g, d, t, os⟩ := by
  have star := F.star
  simp only [checkBoundCall, F.kind, F.row]
  repeat (first | (with_reducible refine wpAny_loadPart_at he ?_; rw [hcls]) | with_reducible refine wpAny_loadPart_at hC ?_ | wp_step)
  refine wpAny_onRaise ?_
  rw [show ∀ (a b : String) (n : Nat), Bind.check ⟨.positional, "*", B, .self, [⟨"args", .varPos, false⟩]⟩ a b n (List.map (fun x => x.fst) ({ pos := Value.ref e :: rest } : Args).kw) = pure () from
    fun a b n => check_star_args _ _ _ _ _ _]
  exact wpAny_pure hq
end
/-! KeyError -/
theorem store_KE : StoreFacts "KeyError" [.type "KeyError", .type "LookupError", .type "Exception", .type "BaseException", .type "object"] "object.__setattr__" "object" where
  mro := by kernel_rfl
  slot := .of (owner := "object") (n := "__setattr__") (by rw [typeLookup_type, builtinLookup_eq_fast]; kernel_rfl) (by decide +kernel) (by decide +kernel) (by decide +kernel)
    (by first | exact .inl (by decide +kernel) | exact .inr (by decide +kernel)) (by rw [isSubtype_type]; kernel_rfl)
  entry := F.entry_object_sa
  kind := by decide +kernel
  split := by decide +kernel
  hasOwner := by decide +kernel
  args := fun a b c => by unfold argsOk; kernel_rfl
  passes := fun self => by kernel_rfl
theorem init_KE : InitF "KeyError" "KeyError.__init__" where
  init := .of (owner := "KeyError") (n := "__init__") (by rw [typeLookup_type, builtinLookup_eq_fast]; kernel_rfl) (by decide +kernel) (by decide +kernel) (by decide +kernel)
    (by first | exact .inl (by decide +kernel) | exact .inr (by decide +kernel)) (by rw [isSubtype_type]; kernel_rfl)
  entry := entryFor_alias (id' := "BaseException.__init__") (by rw [fastTable_eq_tree]; kernel_rfl) (by first | rfl | decide +kernel) (by decide +kernel) (by rw [fastTable_eq_tree]; kernel_rfl)
  kind := by kernel_rfl
  row := by kernel_rfl
  star := by decide +kernel
theorem tail_KE : TailF "LookupError.__new__" [.type "KeyError", .type "LookupError", .type "Exception", .type "BaseException", .type "object"] := ⟨⟨_, _, _, F.excBase_LookupError, by decide +kernel⟩, by decide +kernel, by decide +kernel⟩
theorem kxs_KE : KxsFacts "KeyError" "KeyError.__init__" := ⟨by show builtinType _ = _; rw [builtinType_eq_fast]; kernel_rfl, by first | kernel_rfl | rfl⟩
end Xe
set_option Elab.async false
set_option linter.all false
set_option maxRecDepth 100000
set_option maxHeartbeats 4000000
/-! An own exception C(v), over any built-in base, whose __init__ says super().__init__(p) and self.p = p. -/
namespace Xe
open PySem PySem.W PySem.Calls PyProof.Rows PySem.HandSPX
def eArgs (p : Str) (a1 a2 : Pos) : Arguments := { posonlyargs := [], args := [{ arg := "self", annotation := none, pos := a1 }, { arg := p, annotation := none, pos := a2 }], vararg := none, kwonlyargs := [], kw_defaults := [], kwarg := none, defaults := [] }
def eBody (p : Str) (p0 p1 p2 p3 p4 p5 q1 q2 q3 q4 : Pos) : List Stmt :=
  [.Expr (.Call (.Attribute (.Call (.Name "super" p0) [] [] p1) "__init__" p2) [.Name p p3] [] p4) p5, .Assign [.Attribute (.Name "self" q1) p q2] (.Name p q3) q4]
def eSc (p : Str) : Scope := { kind := .function, names := [("self", .local), (p, .local), ("__class__", .free), ("super", .globalImplicit)], isGenerator := false, isCoroutine := false, more := [] }
theorem eSc_cells {p : Str} : ∀ x ∈ (eSc p).names, x.2 ≠ .cell := fun x hx => by
  simp only [eSc, List.mem_cons, List.not_mem_nil, or_false] at hx
  rcases hx with rfl | rfl | rfl | rfl <;> simp
/-- the call's tree (it hangs on where it stands) -/
def EHe (p : Str) (p0 p1 p2 p3 p4 : Pos) : Prop := ∀ env : Env, ∃ pl : Sem Bool, eval (.Call (.Attribute (.Call (.Name "super" p0) [] [] p1) "__init__" p2) [.Name p p3] [] p4) env = (do
  let ov ← attributeBase (.Call (.Name "super" p0) [] [] p1) "__init__" env (eval (.Call (.Name "super" p0) [] [] p1) env)
  standAt p2.atName
  let (f, first) ← holding [ov] (getMethod ov "__init__" pl)
  callWith p4 f first (backTo p4 (starEach [.Name p p3] env)) [])
def ParN (p : Str) : Prop := p = "word" ∨ p = "at" ∨ p = "name"
/-- what the base is -/
structure EBase (B newId initId : String) (bmB : List Value) : Prop where
  T : TailF newId bmB
  I : InitF B initId
  K : KxsFacts B initId
  S : StoreFacts B bmB "object.__setattr__" "object"
theorem base_VE : EBase "ValueError" "ValueError.__new__" "ValueError.__init__" [.type "ValueError", .type "Exception", .type "BaseException", .type "object"] := ⟨.of F.excBase_ValueError, .of F.excBase_ValueError, kxs_ValueError, F.store_ValueError⟩
theorem base_IE : EBase "IndexError" "IndexError.__new__" "IndexError.__init__" [.type "IndexError", .type "LookupError", .type "Exception", .type "BaseException", .type "object"] := ⟨.of F.excBase_IndexError, .of F.excBase_IndexError, kxs_IndexError, F.store_IndexError⟩
theorem base_KE : EBase "KeyError" "LookupError.__new__" "KeyError.__init__" [.type "KeyError", .type "LookupError", .type "Exception", .type "BaseException", .type "object"] := ⟨tail_KE, init_KE, kxs_KE, store_KE⟩
/-- what the written part says of the class at C, of its __init__ at fI -/
structure ErrT (prog : Program) (K : Frag) (C fI : Addr) (p : Str) (B newId initId : String) (bmB : List Value) : Prop where
  ini : excInitIn K C bmB newId = true
  over : excOver K C bmB = true
  hdC : hasDictIn K C = true
  sa : findIn K (.ref C) "__setattr__" = some (some (.builtin "object.__setattr__"))
  noP : findIn K (.ref C) p = some none
  iC : findIn K (.ref C) "__init__" = some (some (.ref fI))
  tC : typeIn K (.ref fI) = some (.type "function")
  kC : keepIn K (.ref C) = true
  exC : subIn K (.ref C) (.type "BaseException") = some true
  exB : subIn K (.ref C) (.type B) = some true
  tyC : typeIn K (.ref C) = some (.type "type")
  opq : nsIn K cStatics "thirdparty.any" = some none
  sup : ks_superIn K C C "__init__" = some (some (.builtin initId))
  mro : mroIn K C (.ref C) = some true
  sg : nsIn K mainGlobals "super" = some none
  fn : ∃ (oc : Value) (od : Option Addr) (doc pm : Value) (an : Option Addr) (cda cc : Addr) (ct : Value) (osl : Array (Option Value)) (qual : Str) (a1 a2 p0 p1 p2 p3 p4 p5 q1 q2 q3 q4 : Pos),
    K.lookup fI = some ⟨oc, od, .func (ksFn "__init__" qual (eArgs p a1 a2) (eBody p p0 p1 p2 p3 p4 p5 q1 q2 q3 q4) (eSc p) .none .none doc pm an (.ref cda) ct cc), osl⟩ ∧ codeIn K (.ref cda) qual = true ∧ EHe p p0 p1 p2 p3 p4 ∧
    (∃ ccl cdd vs ccs file tf, K.lookup cda = some ⟨ccl, cdd, .fields vs, ccs⟩ ∧ vs[2]? = some (.str file tf) ∧ ((prog.main.file : Str) == file) = true) ∧
    (∃ cl cld csl, K.lookup cc = some ⟨cl, cld, .cell (some (.ref C)), csl⟩)
/-- names of the caller's module -/
structure EMod (K : Frag) (base : Heap) (prog : Program) : Prop where
  kin : K.In base
  ns : ∃ mg, base.Ns mainGlobals mg
  blt : ∃ mb, base.Ns builtinsNs mb ∧ ∀ x : Str, x ≠ "__name__" → mb x = bootBuiltins x
  top : (prog.main.scope.names.lookup ("super" : Str)).isSome = false
theorem one_size' (v : Value) : [v].length ≤ sizeLine := by
  rw [sizeLine_eq]
  exact (by decide : 1 ≤ 16777216)
/-- what __init__ leaves of a fresh exception at x -/
structure EEnd (h h' : Heap) (x C dx t1 : Addr) (p : Str) (v : Value) : Prop where
  keep : ∀ b o, b ≠ x → h.get? b = some o → h'.get? b = some o
  obj : h'.get? x = some { cls := .ref C, dict := some dx, data := .fields #[.ref t1, .none, .none, .none, .bool false, .none] }
  dbig : h.objs.size ≤ dx
  dne : dx ≠ x
  ns : h'.Ns1 dx (fun y => if y = p then some v else none)
/-- C(v) made -/
structure EMade (h h' : Heap) (e C d : Addr) (p : Str) (v : Value) : Prop where
  keep : ∀ b o, h.get? b = some o → h'.get? b = some o
  new : h.objs.size ≤ e
  obj : ∃ t1 : Addr, h'.get? e = some ({ cls := .ref C, dict := some d, data := .fields #[.ref t1, .none, .none, .none, .bool false, .none] } : Obj)
  dbig : h.objs.size ≤ d
  dne : d ≠ e
  ns : h'.Ns1 d (fun y => if y = p then some v else none)
section
variable {prog : Program} {w : World} {A : Around} {E : Value → Shared → Prop} {R : Result → Shared → Prop} {K : Frag} {C fI : Addr} {p : Str} {B newId initId : String} {bmB : List Value} {base : Heap}
/-- the walk of a store at a fresh exception's own dict -/
theorem store_new {x : Addr} {fv : Array Value} {v : Value} {tk : Tok} {h : Heap} {g : Array GenState} {d : Drawn} {t : Nat} {os : OsState} (SF : StoreFacts B bmB "object.__setattr__" "object") (X : K.In h) (hx : h.get? x = some { cls := .ref C, data := .fields fv }) (ov : excOver K C bmB = true) (hdc : hasDictIn K C = true) (np : findIn K (.ref C) p = some none)
    (hq : ∀ h' tk' dx, (∀ b o, b ≠ x → h.get? b = some o → h'.get? b = some o) → h.objs.size ≤ dx → dx ≠ x → h'.get? x = some { cls := .ref C, dict := some dx, data := .fields fv } → h'.Ns1 dx (fun y => if y = p then some v else none) → R (.ok (.ret .none)) ⟨h', g, d, tk', os⟩) :
    codeAny (model prog w) A (.call (.builtin "object.__setattr__") ⟨[.ref x, .str p tk, v], []⟩) R ⟨h, g, d, t, os⟩ := by
  have I : InstAt h x { cls := .ref C, data := .fields fv } C none := ⟨hx, rfl, rfl, trivial⟩
  have nx : x ≠ h.objs.size := Nat.ne_of_lt (Heap.lt_size hx)
  obtain ⟨cd, hcd, hdt⟩ : ∃ cd, clsIn K C = some cd ∧ cd.hasDict = true := by
    unfold hasDictIn at hdc
    cases z : clsIn K C with
    | none => rw [z] at hdc; cases hdc
    | some cd => rw [z] at hdc; exact ⟨cd, rfl, hdc⟩
  have LC : Looks (model prog w) h (classData C) cd := looks_clsIn X hcd
  refine osa_openX SF (s := ⟨h, g, d, t, os⟩) X I ov (show takerIn K C p = some none by unfold takerIn; rw [np]; rfl) fun bb => ?_
  show wpAny _ _ (Builtin.ObjectAttr.storeInOwnDict (.ref x) (.ref C) (.str p tk) p v bb) _ _ _
  obtain ⟨c1, c2, c3, c4, c5, c6, c7, c8, c9, c10, c11⟩ := cd
  dsimp only at hdt
  subst hdt
  unfold Builtin.ObjectAttr.storeInOwnDict Builtin.ObjectAttr.ownDictForStores
  repeat (first
    | with_reducible refine HandSPX.store_in_new ?_ ?_
    | with_reducible refine wpAny_loadPart_at hx ?_
    | with_reducible refine LC.at ?_
    | wp_step)
  · have at_ := (Heap.get?_update_ne (h.push { cls := .type "dict", data := .dict #[] }) h.objs.size x (fun o => { o with dict := some h.objs.size }) nx.symm).trans (Heap.get?_push_at rfl rfl)
    exact ⟨_, #[], _, at_, rfl, fun e he => absurd he (by simp), fun _ => rfl⟩
  · intro h1 tk1 N1 S1
    have hx1 := Heap.get?_push_of_some { cls := Value.type "dict", data := Data.dict #[] } hx
    refine hq h1 tk1 h.objs.size (fun b o hb ho => ?_) (Nat.le_refl _) nx.symm ?_ N1
    · have up := (Heap.get?_update_ne _ _ _ (fun o : Obj => { o with dict := some h.objs.size }) hb).trans (Heap.get?_push_of_some { cls := Value.type "dict", data := Data.dict #[] } ho)
      exact (S1.2 b (Nat.ne_of_lt (Heap.lt_size ho))).trans up
    · exact (S1.2 x nx).trans (Heap.get?_update_self _ hx1 rfl)
theorem ne_key {K : Frag} {h : Heap} (X : K.In h) {a : Addr} (ha : h.objs.size ≤ a) : K.lookup a = none := by
  cases e : K.lookup a with
  | none => rfl
  | some o => exact absurd (Heap.lt_size (X _ _ e)) (Nat.not_lt.mpr ha)
theorem callWith_one {M : Model} {pos : Pos} {i : String} {x u : Addr} {env : Env} {e : PySem.Expr} {s : Shared} {Q : Value → Shared → Prop} (h : wpAny M A (eval e env) (fun v s1 => KxsAt i u x s1.heap ∧ wpAny M A (call (.ref u) [v]) Q E s1) E s)
    (he : starEach [e] env = [(false, eval e env)]) : wpAny M A (callWith pos (.ref u) [] (backTo pos (starEach [e] env)) []) Q E s := by
  have key : wpAny M A (spliced (backTo pos (starEach [e] env))) (fun vs s1 => KxsAt i u x s1.heap ∧ wpAny M A (call (.ref u) vs) Q E s1) E s :=
    PyProof.Rows.spliced_more (wpAny_mono h (fun v s1 h1 => PyProof.Rows.spliced_none h1) fun _ _ z => z) he
  rw [he] at key ⊢
  exact kxs_callWith (i := i) (x := x) rfl (evalArgs_plain key)
/-- the bound __init__ of the base, called -/
theorem call_mw (Bs : EBase B newId initId bmB) {nm qn : Str} {N : Addr} {bs bm : List Value} {hdct : Bool} {sn : List Str} {sub : List Value} {ab : Bool} {col : Option Bool} {dd : Option Addr} {j0 j1 j2 j3 j5 : Option Value} {h : Heap} {g : Array GenState} {d : Drawn} {t : Nat} {os : OsState} {u x t0 : Addr} {v : Value} {Q : Value → Shared → Prop}
    (hC : h.get? C = some (excClassObj nm qn C N bs bm hdct sn sub ab col dd j0 j1 j2 j3 j5 newId)) (hx : h.get? x = some (excO C t0)) (hu : h.get? u = some (kxs_mw initId x))
    (hq : ∀ h', (∀ b o, b ≠ x → h.get? b = some o → h'.get? b = some o) → h'.get? x = some (excO C h.objs.size) → Q .none ⟨h', g, d, t, os⟩) : wpAny (model prog w) A (call (.ref u) [v]) Q E ⟨h, g, d, t, os⟩ := by
  refine wpAny_call (codeAny_of_tree ?_)
  show wpAny _ A.in1 (callAny (.ref u) ⟨[v], []⟩) _ _ _
  simp only [callAny]
  refine wpAny_bind (wpAny_load hu ?_)
  have mw : (Value.type "method-wrapper" == Value.type "method" || Value.type "method-wrapper" == Value.type "builtin_function_or_method" || Value.type "method-wrapper" == Value.type "method-wrapper") = true := by decide
  simp only [kxs_mw, mw, if_true]
  refine KFB.if_so (by decide) (wpAny_bind (bound_check Bs.I hC hx rfl (wpAny_bind (wpAny_pure (wpAny_pure ?_)))))
  refine ⟨plainId_quiet Bs.I.init.plain _, codeAny_builtin Bs.I.entry ?_⟩
  rw [Around.under_plainId Bs.I.init.plain _]
  exact exc_init_tree (cls := .ref C) (t0 := t0) (dv := none) (c2 := .none) (c3 := .none) (b4 := .bool false) hx (one_size' v) fun h' k e _ => hq h' k e
/-- super().__init__(p); self.p = p -/
theorem sup_init (hp : ParN p) (T : ErrT prog K C fI p B newId initId bmB) (Bs : EBase B newId initId bmB) (G : EMod K base prog) {s : Shared} (kb : ∀ b o, base.get? b = some o → s.heap.get? b = some o) {x t0 : Addr} {v : Value} (lim : s.heap.NoLimit) (hx : s.heap.get? x = some (excO C t0)) (hnx : K.lookup x = none) (room : A.depth < recursionLimit)
    (hq : ∀ h' tk dx t1, EEnd s.heap h' x C dx t1 p v → R (.ok (.ret .none)) { s with heap := h', toks := tk }) : codeAny (model prog w) A (.call (.ref fI) ⟨[.ref x, v], []⟩) R s := by
  obtain ⟨oc, od, doc, pm, an, cda, cc, ct, osl, qual, a1, a2, p0, p1, p2, p3, p4, p5, q1, q2, q3, q4, ho, hcode, hHe, ⟨ccl, cdd, vs, ccs, file, tf, hcda, hv2, hfile⟩, ⟨cl, cld, csl, hcc⟩⟩ := T.fn
  have X : K.In s.heap := G.kin.keeps kb
  rcases hp with e | e | e <;> subst e
  all_goals
    refine ks_codeAny_call_defAt (fd := ksFn "__init__" qual (eArgs _ a1 a2) (eBody _ p0 p1 p2 p3 p4 p5 q1 q2 q3 q4) (eSc _) .none .none doc pm an (.ref cda) ct cc) (body := eBody _ p0 p1 p2 p3 p4 p5 q1 q2 q3 q4) (binds := [("self", .ref x), (_, v)])
      room (X _ _ ho) rfl lim (codeRec_of X hcode) rfl (BindsTo.of_eq (by first | rfl | with_unfolding_all rfl)) eSc_cells (by simp only [List.mem_cons, List.not_mem_nil, or_false, forall_eq_or_imp, forall_eq]; exact ⟨by decide +kernel, by decide +kernel⟩) (fun h1 ns1 k1 => ?_) rfl rfl rfl
    have X1 : K.In h1 := X.keeps k1
    have hx1 := k1 _ _ hx
    have kb1 : ∀ b o, base.get? b = some o → h1.get? b = some o := fun b o e => k1 b o (kb b o e)
    obtain ⟨mg, hmg⟩ := G.ns
    have mgs : mg "super" = none := mg_none_of G.kin hmg T.sg
    obtain ⟨mb, hmb, hbb⟩ := G.blt
    obtain ⟨nm, N, qn, bs, bm, hdct, sn, sub, ab, col, dd, j0, j1, j2, j3, j5, hC, hT⟩ := excInit_of X1 T.ini
    have nxC : x ≠ C := fun z => by
      have : K.lookup C = none := z ▸ hnx
      have c := T.ini
      unfold excInitIn at c
      rw [this] at c
      cases c
    obtain ⟨pl, he⟩ := hHe (callEnv (ksFn "__init__" qual (eArgs _ a1 a2) (eBody _ p0 p1 p2 p3 p4 p5 q1 q2 q3 q4) (eSc _) .none .none doc pm an (.ref cda) ct cc) s.heap.objs.size fI)
    refine ks_wpAt_execs_cons (ks_wpAt_Expr_any (ks_wpAt_MethodCall (pl := pl) (he := he) (ks_wpAt_super_base (ar := { arg := "self", annotation := none, pos := a1 }) rfl rfl (by decide +kernel) rfl (X1 _ _ ho) rfl rfl rfl (X1 _ _ hcda) rfl hv2 hfile G.top ?_)))
    refine ks_loadName_global rfl rfl (loadGlobal_builtin (hmg.keeps kb1) mgs (hmb.keeps kb1) ((hbb "super" (by decide)).trans (by decide +kernel)) ⟨rfl, ?_⟩)
    refine wpAny_loadName_free rfl rfl rfl ⟨_, X1 _ _ hcc, rfl⟩ ?_
    refine wpAny_loadName_local (v := .ref x) rfl rfl ns1 (by first | rfl | with_unfolding_all rfl | kernel_rfl) ?_
    refine ks_wpAny_isType_cls hC rfl ⟨rfl, ?_⟩
    refine ks_wpAny_call_super hC rfl hx1 rfl (fun c e => by cases e) (looks_mroIn X1 T.mro) (fun h2 e2 k2 => ?_)
    have X2 : K.In h2 := X1.keeps k2
    have hx2 := k2 _ _ hx1
    have hC2 := k2 _ _ hC
    have I2 : InstAt h2 x (excO C t0) C none := ⟨hx2, rfl, rfl, trivial⟩
    have hI : Looks (model prog w) h2 (isInstance (.ref x) (.type B)) true := I2.type.andThen (looks_subIn X2 T.exB)
    obtain ⟨cd, hcd⟩ : ∃ cd, clsIn K C = some cd := by
      have c := T.sup
      unfold ks_superIn at c
      cases z : clsIn K C with
      | none => rw [z] at c; cases c
      | some cd => exact ⟨cd, rfl⟩
    have hm : alongIn K "__init__" ((cd.mro.dropWhile (· != .ref C)).drop 1) = some (some (.builtin initId)) := by
      have c := T.sup
      unfold ks_superIn at c
      rw [hcd] at c
      exact c
    refine kxs_getMethod Bs.K e2 (looks_opaque X2 T.opq) (l₀ := cd.mro) (fun A Q E s k q => wpAny_bind ((looks_clsIn X2 hcd) A _ E s k (wpAny_pure q))) rfl X2 hm hI nxC (by decide +kernel) ?_
    refine callWith_one (i := initId) (x := x) (wpAny_Name (wpAny_loadName_local (v := v) rfl rfl (ns1.at fun o e => Heap.get?_push_of_some _ (k2 _ _ e)) (by first | rfl | with_unfolding_all rfl | kernel_rfl) ?_)) (by rfl)
    have hu : (h2.push (kxs_mw initId x)).get? h2.objs.size = some (kxs_mw initId x) := Heap.get?_push_at rfl rfl
    refine ⟨hu, call_mw Bs (Heap.get?_push_of_some _ hC2) (Heap.get?_push_of_some _ hx2) hu fun h3 k3 hx3 => ?_⟩
    have nL : s.heap.objs.size ≠ x := Nat.ne_of_gt (Heap.lt_size hx)
    have k23 : ∀ b o, b ≠ x → h1.get? b = some o → h3.get? b = some o := fun b o hb e => k3 b o hb (Heap.get?_push_of_some _ (k2 _ _ e))
    have ns3 : h3.Ns s.heap.objs.size _ := ns1.at fun o e => k23 _ o nL e
    have X3 : K.In h3 := fun a o e => k23 a o (fun z => by rw [z, hnx] at e; cases e) (X1 a o e)
    refine wpAt_of_wpAny (wpAny_execs_cons (plainObj_wpAny_Assign_Attribute ?_))
    refine wpAny_Name (wpAny_loadName_local (v := v) rfl rfl ns3 (by first | rfl | with_unfolding_all rfl | kernel_rfl) ?_)
    refine wpAny_Name (wpAny_loadName_local (v := .ref x) rfl rfl ns3 (by first | rfl | with_unfolding_all rfl | kernel_rfl) ?_)
    refine set_plain X3 (ox := excO C _) (od := none) ⟨hx3, rfl, rfl, trivial⟩ T.sa ?_
    refine store_new Bs.S X3 hx3 T.over T.hdC T.noP fun h4 tk4 dx k4 dn dne hx4 hn4 => ?_
    have bg : s.heap.objs.size < h3.objs.size := ns3.lt
    exact wpAny_execs_nil (hq h4 _ dx _ ⟨fun b o hb e => k4 b o hb (k23 b o hb (k1 b o e)), hx4, Nat.le_trans (Nat.le_of_lt bg) dn, dne, hn4⟩)
/-- C(v) -/
theorem made_ok (hp : ParN p) (T : ErrT prog K C fI p B newId initId bmB) (Bs : EBase B newId initId bmB) (G : EMod K base prog) {h : Heap} {g : Array GenState} {d : Drawn} {t : Nat} {os : OsState} (kb : ∀ b o, base.get? b = some o → h.get? b = some o) {v : Value} (lim : h.NoLimit) (room : A.depth + 1 < recursionLimit)
    (hq : ∀ h' tk e d', EMade h h' e C d' p v → R (.ok (.ret (.ref e))) ⟨h', g, d, tk, os⟩) : codeAny (model prog w) A (.call (.ref C) ⟨[v], []⟩) R ⟨h, g, d, t, os⟩ := by
  have X : K.In h := G.kin.keeps kb
  obtain ⟨nm, N, qn, bs, bm, hdct, sn, sub, ab, col, dd, j0, j1, j2, j3, j5, hC, hT⟩ := excInit_of X T.ini
  have k : ∀ b o, h.get? b = some o → ((h.push (kdv_tup [v])).push (excO C h.objs.size)).get? b = some o := fun b o e => Heap.get?_push_of_some _ (Heap.get?_push_of_some _ e)
  have at_ : ((h.push (kdv_tup [v])).push (excO C h.objs.size)).get? (h.objs.size + 1) = some (excO C h.objs.size) := by heap_get
  refine call_class (Bs.T.same hT) hC (looks_findIn X T.iC) (fun self => bind_fn X self T.tC) (one_size' v) ?_
  refine sup_init (s := ⟨(h.push (kdv_tup [v])).push (excO C h.objs.size), g, d, t, os⟩) hp T Bs G (fun b o e => k b o (kb b o e)) (lim.keeps k) at_ (ne_key X (Nat.le_succ _)) room fun h' tk' dx t1 ⟨k', hx, dn, dne, hns⟩ => ?_
  have old : ∀ b o, h.get? b = some o → h'.get? b = some o := fun b o e => k' b o (Nat.ne_of_lt (Nat.lt_succ_of_lt (Heap.lt_size e))) (k b o e)
  have z : h.objs.size ≤ dx := by
    have q : ((h.push (kdv_tup [v])).push (excO C h.objs.size)).objs.size ≤ dx := dn
    rw [Heap.size_push, Heap.size_push] at q
    omega
  exact ⟨rfl, hq h' tk' (h.objs.size + 1) dx ⟨old, Nat.le_succ _, ⟨_, hx⟩, z, dne, hns⟩⟩
end
end Xe
set_option Elab.async false
set_option linter.all false
set_option maxRecDepth 100000
set_option maxHeartbeats 4000000
/-! .. as an expression that makes an exception. -/
namespace Xe
open PySem PySem.Spec PyProof.Rows L2
/-- what is asked of the program and of the written part, for C(v) -/
structure ErrOk (P : Program) (K : PySem.W.Frag) (C fI : Addr) (p : Str) : Prop where
  ex : ∃ B newId initId bmB, ErrT P K C fI p B newId initId bmB ∧ EBase B newId initId bmB
  par : ParN p
  top : (P.main.scope.names.lookup ("super" : Str)).isSome = false
def tMkS (C : Addr) (p : Str) (ta : TA) : L2.St → Hp → XK → Prop := fun σ H Q => ta σ H fun vs H1 => ∃ v, vs = [v] ∧ ∀ d, H1 d = none → Q (.ref C) (some d) (upd H1 d (.xd [(p, v)]))
section
variable {X : Cx} {C fI : Addr} {p : Str}
/-- C(e): an exception, its record all told -/
theorem pmk_sup {x : Str} {a : Expr} {ta : TA} {np pos : Pos} (T : ErrOk X.prog X.K C fI p) (gC : X.mg x = some (.ref C)) (hr : X.A.depth + 1 < recursionLimit) (ha : PA X [a] ta) (hg : Gl X x) (hdb : (x == ("__debug__" : Str)) = false := by decide)
    (he : starEach (a :: []) X.env = (false, eval a X.env) :: starEach [] X.env := by rfl) (hpl : (backTo pos (starEach [] X.env)).any (·.1) = false := by rfl) :
    L2H.PMk5 X (.Call (.Name x np) [a] [] pos) (tMkS C p ta) := by
  intro pins s σ H Q I h
  obtain ⟨⟨B, newId, initId, bmB, T0, Bs⟩, par, top⟩ := T
  refine wpAny_Call_Name_kw (ld_glob I hg gC ?_ hdb)
  refine PySem.W.callWith_K (h₀ := X.base) I.ok.mod.kin T0.kC (thn (ha.run pos pins s σ H _ I h) fun us s1 ⟨vs, H1, I1, r1, v, ev, q1⟩ => ⟨I1.kIn, ?_⟩) he hpl
  subst ev
  cases r1 with
  | @cons _ v' _ us' rv rn =>
    cases rn
    show wpAny _ _ (call (.ref C) [v']) _ _ _
    have lim := I1.nolimit
    have bk := I1.bk
    have md := I1.ok.mod
    obtain ⟨hp, g, dr, tk, os⟩ := s1
    refine wpAny_call (made_ok par T0 Bs ⟨md.kin, ⟨_, md.glob⟩, md.blt, top⟩ bk lim (hr) fun h' tk' e d M => ?_)
    obtain ⟨t1, hoe⟩ := M.obj
    have hns := M.ns
    obtain ⟨G, g1, g2⟩ := restrict h' fun b => decide (b ≠ e)
    have gk : ∀ b, b ≠ e → G.get? b = h'.get? b := fun b hb => g1 b (decide_eq_true hb)
    have ge : G.get? e = none := g2 e (by simp)
    have old : ∀ b o, hp.get? b = some o → G.get? b = some o := fun b o q => (gk b (Nat.ne_of_lt (Nat.lt_of_lt_of_le (Heap.lt_size q) M.new))).trans (M.keep b o q)
    have rel : ∀ f, RelO (List.lookup f [(p, v)]) (if f = p then some v' else none) := relO_put (fs := []) rv fun _ => True.intro
    have ob : ObjOk X.prog X.w (upd H1 d (.xd [(p, v)])) G d (.xd [(p, v)]) := ⟨_, hns.at (fun o q => (gk d M.dne).trans q), rel⟩
    have J : Inv X pins σ (upd H1 d (.xd [(p, v)])) ⟨G, g, dr, tk', os⟩ := I1.laid (t' := tk') old M.dbig ob
    have ctx : L2N.Zn (.ref C) (some d) ({ cls := .ref C, dict := some d, data := .fields #[.ref t1, .none, .none, .none, .bool false, .none] } : Obj) := ⟨rfl, rfl, fun vs e => by cases e; rfl⟩
    refine ⟨⟨e, _, _, ⟨G, g, dr, tk', os⟩, _, .ref C, some d, rfl, J, fun b o q => ?_, ge, hoe, ctx, rfl, rfl, ?_, rfl, I1.bare, raises_own T0.exC T0.tyC, q1 d (I1.hok.fresh M.dbig)⟩, fun a oe ws ea hg hd => ?_⟩
    · by_cases hb : b = e
      · have q' : G.get? b = some o := q
        rw [hb, ge] at q'; cases q'
      · exact (gk b hb).symm.trans q
    · rw [upd_ne (Ne.symm M.dne)]
      exact I1.hok.fresh M.new
    · cases ea
      have hg' : h'.get? e = some oe := hg
      rw [hoe] at hg'
      cases hg'
      cases hd
      simp
/-- forgetting that its context is None -/
theorem pmk_zc {e : Expr} {t : L2.St → Hp → XK → Prop} (h : L2H.PMk5 X e t) : L2.PMk X e t := fun pins s σ H Q I q => thn (h pins s σ H Q I q) fun u s' ⟨⟨a, oe, vs, sI, H', cls, d, e1, J, k, hne, ha, hz, hd, h1, na, os, ag, r, w⟩, _⟩ =>
  ⟨a, oe, vs, sI, H', cls, d, e1, J, k, hne, ha, hz.zc, hd, h1, na, os, ag, r, w⟩
end
end Xe
set_option Elab.async false
set_option linter.all false
set_option maxRecDepth 100000
set_option maxHeartbeats 4000000
/-! isinstance of a caught exception of an own class, with a dict of its own or none. -/
namespace Xe
open PySem PySem.Spec PyProof.Rows L2
/-- the own dict of the exception that the suite holds -/
def DictAt (H : Hp) (d : Option Addr) : Prop := d = none ∨ ∃ (dd : Addr) (vs : List (Str × V)), d = some dd ∧ H dd = some (.xd vs)
/-- isinstance(e, c) -/
def rIsX (K : PySem.W.Frag) (D a : Addr) (d : Option Addr) : List V → Hp → VK → Prop := fun xs H Q => ∃ (c : V) (cv : Value) (b : Bool), xs = [.ref a, c] ∧ (∀ u, RelV c u → u = cv) ∧ DictAt H d ∧ PySem.W.kitOne K (.ref D) cv = some b ∧ Q (.bl b) H
theorem inst_of {P : Program} {w : World} {H : Hp} {h : Heap} {a D : Addr} {oe : Obj} {d : Option Addr} (at_ : h.get? a = some oe) (hz : Zc (.ref D) d oe) (hf : ∃ vs, oe.data = .fields vs) (ok : HOk P w H h) (hd : DictAt H d) : ∃ od, PySem.W.InstAt h a oe D od := by
  obtain ⟨vs, hv⟩ := hf
  have nc : PySem.W.notCls oe = true := by unfold PySem.W.notCls; rw [hv]
  rcases hd with rfl | ⟨dd, ws, rfl, e⟩
  · exact ⟨none, at_, hz.1, nc, by rw [hz.2]; trivial⟩
  · have ob : ObjOk P w H h dd (.xd ws) := ok dd _ e
    obtain ⟨mA, hns, hr⟩ := ob
    obtain ⟨od, ho, hl⟩ := lookIn_ns hns
    exact ⟨some od, at_, hz.1, nc, by rw [hz.2]; exact ho⟩
theorem call_isX {X : Cx} {a D : Addr} {oe : Obj} {d : Option Addr} {pn : List (Addr × Obj)} (C : ExcC X.K D) (hz : Zc (.ref D) d oe) (hf : ∃ vs, oe.data = .fields vs) : CallR (X.suite a ((a, oe) :: pn)) (.builtin "isinstance") (rIsX X.K D a d) := by
  intro pins s σ H xs us Q I r ⟨c, cv, b, ex, hcv, hd, e, q⟩
  subst ex
  cases r with
  | cons rx rr =>
    cases rr with
    | cons rt rr =>
      cases rr
      cases rx
      have ec := hcv _ rt
      subst ec
      obtain ⟨at_, _⟩ := I.pin (a, oe) (List.mem_append.mpr (.inl List.mem_cons_self))
      obtain ⟨od, J⟩ := inst_of at_ hz hf I.hok hd
      have hcl : (PySem.W.clsIn X.K D).isSome = true := by
        have c := C.hd
        unfold PySem.W.hasDictIn at c
        cases z : PySem.W.clsIn X.K D with
        | none => rw [z] at c; cases c
        | some _ => rfl
      have kx := PySem.W.kitx_exc (x := a) (ox := oe) (od := od) hcl C.hg C.hk C.hs C.ha C.hn C.ht C.hm
      exact PySem.W.kia_one kx I.kIn J e (fun z => nomatch z) fun tk => ⟨.bl b, H, I.kept (t' := tk) fun _ _ z => z, rfl, q⟩
end Xe
set_option Elab.async false
set_option linter.all false
set_option maxRecDepth 100000
set_option maxHeartbeats 4000000
/-! By value: raise C(e), raise C(). -/
namespace Bv
open PySem PySem.Spec L2
open PyProof.Rows hiding St
variable [HasW]
/-- raise C(e), which keeps it as its field p -/
def s_raise (C p : Str) (ms : MG (List Bv.X)) : MS := fun e S => (ms e S).so e fun xs S1 => match xs with
  | [.d v] => .err C [(p, v)] e S1
  | _ => .bad
def s_raise0 (C : Str) : MS := fun e S => .err C [] e S
section
variable {X : Cx} {Wx : WX} {k : Nat} {pos pos2 np : Pos} {a : Expr} {ms : MG (List Bv.X)} {C p x : Str} {fI : Addr}
theorem mp_raise (hc : X.calm = true) (h : Here X Wx k) (T : Xe.ErrOk X.prog X.K (He.ga X.K C) fI p) (gC : X.mg x = some (.ref (He.ga X.K C))) (hg : Gl X x) (ha : MA X Wx [a] ms) (hk : 1 ≤ k := by decide) (hdb : (x == ("__debug__" : Str)) = false := by decide)
    (he : starEach (a :: []) X.env = (false, eval a X.env) :: starEach [] X.env := by rfl) (hpl : (backTo pos (starEach [] X.env)).any (·.1) = false := by rfl) : MP X Wx (.Raise (some (.Call (.Name x np) [a] [] pos)) none pos2) (s_raise C p ms) :=
  PS.of (Xq.ps_raiseQ hc h.tk (Xe.pmk_sup T gC (by have := h.room.dp; omega) ha hg hdb he hpl).pmk) fun D σ H ⟨Z, ρ, e, S, st, ev, q⟩ =>
    so_bind (rel := AXs X.K) st ev q fun ρ1 H1 vs xs S1 s1 g1 ev1 a1 p1 => by
      match xs, vs, a1, p1 with
      | [.d v], [u], .cons (.d a) .nil, p1 =>
        refine ⟨u, rfl, fun d hd => ?_⟩
        have kp := upd_keep (o := .xd [(p, u)]) hd
        have mv := (Go.grow (ρ := ρ1) kp).mv s1
        exact p1 ρ1 _ σ (some d) (s1.grow kp) (Go.grow kp) (ev1.mv mv (List.prefix_refl _)) (.inr ⟨d, _, rfl, hd, s1.fresh hd, upd_same, .cons (a.mv mv) .nil⟩)
      | [], _, _, p1 => exact p1.elim
      | [.r _], _, _, p1 => exact p1.elim
      | .d _ :: _ :: _, _, _, p1 => exact p1.elim
      | .r _ :: _ :: _, _, _, p1 => exact p1.elim
/-- C(), an own class without an __init__ of its own -/
theorem pmk_own0 {C : Addr} {bmB : List Value} {B newId initId : String} (F : ExcBaseFacts B newId initId bmB) (q : PySem.W.excIn X.K C bmB newId = true) (gC : X.mg x = some (.ref C)) (kC : PySem.W.keepIn X.K (.ref C) = true) (r : Raises X (.ref C)) (hg : Gl X x)
    (hdb : (x == ("__debug__" : Str)) = false := by decide) : L2H.PMk5 X (.Call (.Name x np) [] [] pos) (fun _ H Q => Q (.ref C) none H) := by
  intro pins s σ H Q I h
  refine wpAny_Call_Name_kw (ld_glob I hg gC ?_ hdb)
  refine PySem.W.callWith_K0 I.kIn kC ?_
  obtain ⟨bm, N, nm, qn, bs, hdct, sn, sub, ab, col, dd, k0, k1, k2, k3, k5, mN, hC, hN, hni, T⟩ := exc_obj I.kIn q
  exact wpAny_call_exc_subT F T hC hN hni (fun h' e hm => L2H.mk_of5 I hm r h (I.hok.gone hm.new)) (Nat.zero_le _)
end
/-- an own class without an __init__ of its own: what is asked of the written part -/
structure Err0 (K : PySem.W.Frag) (C : Addr) : Prop where
  ini : PySem.W.excIn K C [.type "ValueError", .type "Exception", .type "BaseException", .type "object"] "ValueError.__new__" = true
  kC : PySem.W.keepIn K (.ref C) = true
  exC : PySem.W.subIn K (.ref C) (.type "BaseException") = some true
  tyC : PySem.W.typeIn K (.ref C) = some (.type "type")
section
variable {X : Cx} {Wx : WX} {k : Nat} {pos pos2 np : Pos} {C x : Str}
theorem mp_raise0 (hc : X.calm = true) (h : Here X Wx k) (T : Err0 X.K (He.ga X.K C)) (gC : X.mg x = some (.ref (He.ga X.K C))) (hg : Gl X x) (hdb : (x == ("__debug__" : Str)) = false := by decide) : MP X Wx (.Raise (some (.Call (.Name x np) [] [] pos)) none pos2) (s_raise0 C) :=
  PS.of (Xq.ps_raiseQ hc h.tk (L2H.PMk5.pmk <| pmk_own0 F.excBase_ValueError T.ini gC T.kC (raises_own T.exC T.tyC) hg hdb)) fun D σ H ⟨Z, ρ, e, S, st, ev, q⟩ => q ρ H σ none st (Go.refl _ _) ev (.inl ⟨rfl, rfl⟩)
end
end Bv
set_option Elab.async false
set_option linter.all false
set_option maxRecDepth 100000
set_option maxHeartbeats 4000000
/-! By value: what is told of a caught exception. -/
namespace Bv
open PySem PySem.Spec L2
open PyProof.Rows hiding St
variable [HasW]
theorem sm_tr {H H1 H2 : Hp} (a : Same H H1) (b : Same H1 H2) : Same H H2 := fun c o q => b c o (a c o q)
/-- what is told of an exception of the class C with the fields fs -/
abbrev SX := Str → List (Str × D) → Option D
abbrev SXs := Str → List (Str × D) → Option (List D)
abbrev SXb := Str → List (Str × D) → Option Bool
def ErrAt (K : PySem.W.Frag) (W : Wd) (H : Hp) (fs : List (Str × D)) (d : Option Addr) : Prop := (d = none ∧ fs = []) ∨ ∃ (dd : Addr) (vs : List (Str × V)), d = some dd ∧ H dd = some (.xd vs) ∧ AVf K W H fs vs
theorem ErrAt.same {K : PySem.W.Frag} {W : Wd} {H H' : Hp} {fs : List (Str × D)} {d : Option Addr} (h : ErrAt K W H fs d) (k : Same H H') : ErrAt K W H' fs d := by
  rcases h with h | ⟨dd, vs, h1, h2, h3⟩
  · exact .inl h
  · exact .inr ⟨dd, vs, h1, k _ _ h2, h3.mv (same_mv k)⟩
theorem ErrAt.dict {K : PySem.W.Frag} {W : Wd} {H : Hp} {fs : List (Str × D)} {d : Option Addr} (h : ErrAt K W H fs d) : Xe.DictAt H d := by
  rcases h with ⟨h, _⟩ | ⟨dd, vs, h1, h2, _⟩
  · exact .inl h
  · exact .inr ⟨dd, vs, h1, h2⟩
/-- the surround: slot i holds the exception at a -/
structure SAt (lv : Ev) (K : PySem.W.Frag) (W : Wd) (i : Nat) (a : Addr) (fs : List (Str × D)) (d : Option Addr) (σ : L2.St) (H : Hp) : Prop where
  there : ∀ b, W b → ∃ o, H b = some o
  slot : σ[i]? = some (some (.ref a))
  err : ErrAt K W H fs d
  loc : ∀ (j : Nat) (v : D), lv[j]? = some (some (.d v)) → ∃ u, σ[j]? = some (some u) ∧ AV K W H v u
theorem SAt.same {lv : Ev} {K : PySem.W.Frag} {W : Wd} {i : Nat} {a : Addr} {fs : List (Str × D)} {d : Option Addr} {σ : L2.St} {H H' : Hp} (h : SAt lv K W i a fs d σ H) (k : Same H H') : SAt lv K W i a fs d σ H' := ⟨fun b z => let ⟨o, e⟩ := h.there b z; ⟨o, k _ _ e⟩, h.slot, h.err.same k, fun j v e => let ⟨u, e1, av⟩ := h.loc j v e; ⟨u, e1, av.mv (same_mv k)⟩⟩
def tSE (lv : Ev) (K : PySem.W.Frag) (i : Nat) (a : Addr) (C : Str) (d : Option Addr) (m : SX) : TE := fun σ H Q => ∃ (W : Wd) (fs : List (Str × D)) (f : D), SAt lv K W i a fs d σ H ∧ m C fs = some f ∧ ∀ H' v, Same H H' → AV K W H' f v → Q v H'
def tSA (lv : Ev) (K : PySem.W.Frag) (i : Nat) (a : Addr) (C : Str) (d : Option Addr) (m : SXs) : TA := fun σ H Q => ∃ (W : Wd) (fs : List (Str × D)) (f : List D), SAt lv K W i a fs d σ H ∧ m C fs = some f ∧ ∀ H' v, Same H H' → AVs K W H' f v → Q v H'
def tST (lv : Ev) (K : PySem.W.Frag) (i : Nat) (a : Addr) (C : Str) (d : Option Addr) (m : SXb) : TT := fun σ H Q => ∃ (W : Wd) (fs : List (Str × D)) (f : Bool), SAt lv K W i a fs d σ H ∧ m C fs = some f ∧ ∀ H', Same H H' → Q f H'
abbrev InS (X : Cx) (C : Str) (oe : Obj) (d : Option Addr) : Prop := Zc (.ref (He.ga X.K C)) d oe ∧ ∃ vs, oe.data = .fields vs
def SE (lv : Ev) (X : Cx) (i : Nat) (e : Expr) (m : SX) : Prop := ∀ (a : Addr) (oe : Obj) (C : Str) (d : Option Addr) (pn : List (Addr × Obj)), InS X C oe d → PE (X.suite a ((a, oe) :: pn)) e (tSE lv X.K i a C d m)
def SA (lv : Ev) (X : Cx) (i : Nat) (e : List Expr) (m : SXs) : Prop := ∀ (a : Addr) (oe : Obj) (C : Str) (d : Option Addr) (pn : List (Addr × Obj)), InS X C oe d → PA (X.suite a ((a, oe) :: pn)) e (tSA lv X.K i a C d m)
def ST (lv : Ev) (X : Cx) (i : Nat) (e : Expr) (m : SXb) : Prop := ∀ (a : Addr) (oe : Obj) (C : Str) (d : Option Addr) (pn : List (Addr × Obj)), InS X C oe d → PT (X.suite a ((a, oe) :: pn)) e (tST lv X.K i a C d m)
def x_c (v : D) : SX := fun _ _ => some v
def x_fld (cs : List Str) (f : Str) : SX := fun C fs => if cs.contains C then fs.lookup f else none
def x_isi (tab : List (Str × Bool)) : SX := fun C _ => (tab.lookup C).map D.bl
def x_nil : SXs := fun _ _ => some []
def x_cons (m : SX) (ms : SXs) : SXs := fun C fs => match m C fs, ms C fs with
  | some d, some l => some (d :: l)
  | _, _ => none
def x_tup (ms : SXs) : SX := fun C fs => (ms C fs).bind fun l => if l.length ≤ sizeLine then some (.tup l) else none
def x_op (g : D → D → Option D) (m1 m2 : SX) : SX := fun C fs => match m1 C fs, m2 C fs with
  | some a, some b => g a b
  | _, _ => none
def x_str (m : SX) : SX := fun C fs => match m C fs with
  | some (.int i) => if decide (i.natAbs.log2 < 1920) && PyData.strOk (toString i : String) then some (.str (toString i : String)) else none
  | some (.str z) => some (.str z)
  | _ => none
def x_tb (m : SX) : SXb := fun C fs => match m C fs with
  | some (.bl b) => some b
  | _ => none
def x_notb (m : SXb) : SXb := fun C fs => (m C fs).map fun b => !b
def x_andb (m1 m2 : SXb) : SXb := fun C fs => match m1 C fs with
  | some true => m2 C fs
  | some false => some false
  | none => none
/-- as values: bools -/
def x_not (m : SX) : SX := fun C fs => match m C fs with
  | some (.bl b) => some (.bl (!b))
  | _ => none
def x_and (m1 m2 : SX) : SX := fun C fs => match m1 C fs with
  | some (.bl true) => m2 C fs
  | some (.bl false) => some (.bl false)
  | _ => none
def x_if (t : SXb) (m1 m2 : SX) : SX := fun C fs => match t C fs with
  | some true => m1 C fs
  | some false => m2 C fs
  | none => none
section
variable {lv : Ev} {X : Cx} {i : Nat} {n x : Str} {np p pos tpos : Pos} {e e1 e2 c t : Expr} {es rest : List Expr} {m m1 m2 : SX} {ms : SXs} {mb mc : SXb}
theorem PE.nev {X : Cx} {e : Expr} {t : TE} (h : ∀ σ H Q, ¬ t σ H Q) : PE X e t := ⟨fun _ _ σ H Q _ q => (h σ H Q q).elim⟩
theorem se_c {v : D} {u : V} (h : ∀ a oe pn, PE (X.suite a ((a, oe) :: pn)) e (tC u)) (av : ∀ W H, AV X.K W H v u) : SE lv X i e (x_c v) := fun a oe C d pn _ => PE.of (h a oe pn) fun σ H Q ⟨W, fs, f, at_, hm, q⟩ => by
  cases hm
  exact q H _ Same.rfl' (av _ _)
theorem se_str {z : Str} {j} (h : PyData.strOk z = true := by decide +kernel) : SE lv X i (.Constant (.str z) j pos) (x_c (.str z)) := se_c (fun _ _ _ => pe_str) fun _ _ => .str h
theorem se_int {z : Int} {j} : SE lv X i (.Constant (.int z) j pos) (x_c (.int z)) := se_c (fun _ _ _ => pe_int) fun _ _ => .int z
theorem se_bl {z : Bool} {j} : SE lv X i (.Constant (.bool z) j pos) (x_c (.bl z)) := se_c (fun _ _ _ => pe_bl) fun _ _ => .bl z
/-- e.f -/
theorem se_fld {cs : List Str} {f : Str} (T : ∀ C ∈ cs, XfC X.K (He.ga X.K C) ∧ PySem.W.findIn X.K (.ref (He.ga X.K C)) f = some none) (hN : X.N[i]? = some n := by rfl) (hv : Vis X.env.scope n := by first | exact Or.inl rfl | exact Or.inr (Or.inl rfl) | exact Or.inr (Or.inr rfl))
    (hd : (n == ("__debug__" : Str)) = false := by decide) (hcd : (n == ("__classdict__" : Str)) = false := by decide) (hb : attributeBase (.Name n np) f X.env (eval (.Name n np) X.env) = eval (.Name n np) X.env := by rfl) : SE lv X i (.Attribute (.Name n np) f pos) (x_fld cs f) := fun a oe C d pn hz => by
  by_cases hC : cs.contains C = true
  · obtain ⟨T1, T2⟩ := T C (by simpa using hC)
    refine PE.of (pe_xf T1 T2 hz.1 hz.2 (pe_var (X := X.suite a ((a, oe) :: pn)) hN hv hd hcd) hb) fun σ H Q ⟨W, fs, g, at_, hm, q⟩ => ?_
    unfold x_fld at hm
    rw [if_pos hC] at hm
    rcases at_.err with ⟨_, rfl⟩ | ⟨dd, vs, rfl, e, af⟩
    · cases hm
    · obtain ⟨v, l, av⟩ := af.look hm
      exact ⟨.ref a, at_.slot, rfl, rfl, dd, vs, v, rfl, e, l, q H v Same.rfl' av⟩
  · refine PE.nev fun σ H Q ⟨W, fs, g, at_, hm, q⟩ => ?_
    unfold x_fld at hm
    rw [if_neg hC] at hm
    cases hm
/-- isinstance(e, T) -/
theorem se_isi {tab : List (Str × Bool)} {v : V} {uv : Value} (hg : Gl X "isinstance") (hm : X.mg "isinstance" = none) (T : ∀ C b, tab.lookup C = some b → ExcC X.K (He.ga X.K C) ∧ PySem.W.kitOne X.K (.ref (He.ga X.K C)) uv = some b)
    (hT : ∀ a oe pn, PE (X.suite a ((a, oe) :: pn)) t (tC v)) (hv : ∀ u, RelV v u → u = uv) (hN : X.N[i]? = some n := by rfl) (hvs : Vis X.env.scope n := by first | exact Or.inl rfl | exact Or.inr (Or.inl rfl) | exact Or.inr (Or.inr rfl))
    (hd : (n == ("__debug__" : Str)) = false := by decide) (hcd : (n == ("__classdict__" : Str)) = false := by decide) (hs : starEach [.Name n np, t] X.env = (false, eval (.Name n np) X.env) :: starEach [t] X.env := by rfl) (hs2 : starEach [t] X.env = (false, eval t X.env) :: starEach [] X.env := by rfl)
    (hpl : (backTo pos (starEach [t] X.env)).any (·.1) = false := by rfl) : SE lv X i (.Call (.Name "isinstance" p) [.Name n np, t] [] pos) (x_isi tab) := fun a oe C d pn hz => by
  cases z : tab.lookup C with
  | none =>
    refine PE.nev fun σ H Q ⟨W, fs, g, at_, hm, q⟩ => ?_
    unfold x_isi at hm
    rw [z] at hm
    cases hm
  | some b =>
    obtain ⟨T1, T2⟩ := T C b z
    refine PE.of (pe_callB (X := X.suite a ((a, oe) :: pn)) (Xe.call_isX T1 hz.1 hz.2) hg hm (by rfl) (pa_cons (pe_var (X := X.suite a ((a, oe) :: pn)) hN hvs hd hcd) (pa_cons (hT a oe pn) pa_nil hs2) hs) (by decide) (by decide) hs hpl) fun σ H Q ⟨W, fs, g, at_, hm, q⟩ => ?_
    unfold x_isi at hm
    rw [z] at hm
    cases hm
    exact ⟨.ref a, at_.slot, v, uv, b, rfl, hv, at_.err.dict, T2, q H _ Same.rfl' (.bl b)⟩
theorem se_isiO {tab : List (Str × Bool)} {t : Str} {tp : Pos} (hg : Gl X "isinstance") (hm : X.mg "isinstance" = none) (T : ∀ C b, tab.lookup C = some b → ExcC X.K (He.ga X.K C) ∧ PySem.W.kitOne X.K (.ref (He.ga X.K C)) (.ref (He.ga X.K t)) = some b)
    (hgt : Gl X t) (hmt : X.mg t = some (.ref (He.ga X.K t))) (hN : X.N[i]? = some n := by rfl) (hvs : Vis X.env.scope n := by first | exact Or.inl rfl | exact Or.inr (Or.inl rfl) | exact Or.inr (Or.inr rfl))
    (hd : (n == ("__debug__" : Str)) = false := by decide) (hcd : (n == ("__classdict__" : Str)) = false := by decide) (hdt : (t == ("__debug__" : Str)) = false := by decide) (hs : starEach [.Name n np, .Name t tp] X.env = (false, eval (.Name n np) X.env) :: starEach [.Name t tp] X.env := by rfl) (hs2 : starEach [.Name t tp] X.env = (false, eval (.Name t tp) X.env) :: starEach [] X.env := by rfl)
    (hpl : (backTo pos (starEach [.Name t tp] X.env)).any (·.1) = false := by rfl) : SE lv X i (.Call (.Name "isinstance" p) [.Name n np, .Name t tp] [] pos) (x_isi tab) :=
  se_isi (v := .ref (He.ga X.K t)) hg hm T (fun a oe pn => p_own (X := X.suite a ((a, oe) :: pn)) hgt hmt hdt) (fun _ r => r) hN hvs hd hcd hs hs2 hpl
theorem se_isiT {tab : List (Str × Bool)} {t : Str} {ty : String} {tp : Pos} (hg : Gl X "isinstance") (hm : X.mg "isinstance" = none) (T : ∀ C b, tab.lookup C = some b → ExcC X.K (He.ga X.K C) ∧ PySem.W.kitOne X.K (.ref (He.ga X.K C)) (.type ty) = some b)
    (hgt : Gl X t) (hmt : X.mg t = none) (hbt : bootBuiltins t = some (.type ty) := by decide +kernel) (hnt : t ≠ "__name__" := by decide) (hN : X.N[i]? = some n := by rfl) (hvs : Vis X.env.scope n := by first | exact Or.inl rfl | exact Or.inr (Or.inl rfl) | exact Or.inr (Or.inr rfl))
    (hd : (n == ("__debug__" : Str)) = false := by decide) (hcd : (n == ("__classdict__" : Str)) = false := by decide) (hdt : (t == ("__debug__" : Str)) = false := by decide) (hs : starEach [.Name n np, .Name t tp] X.env = (false, eval (.Name n np) X.env) :: starEach [.Name t tp] X.env := by rfl) (hs2 : starEach [.Name t tp] X.env = (false, eval (.Name t tp) X.env) :: starEach [] X.env := by rfl)
    (hpl : (backTo pos (starEach [.Name t tp] X.env)).any (·.1) = false := by rfl) : SE lv X i (.Call (.Name "isinstance" p) [.Name n np, .Name t tp] [] pos) (x_isi tab) :=
  se_isi (v := .ty ty) hg hm T (fun a oe pn => p_ty (X := X.suite a ((a, oe) :: pn)) hgt hmt hbt hnt hdt) (fun _ r => r) hN hvs hd hcd hs hs2 hpl
theorem sa_nil : SA lv X i [] x_nil := fun a oe C d pn _ => ⟨fun pos pins s σ H Q I ⟨W, fs, f, at_, hm, q⟩ => pa_nil.run pos pins s σ H Q I (by
  cases hm
  exact q H [] Same.rfl' .nil)⟩
theorem sa_cons (h : SE lv X i e m) (h2 : SA lv X i es ms) (hs : starEach (e :: es) X.env = (false, eval e X.env) :: starEach es X.env := by rfl) : SA lv X i (e :: es) (x_cons m ms) := fun a oe C d pn hz => PA.of (pa_cons (h a oe C d pn hz) (h2 a oe C d pn hz) hs) fun σ H Q ⟨W, fs, f, at_, hm, q⟩ => by
  unfold x_cons at hm
  cases z1 : m C fs with
  | none => rw [z1] at hm; cases hm
  | some g =>
    cases z2 : ms C fs with
    | none => rw [z1, z2] at hm; cases hm
    | some l =>
      rw [z1, z2] at hm
      cases hm
      exact ⟨W, fs, g, at_, z1, fun H1 v k a1 => ⟨W, fs, l, at_.same k, z2, fun H2 vs k2 a2 => q H2 _ (sm_tr k k2) (.cons (a1.mv (same_mv k2)) a2)⟩⟩
theorem se_tup {x1} (h : SA lv X i es ms) : SE lv X i (.Tuple es x1 pos) (x_tup ms) := fun a oe C d pn hz => PE.of (pe_tup (h a oe C d pn hz)) fun σ H Q ⟨W, fs, f, at_, hm, q⟩ => by
  unfold x_tup at hm
  cases z : ms C fs with
  | none => rw [z] at hm; cases hm
  | some l =>
    rw [z] at hm
    have hm : (if l.length ≤ sizeLine then some (D.tup l) else none) = some f := hm
    by_cases hl : l.length ≤ sizeLine
    · rw [if_pos hl] at hm
      cases hm
      refine ⟨W, fs, l, at_, z, fun H1 vs k av => ⟨by rw [← av.length]; exact hl, fun r hr => ?_⟩⟩
      exact q _ _ (sm_tr k fun b o z => upd_keep hr b o z) (new_tup (fun b hb => (at_.same k).there b hb) hr av)
    · rw [if_neg hl] at hm; cases hm
theorem se_op {op : Operator} {r : R2} {g : D → D → Option D} (ho : ∀ a oe pn, OpR (X.suite a ((a, oe) :: pn)) (binaryOp op) r) (hf : Op2 X.K r g) (h1 : SE lv X i e1 m1) (h2 : SE lv X i e2 m2) : SE lv X i (.BinOp e1 op e2 pos) (x_op g m1 m2) := fun a oe C d pn hz =>
  PE.of (pe_op (ho a oe pn) (h1 a oe C d pn hz) (h2 a oe C d pn hz)) fun σ H Q ⟨W, fs, f, at_, hm, q⟩ => by
    unfold x_op at hm
    cases z1 : m1 C fs with
    | none => rw [z1] at hm; cases hm
    | some d1 =>
      cases z2 : m2 C fs with
      | none => rw [z1, z2] at hm; cases hm
      | some d2 =>
        rw [z1, z2] at hm
        have hm : g d1 d2 = some f := hm
        exact ⟨W, fs, d1, at_, z1, fun H1 v k a1 => ⟨W, fs, d2, at_.same k, z2, fun H2 u k2 a2 => hf W H2 d1 d2 v u f _ (fun b hb => (at_.same (sm_tr k k2)).there b hb) (.av (a1.mv (same_mv k2))) (.av a2) hm fun H3 y k3 a3 => q H3 y (sm_tr (sm_tr k k2) k3) a3⟩⟩
theorem se_stri (hg : Gl X "str") (hm : X.mg "str" = none) (h : SE lv X i e m) (hs : starEach [e] X.env = (false, eval e X.env) :: starEach [] X.env := by rfl) (hpl : (backTo pos (starEach [] X.env)).any (·.1) = false := by rfl) : SE lv X i (.Call (.Name "str" p) [e] [] pos) (x_str m) := fun a oe C d pn hz =>
  PE.of (pe_callTy (X := X.suite a ((a, oe) :: pn)) c_strI hg hm (by rfl) (pa_cons (h a oe C d pn hz) pa_nil hs) (by decide) (by decide) hs hpl) fun σ H Q ⟨W, fs, f, at_, hm, q⟩ => by
    unfold x_str at hm
    cases z : m C fs with
    | none => rw [z] at hm; cases hm
    | some g =>
      rw [z] at hm
      refine ⟨W, fs, g, at_, z, fun H1 v k av => ?_⟩
      cases g with
      | int j =>
        have hm : (if decide (j.natAbs.log2 < 1920) && PyData.strOk (toString j : String) then some (D.str (toString j : String)) else none) = some f := hm
        obtain ⟨c, hm⟩ := ite_some hm
        cases hm
        obtain ⟨c1, c2⟩ := Bool.and_eq_true_iff.mp c
        cases av
        exact .inl ⟨j, rfl, of_decide_eq_true c1, q H1 _ k (.str c2)⟩
      | str w =>
        cases hm
        cases av with
        | str hw => exact .inr ⟨w, rfl, q H1 _ k (.str hw)⟩
      | _ => cases hm
theorem st_tb (h : SE lv X i c m) (he : ∀ whole, isTrue c X.env whole = (do let v ← whole; standAt c.pos; holding [v] (truthy v)) := by intro _; rfl) : ST lv X i c (x_tb m) := fun a oe C d pn hz => by
  refine ⟨fun pins s σ H Q I hq => (pt_truth (h a oe C d pn hz) he).run pins s σ H Q I ?_⟩
  obtain ⟨W, fs, f, at_, hm, q⟩ := hq
  unfold x_tb at hm
  cases z : m C fs with
  | none => rw [z] at hm; cases hm
  | some g =>
    rw [z] at hm
    cases g with
    | bl b =>
      cases hm
      exact ⟨W, fs, _, at_, z, fun H1 v k av => ⟨f, by cases av; rfl, q H1 k⟩⟩
    | _ => cases hm
theorem st_not (h : ST lv X i c mb) : ST lv X i (.UnaryOp .Not c pos) (x_notb mb) := fun a oe C d pn hz => by
  refine ⟨fun pins s σ H Q I hq => (pt_not (h a oe C d pn hz)).run pins s σ H Q I ?_⟩
  obtain ⟨W, fs, f, at_, hm, q⟩ := hq
  unfold x_notb at hm
  cases z : mb C fs with
  | none => rw [z] at hm; cases hm
  | some b =>
    rw [z] at hm
    cases hm
    exact ⟨W, fs, b, at_, z, q⟩
def SW (lv : Ev) (X : Cx) (i : Nat) (e : Expr) (m : SXb) : Prop := ∀ (a : Addr) (oe : Obj) (C : Str) (d : Option Addr) (pn : List (Addr × Obj)), InS X C oe d → PW (X.suite a ((a, oe) :: pn)) e (tST lv X.K i a C d m)
theorem sw_one (h : ST lv X i c mb) : SW lv X i (.BoolOp .And [c] pos) mb := fun a oe C d pn hz => pw_and1 (h a oe C d pn hz)
theorem sw_and {b : Expr} (h : ST lv X i c mb) (h2 : SW lv X i (.BoolOp .And (b :: rest) pos) mc) : SW lv X i (.BoolOp .And (c :: b :: rest) pos) (x_andb mb mc) := fun a oe C d pn hz => by
  refine ⟨fun wh pins s σ H Q I hq => (pw_and (h a oe C d pn hz) (h2 a oe C d pn hz)).run wh pins s σ H Q I ?_⟩
  obtain ⟨W, fs, f, at_, hm, q⟩ := hq
  unfold x_andb at hm
  cases z : mb C fs with
  | none => rw [z] at hm; cases hm
  | some k =>
    rw [z] at hm
    refine ⟨W, fs, k, at_, z, fun H1 k1 => ?_⟩
    cases k with
    | true =>
      show tST lv X.K i a C d mc σ H1 Q
      exact ⟨W, fs, f, at_.same k1, hm, fun H2 k2 => q H2 (sm_tr k1 k2)⟩
    | false => cases hm; exact q H1 k1
theorem st_w (h : SW lv X i c mb) : ST lv X i c mb := fun a oe C d pn hz => (h a oe C d pn hz).pt
theorem se_if (h : ST lv X i c mb) (h1 : SE lv X i e1 m1) (h2 : SE lv X i e2 m2) : SE lv X i (.IfExp c e1 e2 pos) (x_if mb m1 m2) := fun a oe C d pn hz => PE.of (pe_ifExp (h a oe C d pn hz) (h1 a oe C d pn hz) (h2 a oe C d pn hz)) fun σ H Q ⟨W, fs, f, at_, hm, q⟩ => by
  unfold x_if at hm
  cases z : mb C fs with
  | none => rw [z] at hm; cases hm
  | some k =>
    rw [z] at hm
    refine ⟨W, fs, k, at_, z, fun H1 k1 => ?_⟩
    cases k with
    | true => exact ⟨W, fs, f, at_.same k1, hm, fun H2 v k2 => q H2 v (sm_tr k1 k2)⟩
    | false => exact ⟨W, fs, f, at_.same k1, hm, fun H2 v k2 => q H2 v (sm_tr k1 k2)⟩
theorem se_one {op} (h : SE lv X i e m) : SE lv X i (.BoolOp op [e] pos) m := fun a oe C d pn hz => pe_one (h a oe C d pn hz)
theorem se_not (h : SE lv X i e m) : SE lv X i (.UnaryOp .Not e pos) (x_not m) := fun a oe C d pn hz => PE.of (pe_not (h a oe C d pn hz)) fun σ H Q ⟨W, fs, f, at_, hm, q⟩ => by
  unfold x_not at hm
  cases z : m C fs with
  | none => rw [z] at hm; cases hm
  | some g =>
    rw [z] at hm
    cases g with
    | bl b =>
      cases hm
      exact ⟨W, fs, _, at_, z, fun H1 v k av => by cases av; exact ⟨b, rfl, q H1 _ k (.bl _)⟩⟩
    | _ => cases hm
theorem se_and {b : Expr} (h : SE lv X i e m1) (h2 : SE lv X i (.BoolOp .And (b :: rest) pos) m2) : SE lv X i (.BoolOp .And (e :: b :: rest) pos) (x_and m1 m2) := fun a oe C d pn hz => PE.of (pe_and (h a oe C d pn hz) (h2 a oe C d pn hz)) fun σ H Q ⟨W, fs, f, at_, hm, q⟩ => by
  unfold x_and at hm
  cases z : m1 C fs with
  | none => rw [z] at hm; cases hm
  | some g =>
    rw [z] at hm
    cases g with
    | bl b =>
      refine ⟨W, fs, _, at_, z, fun H1 v k av => ?_⟩
      cases av
      refine ⟨b, rfl, ?_⟩
      cases b with
      | true => exact ⟨W, fs, f, at_.same k, hm, fun H2 v k2 => q H2 v (sm_tr k k2)⟩
      | false => cases hm; exact q H1 _ k (.bl _)
    | _ => cases hm
end
end Bv
set_option Elab.async false
set_option linter.all false
set_option maxRecDepth 100000
set_option maxHeartbeats 4000000
/-! By value: try: body, except C as n: y = (what is told of it). -/
namespace Bv
open PySem PySem.Spec L2
open PyProof.Rows hiding St
variable [HasW]
/-- which classes are caught: tab; the slot of the exception: i; what is told of it goes to the slot j -/
def s_tryAs (tab : List (Str × Bool)) (mb : MS) (i j : Nat) (m : SX) : MS := fun e S => match mb e S with
  | .err C fs e1 S1 => (match tab.lookup C with
    | some true => (match m C fs with
      | some f => if i < e1.length then .go (.nx ((e1.set j (some (.d f))).set i none)) S1 else .bad
      | none => .bad)
    | some false => .err C fs e1 S1
    | none => .bad)
  | r => r
/-- except C: suite, the exception not named -/
def s_tryOn (tab : List (Str × Bool)) (mb ms : MS) : MS := fun e S => match mb e S with
  | .err C fs e1 S1 => (match tab.lookup C with
    | some true => (match ms e1 S1 with
      | .go o S2 => .go o S2
      | _ => .bad)
    | some false => .err C fs e1 S1
    | none => .bad)
  | r => r
theorem EvOk.unset {K : PySem.W.Frag} {W : Wd} {ρ : List Addr} {H : Hp} {e : Ev} {σ : L2.St} {i : Nat} (h : EvOk K W ρ H e σ) : EvOk K W ρ H (e.set i none) (σ.set i none) := by
  refine ⟨by rw [List.length_set, List.length_set]; exact h.len, fun j x q => ?_⟩
  by_cases hj : i = j
  · subst hj
    have hl : i < e.length := by
      have := (List.getElem?_eq_some_iff.mp q).1
      rwa [List.length_set] at this
    rw [List.getElem?_set_self hl] at q
    cases q
  · rw [List.getElem?_set_ne hj] at q
    obtain ⟨u, h1, h2⟩ := h.at_ j x q
    exact ⟨u, by rw [List.getElem?_set_ne hj]; exact h1, h2⟩
/-- a slot that is written in between and then unset -/
theorem EvOk.away {K : PySem.W.Frag} {W : Wd} {ρ : List Addr} {H : Hp} {e : Ev} {σ : L2.St} {i j : Nat} {v u : V} {x : X} (hij : i ≠ j) (h : EvOk K W ρ H e σ) (a : AX K W ρ H x v) : EvOk K W ρ H ((e.set j (some x)).set i none) (((σ.set i (some u)).set j (some v)).set i none) := by
  rw [List.set_comm _ _ hij, List.set_set]
  exact (h.set a).unset
/-- the classes of the except clause -/
def Catch (K : PySem.W.Frag) (c : Value) (tab : List (Str × Bool)) : Prop := ∀ C b, tab.lookup C = some b → PySem.W.exmOne K (.ref (He.ga K C)) c = some b
section
variable {X : Cx} {Wx : WX} {k i j : Nat} {n y x : Str} {c : Value} {body : List Stmt} {np yp apos pos pos' : Pos} {ex : Expr} {mb : MS} {m : SX} {tab : List (Str × Bool)}
theorem Here.tr (h : Here X Wx k) {W : WX} {pn : List (Addr × Obj)} {xe : Value → Shared → Prop} (tk : Xq.Tk (X.tr pn xe) W) : Here (X.tr pn xe) W k := ⟨tk, h.gu, h.room⟩
theorem mp_tryAs (h : Here X Wx k) (hs : X.stack = X.env :: X.outer) (hf : X.env.frame = some X.env.locals) (hN : X.N.Nodup) (hi : X.N[i]? = some n) (hln : X.env.kindOf n = some .local) (hj : X.N[j]? = some y) (hy : Loc X.env.scope y) (hij : i ≠ j) (hc : Names X x c) (ht : Catch X.K c tab) (hpa : ∀ hd : Option Value, PassesOwnAt (model X.prog X.w) (X.A.mark hd) X.A X.env X.xe)
    (hb : ∀ (W : WX) (pn : List (Addr × Obj)) (xe : Value → Shared → Prop), Here (X.tr pn xe) W k → MPs (X.tr pn xe) W body mb) (hse : SE [] X i ex m)
    (hsw : swapsWith ex (some (.Name y yp)) apos.line X.env = pure false := by rfl) (hfn : X.fn y = true ∨ X.env.scope.names.lookup y = some .local := by first | exact .inl rfl | exact .inr rfl) :
    MP X Wx (.Try body [.ExceptHandler (some (.Name x np)) (some n) [.Assign [.Name y yp] ex apos] pos'] [] [] pos) (s_tryAs tab mb i j m) := by
  let ts : Addr → Value → Option Addr → TS := fun a cls d D σ H => ∃ C : Str, cls = .ref (He.ga X.K C) ∧ tAsg (tSE [] X.K i a C d m) (gName j) D σ H
  have hsu : ∀ (a : Addr) (oe : Obj) (cls : Value) (d : Option Addr) (pn : List (Addr × Obj)), Zc cls d oe → (∃ vs, oe.data = .fields vs) → PSs (X.suite a ((a, oe) :: pn)) [.Assign [.Name y yp] ex apos] (ts a cls d) := fun a oe cls d pn hz hd =>
    ⟨fun pins s σ H D I ⟨C, ec, q⟩ => by
      subst ec
      exact (pss_one (ps_set (X := X.suite a ((a, oe) :: pn)) hN hj hy (hse a oe C d pn ⟨hz, hd⟩) hsw hfn)).run pins s σ H D I q⟩
  refine PS.of (Xq.ps_try_asQ (tb := fun W => RS X.K W mb) hs hf hN hi hln hc hpa h.tk (fun W pn xe tk po => hb W pn xe (h.tr tk)) fun a oe cls d pn xe hz hd _ _ => Xq.pss_suiteQ (hsu a oe cls d pn hz hd)) fun D σ H ⟨Z, ρ, e, S, st, ev, p⟩ => ?_
  refine ⟨Z, ρ, e, S, st, ev, ?_⟩
  unfold s_tryAs at p
  cases q : mb e S with
  | bad => rw [q] at p; exact p
  | go o S' => rw [q] at p; cases o <;> exact p
  | err C fs e1 S1 =>
    rw [q] at p
    intro ρ' H' σ' d s1 g1 ev1 er
    have p : PostS X.K Z ρ H Wx D (match tab.lookup C with
      | some true => (match m C fs with
        | some f => if i < e1.length then .go (.nx ((e1.set j (some (.d f))).set i none)) S1 else .bad
        | none => .bad)
      | some false => .err C fs e1 S1
      | none => .bad) := p
    cases z : tab.lookup C with
    | none => rw [z] at p; exact p.elim
    | some b =>
      rw [z] at p
      refine ⟨b, ht C b z, fun hb1 a na => ?_, fun hb1 => ?_⟩
      · subst hb1
        have p : PostS X.K Z ρ H Wx D (match m C fs with
          | some f => if i < e1.length then .go (.nx ((e1.set j (some (.d f))).set i none)) S1 else .bad
          | none => .bad) := p
        cases w : m C fs with
        | none => rw [w] at p; exact p.elim
        | some f =>
          rw [w] at p
          have p : PostS X.K Z ρ H Wx D (if i < e1.length then .go (.nx ((e1.set j (some (.d f))).set i none)) S1 else .bad) := p
          by_cases il0 : i < e1.length
          case neg => rw [if_neg il0] at p; exact p.elim
          rw [if_pos il0] at p
          have il : i < σ'.length := by rw [← ev1.len]; exact il0
          have er2 : ErrAt X.K (Wn Z ρ') H' fs d := by
            rcases er with er | ⟨dd, vs, h1, _, _, h4, h5⟩
            · exact .inl er
            · exact .inr ⟨dd, vs, h1, h4, h5⟩
          exact ⟨C, rfl, Wn Z ρ', fs, f, ⟨fun b hb => s1.thereW hb, by rw [List.getElem?_set_self il], er2, fun j v e => nomatch e⟩, w, fun H2 v k2 av =>
            p ρ' H2 _ (s1.grow k2) (g1.trans (Go.grow k2)) (EvOk.away hij (ev1.mv (same_mv k2) (List.prefix_refl _)) (.d av))⟩
      · subst hb1
        exact p ρ' H' σ' d s1 g1 ev1 er
end
end Bv
set_option Elab.async false
set_option linter.all false
set_option maxRecDepth 100000
set_option maxHeartbeats 4000000
/-! By value: what the head tells of own exceptions. -/
namespace Bv
open PySem PySem.Spec L2
open PyProof.Rows hiding St
/-- an own exception class with such an __init__: its name, its qualified name, the parameter, the def's syntax -/
structure ErrB where
  cls : Str
  qual : Str
  par : Str
  st : Stmt
abbrev inAd (C : Str) (K : PySem.W.Frag) : Addr := He.ma K (He.ga K C) "__init__"
def seenX (K : PySem.W.Frag) (d : ErrB) : He.FnW := match K.lookup (inAd d.cls K) with
  | some ⟨_, _, .func fd, _⟩ => some (fd.name, fd.qualname, fd.params, fd.body, fd.scope, fd.globals, [], fd.builtins)
  | _ => none
def ErrB.val (d : ErrB) : He.FnW := some ("__init__", d.qual, defArgs d.st, .stmts (defBody d.st), defScope d.st, mainGlobals, [], builtinsNs)
def obsX (ts : List (PySem.W.Frag → Bool)) (ds : List DefB) (xs : List ErrB) (K : PySem.W.Frag) : AlB := ((ts.all fun t => t K) && ds.all fun d => d.ok K, (ds.map fun d => seen K (d.ad K)) ++ xs.map (seenX K))
def valX (ds : List DefB) (xs : List ErrB) : AlB := (true, ds.map DefB.val ++ xs.map ErrB.val)
def SaysX (ts : List (PySem.W.Frag → Bool)) (ds : List DefB) (xs : List ErrB) (K : PySem.W.Frag) : Prop := obsX ts ds xs K = valX ds xs
def obsXG (n : Nat) (ts : List (PySem.W.Frag → Bool)) (ds : List DefB) (xs : List ErrB) (g : Addr → Option Obj) : AlB := obsX ts ds xs (He.frG g (He.asD g n ++ [cStatics]))
def hookX (n : Nat) (ts : List (PySem.W.Frag → Bool)) (ds : List DefB) (xs : List ErrB) : PySem.W.Hook where
  α := AlB
  obs := fun s => obsXG n ts ds xs s.heap.get?
  val := fun _ => valX ds xs
  says := fun _ h => ∃ K : PySem.W.Frag, K.In h ∧ SaysX ts ds xs K
  of := fun _ _ e => ⟨_, He.frG_in, e⟩
  keeps := fun _ _ _ ⟨K, i, c⟩ k => ⟨K, PySem.W.Frag.In.keeps i k, c⟩
theorem obsXG_eq {n : Nat} {ts : List (PySem.W.Frag → Bool)} {ds : List DefB} {xs : List ErrB} {g : Addr → Option Obj} {s : Shared} (h : ∀ a, g a = s.heap.get? a) : obsXG n ts ds xs g = (hookX n ts ds xs).obs s := by
  rw [show g = s.heap.get? from funext h]
  rfl
section
variable {ts : List (PySem.W.Frag → Bool)} {ds : List DefB} {xs : List ErrB} {K : PySem.W.Frag}
theorem SaysX.toB (c : SaysX ts ds xs K) : SaysB ts ds K := by
  have e1 := congrArg (fun z : AlB => z.1) c
  have e2 : (ds.map fun d => seen K (d.ad K)) ++ xs.map (seenX K) = ds.map DefB.val ++ xs.map ErrB.val := congrArg (fun z : AlB => z.2) c
  have e3 := (List.append_inj e2 (by rw [List.length_map, List.length_map])).1
  unfold SaysB obsB valB
  rw [e3]
  exact congrArg (fun b => (b, ds.map DefB.val)) (show ((ts.all fun t => t K) && ds.all fun d => d.ok K) = true from e1)
theorem SaysX.seen (c : SaysX ts ds xs K) (i : Nat) {d : ErrB} (h : xs[i]? = some d := by rfl) : seenX K d = d.val := by
  have e2 : (ds.map fun d => Bv.seen K (d.ad K)) ++ xs.map (seenX K) = ds.map DefB.val ++ xs.map ErrB.val := congrArg (fun z : AlB => z.2) c
  have e3 := (List.append_inj e2 (by rw [List.length_map, List.length_map])).2
  have e4 := congrArg (fun l => l[i]?) e3
  simp only [List.getElem?_map, h, Option.map_some, Option.some.injEq] at e4
  exact e4
end
/-- the syntax of such an __init__ -/
def ErrS (st : Stmt) (p : Str) : Prop := ∃ a1 a2 p0 p1 p2 p3 p4 p5 q1 q2 q3 q4 : Pos, defArgs st = Xe.eArgs p a1 a2 ∧ defBody st = Xe.eBody p p0 p1 p2 p3 p4 p5 q1 q2 q3 q4 ∧ defScope st = Xe.eSc p ∧ Xe.EHe p p0 p1 p2 p3 p4
/-- the bases -/
inductive EB where
  | ve | ie | ke
def baseTail : EB → List Value
  | .ve => [.type "ValueError", .type "Exception", .type "BaseException", .type "object"]
  | .ie => [.type "IndexError", .type "LookupError", .type "Exception", .type "BaseException", .type "object"]
  | .ke => [.type "KeyError", .type "LookupError", .type "Exception", .type "BaseException", .type "object"]
def baseOf : EB → String
  | .ve => "ValueError"
  | .ie => "IndexError"
  | .ke => "KeyError"
def newOf : EB → String
  | .ve => "ValueError.__new__"
  | .ie => "IndexError.__new__"
  | .ke => "LookupError.__new__"
def iniOf : EB → String
  | .ve => "ValueError.__init__"
  | .ie => "IndexError.__init__"
  | .ke => "KeyError.__init__"
theorem base_ok (b : EB) : Xe.EBase (baseOf b) (newOf b) (iniOf b) (baseTail b) := by
  cases b with
  | ve => exact Xe.base_VE
  | ie => exact Xe.base_IE
  | ke => exact Xe.base_KE
/-- what is asked of the written part: C over ValueError (b) or IndexError, its __init__ in the file f -/
def t_err1 (C p : Str) (b : EB) (K : PySem.W.Frag) : Bool :=
  PySem.W.excInitIn K (He.ga K C) (baseTail b) (newOf b) && (PySem.W.excOver K (He.ga K C) (baseTail b) && (PySem.W.hasDictIn K (He.ga K C) && (He.eqO (PySem.W.findIn K (.ref (He.ga K C)) "__setattr__") (some (some (.builtin "object.__setattr__"))) &&
  (He.eqO (PySem.W.findIn K (.ref (He.ga K C)) p) (some none) && (He.eqO (PySem.W.findIn K (.ref (He.ga K C)) "__init__") (some (some (.ref (inAd C K)))) && (decide (PySem.W.typeIn K (.ref (inAd C K)) = some (.type "function")) && PySem.W.keepIn K (.ref (He.ga K C))))))))
def t_err2 (C : Str) (b : EB) (K : PySem.W.Frag) : Bool :=
  decide (PySem.W.subIn K (.ref (He.ga K C)) (.type "BaseException") = some true) && (decide (PySem.W.subIn K (.ref (He.ga K C)) (.type (baseOf b)) = some true) && (decide (PySem.W.typeIn K (.ref (He.ga K C)) = some (.type "type")) &&
  (He.eqO (PySem.W.nsIn K cStatics "thirdparty.any") (some none) && (He.eqO (PySem.W.ks_superIn K (He.ga K C) (He.ga K C) "__init__") (some (some (.builtin (iniOf b)))) &&
  (decide (PySem.W.mroIn K (He.ga K C) (.ref (He.ga K C)) = some true) && He.eqO (PySem.W.nsIn K mainGlobals "super") (some none))))))
def t_err3 (C qual file : Str) (K : PySem.W.Frag) : Bool := match K.lookup (inAd C K) with
  | some ⟨_, _, .func fd, _⟩ => (match fd.closure, fd.code with
    | [(x, cc)], .ref cda => decide (x = "__class__") && (decide (fd.defaults = .none) && (decide (fd.kwdefaults = .none) && (PySem.W.codeIn K (.ref cda) qual && ((match K.lookup cda with
      | some ⟨_, _, .fields vs, _⟩ => (match vs.toList[2]? with
        | some (Value.str f _) => decide (file = f)
        | _ => false)
      | _ => false) && (match K.lookup cc with
      | some ⟨_, _, .cell (some (.ref D)), _⟩ => decide (D = He.ga K C)
      | _ => false)))))
    | _, _ => false)
  | _ => false
theorem err_ok {P : Program} {K : PySem.W.Frag} {d : ErrB} {b : EB} {file : Str} (S : ErrS d.st d.par) (hp : Xe.ParN d.par) (hs : seenX K d = d.val) (c1 : t_err1 d.cls d.par b K = true) (c2 : t_err2 d.cls b K = true) (c3 : t_err3 d.cls d.qual file K = true) (hf : P.main.file = file) (ht : (P.main.scope.names.lookup ("super" : Str)).isSome = false) :
    Xe.ErrOk P K (He.ga K d.cls) (inAd d.cls K) d.par := by
  obtain ⟨e1, h⟩ := He.ba c1
  obtain ⟨e2, h⟩ := He.ba h
  obtain ⟨e3, h⟩ := He.ba h
  obtain ⟨e4, h⟩ := He.ba h
  obtain ⟨e5, h⟩ := He.ba h
  obtain ⟨e6, h⟩ := He.ba h
  obtain ⟨e7, e8⟩ := He.ba h
  obtain ⟨f1, h⟩ := He.ba c2
  obtain ⟨f2, h⟩ := He.ba h
  obtain ⟨f3, h⟩ := He.ba h
  obtain ⟨f4, h⟩ := He.ba h
  obtain ⟨f5, h⟩ := He.ba h
  obtain ⟨f6, f7⟩ := He.ba h
  obtain ⟨a1, a2, p0, p1, p2, p3, p4, p5, q1, q2, q3, q4, s1, s2, s3, s4⟩ := S
  refine ⟨⟨_, _, _, _, ⟨e1, e2, e3, He.eqO_ok e4, He.eqO_ok e5, He.eqO_ok e6, of_decide_eq_true e7, e8, of_decide_eq_true f1, of_decide_eq_true f2, of_decide_eq_true f3, He.eqO_ok f4, He.eqO_ok f5, of_decide_eq_true f6, He.eqO_ok f7, ?_⟩, base_ok b⟩, hp, ht⟩
  unfold seenX ErrB.val at hs
  unfold t_err3 at c3
  cases q : K.lookup (inAd d.cls K) with
  | none => rw [q] at c3; cases c3
  | some o =>
    obtain ⟨oc, od, dt, osl⟩ := o
    rw [q] at c3 hs
    cases dt with
    | func fd =>
      obtain ⟨m1, m2, m3, m4, m5, m6, m7, m8, m9, m10, m11, m12, m13, m14, m15⟩ := fd
      have hs : (some (m1, m2, m3, m4, m5, m6, [], m15) : He.FnW) = some (("__init__" : Str), d.qual, defArgs d.st, FuncBody.stmts (defBody d.st), defScope d.st, mainGlobals, [], builtinsNs) := hs
      simp only [Option.some.injEq, Prod.mk.injEq] at hs
      obtain ⟨rfl, rfl, rfl, rfl, rfl, rfl, -, rfl⟩ := hs
      dsimp only at c3
      split at c3
      · rename_i x cc cda
        obtain ⟨g1, h⟩ := He.ba c3
        obtain ⟨g2, h⟩ := He.ba h
        obtain ⟨g3, h⟩ := He.ba h
        obtain ⟨g4, h⟩ := He.ba h
        obtain ⟨g5, g6⟩ := He.ba h
        obtain rfl := of_decide_eq_true g1
        have z2 := of_decide_eq_true g2
        have z3 := of_decide_eq_true g3
        subst z2 z3
        refine ⟨oc, od, m10, m11, m12, cda, cc, m14, osl, d.qual, a1, a2, p0, p1, p2, p3, p4, p5, q1, q2, q3, q4, ?_, g4, s4, ?_, ?_⟩
        · rw [s1, s2, s3]
        · cases w : K.lookup cda with
          | none => rw [w] at g5; cases g5
          | some o2 =>
            obtain ⟨c2, d2, t2, l2⟩ := o2
            rw [w] at g5
            cases t2 with
            | fields vs =>
              dsimp only at g5
              split at g5
              · rename_i f tf hv
                exact ⟨c2, d2, vs, l2, f, tf, rfl, by rw [← Array.getElem?_toList]; exact hv, by rw [hf, of_decide_eq_true g5]; exact beq_self_eq_true _⟩
              · cases g5
            | _ => cases g5
        · cases w : K.lookup cc with
          | none => rw [w] at g6; cases g6
          | some o2 =>
            obtain ⟨c2, d2, t2, l2⟩ := o2
            rw [w] at g6
            split at g6
            · rename_i e
              cases e
              rw [of_decide_eq_true g6]
              exact ⟨_, _, _, rfl⟩
            · cases g6
      · cases c3
    | _ => cases c3
/-! without an __init__ -/
def t_err0 (C : Str) (K : PySem.W.Frag) : Bool := PySem.W.excIn K (He.ga K C) (baseTail .ve) "ValueError.__new__" && (PySem.W.keepIn K (.ref (He.ga K C)) && (decide (PySem.W.subIn K (.ref (He.ga K C)) (.type "BaseException") = some true) && decide (PySem.W.typeIn K (.ref (He.ga K C)) = some (.type "type"))))
theorem err0_ok {C : Str} {K : PySem.W.Frag} (h : t_err0 C K = true) : Err0 K (He.ga K C) := by
  obtain ⟨c1, h⟩ := He.ba h
  obtain ⟨c2, h⟩ := He.ba h
  obtain ⟨c3, c4⟩ := He.ba h
  exact ⟨c1, c2, of_decide_eq_true c3, of_decide_eq_true c4⟩
/-! caught ones -/
def t_catch (C : Str) (tab : List (Str × Bool)) (K : PySem.W.Frag) : Bool := tab.all fun p => decide (PySem.W.exmOne K (.ref (He.ga K p.1)) (.ref (He.ga K C)) = some p.2)
theorem catch_ok {C : Str} {tab : List (Str × Bool)} {K : PySem.W.Frag} (h : t_catch C tab K = true) : Catch K (.ref (He.ga K C)) tab := fun D b q => of_decide_eq_true (List.all_eq_true.mp h (D, b) (PySem.mem_of_lookup q))
def t_xf (cs : List Str) (f : Str) (K : PySem.W.Frag) : Bool := cs.all fun C => xfB K (He.ga K C) && He.eqO (PySem.W.findIn K (.ref (He.ga K C)) f) (some none)
theorem xf_ok {cs : List Str} {f : Str} {K : PySem.W.Frag} (h : t_xf cs f K = true) : ∀ C ∈ cs, XfC K (He.ga K C) ∧ PySem.W.findIn K (.ref (He.ga K C)) f = some none := fun C m => by
  obtain ⟨c1, c2⟩ := He.ba (List.all_eq_true.mp h C m)
  exact ⟨xfB_ok c1, He.eqO_ok c2⟩
def t_excC (C : Str) (K : PySem.W.Frag) : Bool := He.eqO (PySem.W.findIn K (.ref (He.ga K C)) "__getattribute__") (some (some (.builtin "BaseException.__getattribute__"))) && (He.eqO (PySem.W.findIn K (.ref (He.ga K C)) "__getattr__") (some none) && (decide (PySem.W.subIn K (.ref (He.ga K C)) (.type "BaseException") = some true) &&
  (PySem.W.hasDictIn K (He.ga K C) && (He.eqO (PySem.W.findIn K (.ref (He.ga K C)) "__class__") (some (some (.builtin "object.__class__"))) && (He.eqO (PySem.W.specialIn K (.builtin "object.__class__") "__get__") (some (some (.builtin "getset_descriptor.__get__"))) &&
  (decide (PySem.W.takesIn K (.builtin "object.__class__") = some true) && decide (PySem.W.mroIn K (He.ga K C) (.type "object") = some true)))))))
theorem excC_ok {C : Str} {K : PySem.W.Frag} (h : t_excC C K = true) : ExcC K (He.ga K C) := by
  obtain ⟨c1, h⟩ := He.ba h
  obtain ⟨c2, h⟩ := He.ba h
  obtain ⟨c3, h⟩ := He.ba h
  obtain ⟨c4, h⟩ := He.ba h
  obtain ⟨c5, h⟩ := He.ba h
  obtain ⟨c6, h⟩ := He.ba h
  obtain ⟨c7, c8⟩ := He.ba h
  exact ⟨He.eqO_ok c1, He.eqO_ok c2, of_decide_eq_true c3, c4, He.eqO_ok c5, He.eqO_ok c6, of_decide_eq_true c7, of_decide_eq_true c8⟩
def t_isx (u : PySem.W.Frag → Value) (tab : List (Str × Bool)) (K : PySem.W.Frag) : Bool := tab.all fun p => t_excC p.1 K && decide (PySem.W.kitOne K (.ref (He.ga K p.1)) (u K) = some p.2)
theorem isx_ok {u : PySem.W.Frag → Value} {tab : List (Str × Bool)} {K : PySem.W.Frag} (h : t_isx u tab K = true) : ∀ C b, tab.lookup C = some b → ExcC K (He.ga K C) ∧ PySem.W.kitOne K (.ref (He.ga K C)) (u K) = some b := fun C b q => by
  obtain ⟨c1, c2⟩ := He.ba (List.all_eq_true.mp h (C, b) (PySem.mem_of_lookup q))
  exact ⟨excC_ok c1, of_decide_eq_true c2⟩
end Bv
set_option Elab.async false
set_option linter.all false
set_option maxRecDepth 100000
set_option maxHeartbeats 4000000
/-! By value: len(o), o[i] by own defs. -/
namespace Bv
open PySem PySem.Spec L2
open PyProof.Rows hiding St
/-- a special method of an own class -/
structure OwnSp (K : PySem.W.Frag) (C : Str) (m : Str) (f : Addr) : Prop where
  at_ : PySem.W.findIn K (.ref (He.ga K C)) m = some (some (.ref f))
  fn : PySem.W.isFn K (.ref f) = true
  fi : PySem.W.fnIn K f = true
def t_spec (C m : Str) (K : PySem.W.Frag) : Bool := He.eqO (PySem.W.findIn K (.ref (He.ga K C)) m) (some (some (.ref (He.ma K (He.ga K C) m)))) && (PySem.W.isFn K (.ref (He.ma K (He.ga K C) m)) && PySem.W.fnIn K (He.ma K (He.ga K C) m))
theorem spec_ok {C m : Str} {K : PySem.W.Frag} (h : t_spec C m K = true) : OwnSp K C m (He.ma K (He.ga K C) m) := by
  obtain ⟨c1, h⟩ := He.ba h
  obtain ⟨c2, c3⟩ := He.ba h
  exact ⟨He.eqO_ok c1, c2, c3⟩
variable [HasW]
section
variable {X : Cx} {Wx : WX} {pos p : Pos} {a b e : Expr} {es : List Expr} {ma mb : M} {ms : MG (List Bv.X)} {k j : Nat} {f : Addr} {fd : FuncData} {ps : List Str} {g : List D → PR} {C : Str}
abbrev rLenO (K : PySem.W.Frag) (C : Str) (g : List D → PR) : List V → Hp → VK → Prop := fun xs H Q => ∃ a dx fs, xs = [.ref a] ∧ H a = some (.ins (He.ga K C) dx fs) ∧ spP K 1 g [.ref a] H (fun v H' => ∃ n, v = .int n ∧ (0 ≤ n ∧ n < 2 ^ 63) ∧ Q (.int n) H') EN
theorem c_lenO (gu : X.A.guards = some []) (F : FnG X.prog X.w X.K X.mg X.base k f fd ps (spP X.K 1 g)) (O : OwnSp X.K C "__len__" f) (room : Room (k + 1) X.A) (hb : Binds X.K fd ps []) : CallR X (.builtin "len") (rLenO X.K C g) := fun pins s σ H xs us Q I r h => by
  obtain ⟨a, dx, fs, rfl, ha, q⟩ := h
  cases r with
  | cons r t =>
    cases t
    cases r
    obtain ⟨ox, od, J⟩ := ins_at I ha
    obtain ⟨m, hF⟩ := I.fr
    refine PySem.W.len_K hF I.ok.mod.kin J O.at_ O.fn (wpAny_mono (run_in F (by exact gu) room.in1 hb I I.env0.in1 (.cons (show RelV (V.ref a) (Value.ref a) from rfl) .nil) q) (fun u s' z => ?_) fun _ _ z => z)
    obtain ⟨v, H', I', rv, n, rfl, hn, q'⟩ := z
    obtain ⟨t, rfl⟩ := rv
    exact ⟨hn, .int n, H', I'.tok _, ⟨_, rfl⟩, q'⟩
def g_lenO (C : Str) (g : List D → PR) : List Bv.X → Sto → R Bv.X
  | [.d (.obj D fs)], S => if decide (D = C) then (match g [.obj D fs] with
    | .ok (.int n) => if decide (0 ≤ n ∧ n < 2 ^ 63) then .ok (.d (.int n)) S else .bad
    | _ => .bad) else .bad
  | _, _ => .bad
theorem b_lenO {K : PySem.W.Frag} : BinX K (rLenO K C g) (g_lenO C g) := fun Z ρ S H Wx σ xs vs Q st a h => by
  unfold g_lenO at h
  split at h
  · rename_i D fs
    split at h
    · rename_i hc
      obtain rfl := of_decide_eq_true hc
      obtain ⟨v, rfl, b⟩ := one_d a
      cases b with
      | obj w r hs =>
        refine ⟨_, _, _, rfl, r, rfl, Wn Z ρ, [.obj D fs], fun a h => st.thereW h, .cons (.obj w r hs) .nil, ?_⟩
        cases q : g [.obj D fs] with
        | ok d =>
          rw [q] at h
          cases d with
          | int n =>
            have h : PostG (AX K) K Z ρ H Wx σ Q (if decide (0 ≤ n ∧ n < 2 ^ 63) then .ok (.d (.int n)) S else .bad) := h
            by_cases hn : 0 ≤ n ∧ n < 2 ^ 63
            · rw [if_pos (decide_eq_true hn)] at h
              intro H' v k a
              cases a
              exact ⟨n, rfl, hn, PostG.ret h st k (.d (.int n))⟩
            · rw [if_neg (by simpa using hn)] at h; exact h.elim
          | _ => exact h.elim
        | err _ _ => rw [q] at h; exact h.elim
        | bad => rw [q] at h; exact h.elim
    · exact h.elim
  · exact h.elim
theorem Kept.lenO (c : Kept X.prog X.w X.K X.mg X.base j (He.ma X.K (He.ga X.K C) "__len__") (spP X.K 1 g)) (O : OwnSp X.K C "__len__" (He.ma X.K (He.ga X.K C) "__len__")) (h : Here X Wx k) (hj : j + 1 ≤ k) (hg : Gl X "len") (hm : X.mg "len" = none) (ha : MA X Wx (e :: es) ms)
    (he : starEach (e :: es) X.env = (false, eval e X.env) :: starEach es X.env := by rfl) (hpl : (backTo pos (starEach es X.env)).any (·.1) = false := by rfl) : ME X Wx (.Call (.Name "len" p) (e :: es) [] pos) (m_call (g_lenO C g) ms) := by
  obtain ⟨fd, ps, F, b⟩ := c.ex
  exact me_bin (c_lenO h.gu F O (h.room.mono hj) b) b_lenO hg hm ha (by rfl) (by decide) (by decide) he hpl

/-! ### o[i] -/
/-- a def that may raise, run within what is built in -/
theorem run_inX {pins : List (Addr × Obj)} {σ : St} {H : Hp} {s : Shared} {Q : VK} {us : List Value} {vs : List V} {sp : Sp} {A : Around} {E : XK} (F : FnG X.prog X.w X.K X.mg X.base k f fd ps sp) (gu : A.guards = some []) (room : Room k A) (hb : Binds X.K fd ps []) (hx : ∀ e s', Xq.CQ X.prog X.w X.stack H s E e s' → X.xe e s') (I : Inv X pins σ H s)
    (e0 : Env0 X.prog X.w X.K X.mg X.base A X.stack s H) (r : Vals vs us) (h : sp vs H Q E) : wpAny (model X.prog X.w) A (call (.ref f) us) (EP X pins σ Q) X.xe s := by
  have many : us.length = ps.length := r.length.symm.trans (F.len _ _ _ _ h)
  have bd := hb s us I.kIn (by rw [List.append_nil]; exact many)
  rw [List.append_nil] at bd
  refine wpAny_call (codeAny_mono (F.run A X.stack s H ⟨us, []⟩ us vs Q E gu room e0 bd r h) fun y s' z => ?_)
  cases y with
  | error e => exact hx e s' z
  | ok fl =>
    cases fl with
    | ret u => exact I.after z
    | next => exact z.elim
    | brk => exact z.elim
    | cont => exact z.elim
def m_subO (C : Str) (g : List D → PR) (ma mb : M) : M := fun e S => (ma e S).bind fun x S1 => match x with
  | .d (.obj D fs) => if decide (D = C) then (mb e S1).bind fun y S2 => callP g [.d (.obj D fs), y] S2 else .bad
  | _ => .bad
theorem Kept.subO (c : Kept X.prog X.w X.K X.mg X.base j (He.ma X.K (He.ga X.K C) "__getitem__") (spP X.K 2 g)) (O : OwnSp X.K C "__getitem__" (He.ma X.K (He.ga X.K C) "__getitem__")) (h : Here X Wx k) (hj : j + 1 ≤ k) (ha : ME X Wx a ma) (hb : ME X Wx b mb)
    (hsl : ∀ u w : Value, subscripted b true u w = runValue (.builtin "lifetime.subscript" ⟨[u, w], []⟩) := by intro _ _; with_unfolding_all rfl) : ME X Wx (.Subscript a b pos) (m_subO C g ma mb) := ⟨fun pins s σ H Q I ⟨Z, ρ, e, S, st, ev, q⟩ => by
  obtain ⟨fd, ps, F, bd⟩ := c.ex
  refine Subscript_ (thn (ha.run pins s σ H _ I (tt_bind (R' := fun v H1 => ∃ (ad dx : Addr) (fl : List (Str × V)) (fs : List (Str × D)) (ρ1 : List Addr) (S1 : Sto), v = .ref ad ∧ H1 ad = some (.ins (He.ga X.K C) dx fl) ∧ ¬ Wn Z ρ1 ad ∧ AVf X.K (Wn Z ρ1) H1 fs fl ∧ Sta X.K Z ρ1 S1 H1 ∧ EvOk X.K (Wn Z ρ1) ρ1 H1 e σ ∧ PostG (AX X.K) X.K Z ρ1 H1 Wx σ Q ((mb e S1).bind fun y S2 => callP g [.d (.obj C fs), y] S2)) st ev q
    fun ρ1 H1 v y S1 s1 g1 ev1 a1 p1 => by
      cases a1 with
      | r _ => exact p1.elim
      | d a =>
        cases a with
        | obj w r hs =>
          rename_i D ad dx fl fs
          have p2 : PostG (AX X.K) X.K Z ρ1 H1 Wx σ Q (if decide (D = C) then (mb e S1).bind fun y S2 => callP g [.d (.obj D fs), y] S2 else .bad) := p1
          clear p1
          by_cases hd : D = C
          · rw [if_pos (decide_eq_true hd)] at p2
            subst hd
            exact ⟨ad, dx, fl, fs, ρ1, S1, rfl, r, w, hs, s1, ev1, p2⟩
          · rw [if_neg (by simpa using hd)] at p2; exact p2.elim
        | _ => exact p1.elim)) fun u s1 ⟨x, H1, I1, rx, ad, dx, fl, fs, ρ1, S1, ex, hi, nw, hs, st1, ev1, p1⟩ => ?_)
  subst ex
  obtain rfl : u = Value.ref ad := rx
  refine thn (hb.run pins s1 σ H1 _ I1 (tt_bind (R' := fun v H2 => ∃ (ρ2 : List Addr) (y : Bv.X) (S2 : Sto), Sta X.K Z ρ2 S2 H2 ∧ AX X.K (Wn Z ρ2) ρ2 H2 (.d (.obj C fs)) (.ref ad) ∧ H2 ad = some (.ins (He.ga X.K C) dx fl) ∧ AX X.K (Wn Z ρ2) ρ2 H2 y v ∧ PostG (AX X.K) X.K Z ρ2 H2 Wx σ Q (callP g [.d (.obj C fs), y] S2)) st1 ev1 p1
    fun ρ2 H2 v y S2 s2 g2 ev2 a2 p2 => ⟨ρ2, y, S2, s2, (AX.d (.obj nw hi hs)).mv (g2.mv st1) g2.pre, (g2.mv st1 ad _ nw hi).2, a2, p2⟩)) fun w s2 ⟨v, H2, I2, rv, ρ2, y, S2, st2, ao, hi2, a2, p2⟩ => ?_
  obtain ⟨ox, od, J⟩ := ins_at I2 hi2
  obtain ⟨m, hF⟩ := I2.fr
  have aa : AXs X.K (Wn Z ρ2) ρ2 H2 [.d (.obj C fs), y] [V.ref ad, v] := .cons ao (.cons a2 .nil)
  exact PySem.W.sub_K hF I2.ok.mod.kin J O.at_ O.fi O.fn (run_inX F (by exact h.gu) (h.room.mono hj).in1 bd (fun e s' z => Xq.passAt h.tk σ pins H2 s2 e s' I2 z) I2 I2.env0.in1 (.cons (show RelV (V.ref ad) (Value.ref ad) from rfl) (.cons rv .nil)) (spP_of st2 aa rfl p2)) (hsl _ _)⟩
end
end Bv
set_option Elab.async false
set_option linter.all false
set_option maxRecDepth 100000
set_option maxHeartbeats 4000000
/-! By value: x != "text" where x is any value, or an own thing. -/
namespace Bv
open PySem PySem.Spec L2
open PyProof.Rows hiding St
variable [HasW]
theorem OpR.or {X : Cx} {f : Value → Value → Sem Value} {r1 r2 : R2} (h1 : OpR X f r1) (h2 : OpR X f r2) : OpR X f (fun x y H Q => r1 x y H Q ∨ r2 x y H Q) := fun pins s σ H x y v u Q I rx ry h => h.elim (h1 pins s σ H x y v u Q I rx ry) (h2 pins s σ H x y v u Q I rx ry)
section
variable {X : Cx} {Wx : WX} {k j : Nat} {f : Addr} {fd : FuncData} {ps : List Str} {g : List D → PR} {C : Str}
abbrev rNeS (K : PySem.W.Frag) (C : Str) (g : List D → PR) : R2 := fun x y H Q => ∃ a dx fs z, x = .ref a ∧ y = .str z ∧ H a = some (.ins (He.ga K C) dx fs) ∧ spP K 2 g [x, y] H (fun v H' => ∃ r, v = .bl r ∧ Q (.bl (!r)) H') EN
open Builtin in
theorem op_neS (gu : X.A.guards = some []) (F : FnG X.prog X.w X.K X.mg X.base k f fd ps (spP X.K 2 g)) (O : OwnEq X.K C f) (room : Room (k + 1) X.A) (hb : Binds X.K fd ps []) : OpR X (compareOp .NotEq) (rNeS X.K C g) := fun pins s σ H x y v u Q I rx ry h => by
  obtain ⟨a, dx, fs, z, rfl, rfl, ha, q⟩ := h
  cases rx
  obtain ⟨t, rfl⟩ := id ry
  obtain ⟨ox, od, J⟩ := ins_at I ha
  have hu := room.un
  show wpAny (model X.prog X.w) X.A (richCompare .NotEq (.ref a) (.str z t)) (EP X pins σ Q) X.xe s
  have core : wpAny (model X.prog X.w) X.A (call (.builtin "object.__ne__") [.ref a, .str z t]) (fun v s' => ∃ r : Bool, v = .bool r ∧ EP X pins σ Q (.bool r) s') X.xe s := by
    refine wpAny_call (codeAny_call_builtin (by decide +kernel) PySem.F.cmpEntry_ne (PySem.W.check_slot (i := "object.__ne__") (owner := "object") (n := "__ne__") (by decide +kernel) (by decide +kernel) (J.type.andThen (PySem.W.looks_mroIn I.kIn O.mo)) (PySem.F.cmpArgs_ne _ _) ?_))
    unfold Builtin.«object.__ne__»
    refine wpAny_bind (m := slotArgs "__ne__" 1 _) (wpAny_pure ?_)
    refine wpAny_bind (m := cRoomFor _ _) (wpAny_cRoomFor (by show X.A.units + 1 < _; omega) ?_)
    refine wpAny_bind (m := callSpecialIfBound? (.ref a) (Str.ofString "__eq__") _) (PySem.W.ifBound_K I.kIn J O.at_ O.fn (wpAny_mono (run_in F (by exact gu) room.in1 hb I I.env0.in1 (.cons (show RelV (V.ref a) (Value.ref a) from rfl) (.cons ry .nil)) q) (fun w s' z => ?_) fun _ _ z => z))
    obtain ⟨v, H', I', rv, r, rfl, q'⟩ := z
    cases rv
    refine wpAny_bind (m := truthy (.bool r)) (wpAny_truthy_bool (wpAny_pure ?_))
    exact ⟨!r, rfl, .bl (!r), H', I', rfl, by simpa using q'⟩
  have one : wpAny (model X.prog X.w) X.A (tryCompare (.ref a) "__ne__" (.str z t)) (fun r s' => ∃ v, r = some v ∧ EP X pins σ Q v s') X.xe s := by
    unfold tryCompare
    refine wpAny_bind (NtL.csib (J.type.andThen (PySem.W.looks_findIn I.kIn O.ne)) (by rfl) (wpAny_mono core (fun v s' z => ?_) fun _ _ z => z))
    obtain ⟨r, rfl, q'⟩ := z
    exact wpAny_pure ⟨_, rfl, q'⟩
  unfold richCompare
  simp only [oneThing_ref]
  refine wpAny_holding (wpAny_bind (wpAny_cRoomFor (by omega) ?_))
  refine wpAny_bind (J.type.here (wpAny_bind (wpAny_typeOf (typeIs_str _ _ _) ?_)))
  rw [if_pos (by simp)]
  refine wpAny_bind ((PySem.W.looks_subIn (K := X.K) I.kIn (t := .type "str") (base := .ref (He.ga X.K C)) (r := false) (by rfl)).here ?_)
  simp only [Bool.false_eq_true, if_false]
  refine wpAny_bind (wpAny_mono one (fun r s' z => ?_) fun _ _ e => e)
  obtain ⟨v, rfl, hq⟩ := z
  exact wpAny_pure hq
/-- x != y: an own thing against a text, or data -/
def neM (C : Str) (g : List D → PR) (a b : D) : Option D := match a, b with
  | .obj C1 f1, .str z => if decide (C1 = C) then (match g [.obj C1 f1, .str z] with
    | .ok (.bl r) => some (.bl (!r))
    | _ => none) else none
  | a, b => neD a b
theorem o_neS {K : PySem.W.Frag} : Op2 K (fun x y H Q => rNeS K C g x y H Q ∨ rNeD K x y H Q) (neM C g) := fun W H d1 d2 v1 v2 d Q hw a1 a2 e k => by
  unfold neM at e
  split at e
  · rename_i C1 f1 z
    obtain ⟨h1, h2⟩ := ite_some e
    obtain rfl := of_decide_eq_true h1
    obtain ⟨a, dx, vs, rfl, w, r, hs⟩ := a1.ob
    refine .inl ?_
    cases a2 with
    | av a2 =>
      cases a2 with
      | str hz =>
        refine ⟨a, dx, vs, z, rfl, rfl, r, rfl, W, _, hw, .cons (.obj w r hs) (.cons (.str hz) .nil), ?_⟩
        cases q : g [.obj C1 f1, .str z] with
        | ok d' =>
          rw [q] at h2
          cases d' with
          | bl r =>
            cases h2
            intro H' v ex a
            cases a with
            | bl _ => exact ⟨r, rfl, k H' _ ex (.bl _)⟩
          | _ => cases h2
        | err _ _ => rw [q] at h2; cases h2
        | bad => rw [q] at h2; cases h2
  · exact .inr (o_ne W H d1 d2 v1 v2 d Q hw a1 a2 e k)
theorem Here.neM (h : Here X Wx k) (c : Kept X.prog X.w X.K X.mg X.base j (He.ma X.K (He.ga X.K C) "__eq__") (spP X.K 2 g)) (O : OwnEq X.K C (He.ma X.K (He.ga X.K C) "__eq__")) (hj : j + 1 ≤ k := by decide) : Opr X (compareOp .NotEq) (Bv.neM C g) := by
  obtain ⟨fd, ps, F, b⟩ := c.ex
  exact ⟨_, OpR.or (op_neS h.gu F O (h.room.mono hj) b) (op_neD h.u64), o_neS⟩
end
/-! ### x is True, x is False, for any x -/
section
variable {X : Cx}
abbrev rIsA (neg : Bool) : R2 := fun x y H Q => ∃ b : Bool, y = .bl b ∧ Q (.bl (decide (x = .bl b) ^^ neg)) H
theorem plain_bl {x : V} {v : Value} {b : Bool} (r : RelV x v) : plainIs v (.bool b) = true ∧ (x ≠ .bl b → v ≠ .bool b) := by
  cases x with
  | non => cases (show v = Value.none from r); exact ⟨rfl, fun _ z => nomatch z⟩
  | bl a => cases (show v = Value.bool a from r); exact ⟨rfl, fun e z => e (congrArg V.bl (Value.bool.inj z))⟩
  | int i => obtain ⟨t, rfl⟩ := r; exact ⟨rfl, fun _ z => nomatch z⟩
  | str i => obtain ⟨t, rfl⟩ := r; exact ⟨rfl, fun _ z => nomatch z⟩
  | byt i => obtain ⟨t, rfl⟩ := r; exact ⟨rfl, fun _ z => nomatch z⟩
  | flt i => obtain ⟨t, rfl⟩ := r; exact ⟨rfl, fun _ z => nomatch z⟩
  | ref a => cases (show v = Value.ref a from r); exact ⟨rfl, fun _ z => nomatch z⟩
  | ty a => cases (show v = Value.type a from r); exact ⟨rfl, fun _ z => nomatch z⟩
theorem op_isA : OpR X (compareOp .Is) (rIsA false) := by
  intro pins s σ H x y v u Q I rx ry h
  obtain ⟨b, rfl, q⟩ := h
  cases (show u = Value.bool b from ry)
  obtain ⟨p, n⟩ := plain_bl (b := b) rx
  by_cases e : x = .bl b
  · subst e
    cases (show v = Value.bool b from rx)
    exact wpAny_is_self p ⟨.bl true, H, I, rfl, by simpa using q⟩
  · exact wpAny_is_other p (n e) ⟨.bl false, H, I, rfl, by simpa [e] using q⟩
theorem op_isnA : OpR X (compareOp .IsNot) (rIsA true) := by
  intro pins s σ H x y v u Q I rx ry h
  obtain ⟨b, rfl, q⟩ := h
  cases (show u = Value.bool b from ry)
  obtain ⟨p, n⟩ := plain_bl (b := b) rx
  by_cases e : x = .bl b
  · subst e
    cases (show v = Value.bool b from rx)
    exact wpAny_isNot_self p ⟨.bl false, H, I, rfl, by simpa using q⟩
  · exact wpAny_isNot_other p (n e) ⟨.bl true, H, I, rfl, by simpa [e] using q⟩
end
def blIs (a : D) (y : Bool) : Bool := match a with
  | .bl x => decide (x = y)
  | _ => false
def isA (neg : Bool) (a b : D) : Option D := match b with
  | .bl y => some (.bl (blIs a y ^^ neg))
  | _ => none
theorem AW.isBl {K : PySem.W.Frag} {W : Wd} {H : Hp} {d : D} {v : V} {y : Bool} (h : AW K W H d v) : decide (v = .bl y) = blIs d y := by
  cases h with
  | av h => cases h <;> simp [blIs]
  | lst h hs => simp [blIs]
  | fdc h hs => simp [blIs]
theorem o_isA {K : PySem.W.Frag} {neg : Bool} : Op2 K (rIsA neg) (isA neg) := fun W H d1 d2 v1 v2 d Q hw a1 a2 e k => by
  cases d2 with
  | bl y =>
    have := a2.bl_inv
    subst this
    refine ⟨y, rfl, ?_⟩
    rw [a1.isBl]
    cases e
    exact k H _ (Same.refl H) (.bl _)
  | _ => cases e
section
variable {X : Cx} {Wx : WX} {k : Nat}
theorem Here.isA (h : Here X Wx k) : Opr X (compareOp .Is) (Bv.isA false) := ⟨_, op_isA, o_isA⟩
theorem Here.isnA (h : Here X Wx k) : Opr X (compareOp .IsNot) (Bv.isA true) := ⟨_, op_isnA, o_isA⟩
end
end Bv
set_option Elab.async false
set_option linter.all false
set_option maxRecDepth 100000
set_option maxHeartbeats 4000000
/-! By value: lists of own things, != one by one; is a list of anything empty (== [], != []). -/
namespace PySem
open Sem (wp)
open AutoSeq1 (wpAny_loadPart')
open MeetsSeq MeetsSeq2 MeetsSeq3 SeqRoads2
namespace BvLs
section
variable {prog : Program} {w : World} {A : Around} {R : Result → Shared → Prop}
/-- != of two lists, read anew at each turn, equal one by one -/
theorem ne_turns (p q : Addr) (N : Nat) (J : Nat → Shared → Prop) (hl : GQ.ListI prog w A (fun e s' => R (.error e) s') p q N J) (last : ∀ s, J N s → R (.ok (.ret (.bool false))) s) (k : Nat) :
    ∀ i : Nat, N - i = k → i ≤ N → ∀ s, J i s → wpAny (model prog w) A.in1 (Builtin.«list.__eq__.loop» ⟨[.ref p, .ref q, rawInt i, rawInt 3], []⟩) (GQ.FinOf prog w A R) (fun e s' => R (.error e) s') s := by
  induction k with
  | zero =>
    intro i hk hi s ji
    obtain ⟨us, vs, n, m, gp, gq, su, sv, _⟩ := hl _ _ ji
    have e : i = N := by omega
    have fine : R (.ok (.ret (.bool false))) s := last s (e ▸ ji)
    obtain ⟨hp, g, d, tk, os⟩ := s
    wp_walk using wpAny_loadPart' gp, wpAny_loadPart' gq
    have z1 : us[((i : Nat) : Int).toNat]? = none := by simp; omega
    have z2 : vs[((i : Nat) : Int).toNat]? = none := by simp; omega
    rw [z1, z2]
    wp_walk using wpAny_loadPart' gp, wpAny_loadPart' gq
    show R (.ok (.ret (.bool (us.size != vs.size)))) _
    rw [su, sv]
    simpa using fine
  | succ k ih =>
    intro i hk hi s ji
    obtain ⟨us, vs, n, m, gp, gq, su, sv, turn⟩ := hl _ _ ji
    have l1 : i < us.size := by omega
    have l2 : i < vs.size := by omega
    have one := turn l1 l2
    obtain ⟨hp, g, d, tk, os⟩ := s
    wp_walk using wpAny_loadPart' gp, wpAny_loadPart' gq
    have z1 : us[((i : Nat) : Int).toNat]? = some us[i] := by simp [l1]
    have z2 : vs[((i : Nat) : Int).toNat]? = some vs[i] := by simp [l2]
    have nx : ((i : Int) + 1) = ((i + 1 : Nat) : Int) := by omega
    rw [z1, z2]
    refine wpAny_bind (wpAny_mono one (fun r s2 h2 => ?_) fun _ _ x => x)
    obtain ⟨hr, h2⟩ := h2
    subst hr
    have rest := ih (i + 1) (by omega) (by omega) s2 h2
    obtain ⟨hp2, g2, d2, tk2, os2⟩ := s2
    wp_walk
    rw [nx]
    exact ⟨plainId_quiet plain_eq_loop _, codeAny_builtin entry_eq_loop (by
      rw [Around.under_plainId plain_eq_loop _]
      exact rest)⟩
theorem ne_all (p q : Addr) (N : Nat) (J : Nat → Shared → Prop) (hl : GQ.ListI prog w A (fun e s' => R (.error e) s') p q N J) (last : ∀ s, J N s → R (.ok (.ret (.bool false))) s) {s : Shared} (start : J 0 s) :
    wpAny (model prog w) A.in1 (Builtin.«list.__ne__» ⟨[.ref p, .ref q], []⟩) (GQ.FinOf prog w A R) (fun e s' => R (.error e) s') s := by
  obtain ⟨us, vs, n, m, gp, gq, su, sv, _⟩ := hl _ _ start
  have rest := ne_turns (A := A) (R := R) p q N J hl last _ 0 rfl (Nat.zero_le _) s start
  obtain ⟨hp, g, d, tk, os⟩ := s
  have below := AutoSeq1.sub_list_list
  have many : ¬ (us.size != vs.size) = true := by simp [su, sv]
  wp_walk using wpAny_loadPart' gp, wpAny_loadPart' gq
  exact ⟨plainId_quiet plain_eq_loop _, codeAny_builtin entry_eq_loop (by
    rw [Around.under_plainId plain_eq_loop _]
    exact rest)⟩
/-- of unlike lengths -/
theorem ne_sizes (p q : Addr) (us vs : Array Value) (n m : Nat) (many : (us.size != vs.size) = true) {s : Shared} (gp : s.heap.get? p = some { cls := .type "list", data := .seq us n }) (gq : s.heap.get? q = some { cls := .type "list", data := .seq vs m }) (last : R (.ok (.ret (.bool true))) s) :
    wpAny (model prog w) A.in1 (Builtin.«list.__ne__» ⟨[.ref p, .ref q], []⟩) (GQ.FinOf prog w A R) (fun e s' => R (.error e) s') s := by
  obtain ⟨hp, g, d, tk, os⟩ := s
  have below := AutoSeq1.sub_list_list
  wp_walk using wpAny_loadPart' gp, wpAny_loadPart' gq
  exact last
theorem eq_sizes (p q : Addr) (us vs : Array Value) (n m : Nat) (many : (us.size != vs.size) = true) {s : Shared} (gp : s.heap.get? p = some { cls := .type "list", data := .seq us n }) (gq : s.heap.get? q = some { cls := .type "list", data := .seq vs m }) (last : R (.ok (.ret (.bool false))) s) :
    wpAny (model prog w) A.in1 (Builtin.«list.__eq__» ⟨[.ref p, .ref q], []⟩) (GQ.FinOf prog w A R) (fun e s' => R (.error e) s') s := by
  obtain ⟨hp, g, d, tk, os⟩ := s
  have below := AutoSeq1.sub_list_list
  wp_walk using wpAny_loadPart' gp, wpAny_loadPart' gq
  exact last
variable {E : Value → Shared → Prop} {s : Shared}
theorem rc_ne {p q : Addr} {N : Nat} {Q : Value → Shared → Prop} (room : A.units < cLine) (J : Nat → Shared → Prop) (hl : GQ.ListI prog w A E p q N J) (last : ∀ s, J N s → Q (.bool false) s) (start : J 0 s) : wpAny (model prog w) A (richCompare .NotEq (.ref p) (.ref q)) Q E s := by
  obtain ⟨us, vs, n, m, gp, gq, _, _, _⟩ := hl _ _ start
  refine wpAny_richCompare_same_room (op := .NotEq) ⟨_, gp, rfl⟩ ⟨_, gq, rfl⟩ F.slot_list_ne (GQ.call_here F.slot_list_ne ⟨_, gp, rfl⟩ F.entry_list_ne (F.args_list_ne_2 _ _) ?_) room
  exact ne_all (R := wants (fun v s' => v ≠ .notImplemented ∧ Q v s') E) p q N J hl (fun s' z => ⟨(fun x => nomatch x), last s' z⟩) start
theorem rc_ne_sizes {p q : Addr} {us vs : Array Value} {n m : Nat} {Q : Value → Shared → Prop} (room : A.units < cLine) (many : (us.size != vs.size) = true) (gp : s.heap.get? p = some { cls := .type "list", data := .seq us n }) (gq : s.heap.get? q = some { cls := .type "list", data := .seq vs m }) (last : Q (.bool true) s) : wpAny (model prog w) A (richCompare .NotEq (.ref p) (.ref q)) Q E s := by
  refine wpAny_richCompare_same_room (op := .NotEq) ⟨_, gp, rfl⟩ ⟨_, gq, rfl⟩ F.slot_list_ne (GQ.call_here F.slot_list_ne ⟨_, gp, rfl⟩ F.entry_list_ne (F.args_list_ne_2 _ _) ?_) room
  exact ne_sizes (R := wants (fun v s' => v ≠ .notImplemented ∧ Q v s') E) p q us vs n m many gp gq ⟨(fun x => nomatch x), last⟩
theorem rc_eq_sizes {p q : Addr} {us vs : Array Value} {n m : Nat} {Q : Value → Shared → Prop} (room : A.units < cLine) (many : (us.size != vs.size) = true) (gp : s.heap.get? p = some { cls := .type "list", data := .seq us n }) (gq : s.heap.get? q = some { cls := .type "list", data := .seq vs m }) (last : Q (.bool false) s) : wpAny (model prog w) A (richCompare .Eq (.ref p) (.ref q)) Q E s := by
  refine wpAny_richCompare_same_room (op := .Eq) ⟨_, gp, rfl⟩ ⟨_, gq, rfl⟩ F.slot_list_eq (GQ.call_here F.slot_list_eq ⟨_, gp, rfl⟩ F.entry_list_eq (F.args_list_eq_2 _ _) ?_) room
  exact eq_sizes (R := wants (fun v s' => v ≠ .notImplemented ∧ Q v s') E) p q us vs n m many gp gq ⟨(fun x => nomatch x), last⟩
end
end BvLs
end PySem
namespace Bv
open PySem PySem.Spec L2
open PyProof.Rows hiding St
variable [HasW]
abbrev rLsO (K : PySem.W.Frag) (C : Str) (g : List D → PR) (neg : Bool) : R2 := fun x y H Q => ∃ (W : Wd) (ds es : List D) (a b : Addr) (xs ys : List V), x = .ref a ∧ y = .ref b ∧ H a = some (.lst xs) ∧ H b = some (.lst ys) ∧ (∀ a, W a → ∃ o, H a = some o) ∧ AVs K W H ds xs ∧ AVs K W H es ys ∧ pairsEq C g ds es = true ∧ ∀ H', Same H H' → Q (.bl (!neg)) H'
section
variable {X : Cx} {k : Nat} {f : Addr} {fd : FuncData} {ps : List Str} {g : List D → PR} {C : Str}
theorem ls_I (gu : X.A.guards = some []) (F : FnG X.prog X.w X.K X.mg X.base k f fd ps (spP X.K 2 g)) (O : OwnEq X.K C f) (room : Room (k + 2) X.A) (hb : Binds X.K fd ps []) {pins : List (Addr × Obj)} {σ : St} {H : Hp} {E : Value → Shared → Prop}
    {W : Wd} {ds es : List D} {a b : Addr} {xs ys : List V} (h1 : H a = some (.lst xs)) (h2 : H b = some (.lst ys)) (hw : ∀ a, W a → ∃ o, H a = some o) (as : AVs X.K W H ds xs) (bs : AVs X.K W H es ys) (hp : pairsEq C g ds es = true) :
    GQ.ListI X.prog X.w X.A E a b xs.length (fun _ s' => ∃ H', Inv X pins σ H' s' ∧ Same H H') := fun i s' j => by
  obtain ⟨H', I', k'⟩ := id j
  obtain ⟨z, us, n, r1, e1⟩ := I'.hok a _ (k' _ _ h1)
  obtain ⟨z2, vs, m, r2, e2⟩ := I'.hok b _ (k' _ _ h2)
  refine ⟨us.toArray, vs.toArray, n, m, e1, e2, by rw [List.size_toArray, ← r1.length], by rw [List.size_toArray, ← r2.length, ← bs.length, ← as.length]; exact (pairsEq_at hp).1.symm, fun l1 l2 => ?_⟩
  exact tu_turn gu F O room hb hw as bs hp r1 r2 i l1 l2 s' j
theorem op_lsO (gu : X.A.guards = some []) (F : FnG X.prog X.w X.K X.mg X.base k f fd ps (spP X.K 2 g)) (O : OwnEq X.K C f) (room : Room (k + 2) X.A) (hb : Binds X.K fd ps []) : OpR X (compareOp .Eq) (rLsO X.K C g false) := fun pins s σ H x y v u Q I rx ry h => by
  obtain ⟨W, ds, es, a, b, xs, ys, rfl, rfl, t1, t2, hw, as, bs, hp, q⟩ := h
  cases rx
  cases ry
  show wpAny (model X.prog X.w) X.A (richCompare .Eq (.ref a) (.ref b)) (EP X pins σ Q) X.xe s
  exact GQ.rc_listG room.units0 _ (ls_I gu F O room hb t1 t2 hw as bs hp) (fun s' ⟨H', I', k'⟩ => ⟨.bl true, H', I', rfl, q H' k'⟩) ⟨H, I, Same.refl H⟩
theorem op_lsnO (gu : X.A.guards = some []) (F : FnG X.prog X.w X.K X.mg X.base k f fd ps (spP X.K 2 g)) (O : OwnEq X.K C f) (room : Room (k + 2) X.A) (hb : Binds X.K fd ps []) : OpR X (compareOp .NotEq) (rLsO X.K C g true) := fun pins s σ H x y v u Q I rx ry h => by
  obtain ⟨W, ds, es, a, b, xs, ys, rfl, rfl, t1, t2, hw, as, bs, hp, q⟩ := h
  cases rx
  cases ry
  show wpAny (model X.prog X.w) X.A (richCompare .NotEq (.ref a) (.ref b)) (EP X pins σ Q) X.xe s
  exact BvLs.rc_ne room.units0 _ (ls_I gu F O room hb t1 t2 hw as bs hp) (fun s' ⟨H', I', k'⟩ => ⟨.bl false, H', I', rfl, q H' k'⟩) ⟨H, I, Same.refl H⟩
/-! == [], != [] -/
abbrev rEmO (neg : Bool) : R2 := fun x y H Q => ∃ (a b : Addr) (xs : List V), x = .ref a ∧ y = .ref b ∧ H a = some (.lst xs) ∧ H b = some (.lst []) ∧ ∀ H', Same H H' → Q (.bl (xs.isEmpty ^^ neg)) H'
theorem em_I {pins : List (Addr × Obj)} {σ : St} {H : Hp} {E : Value → Shared → Prop} {a b : Addr} (h1 : H a = some (.lst [])) (h2 : H b = some (.lst [])) : GQ.ListI X.prog X.w X.A E a b 0 (fun _ s' => ∃ H', Inv X pins σ H' s' ∧ Same H H') := fun i s' j => by
  obtain ⟨H', I', k'⟩ := id j
  obtain ⟨z, us, n, r1, e1⟩ := I'.hok a _ (k' _ _ h1)
  obtain ⟨z2, vs, m, r2, e2⟩ := I'.hok b _ (k' _ _ h2)
  refine ⟨us.toArray, vs.toArray, n, m, e1, e2, by rw [List.size_toArray, ← r1.length]; rfl, by rw [List.size_toArray, ← r2.length]; rfl, fun l1 l2 => ?_⟩
  rw [List.size_toArray, ← r1.length] at l1
  exact absurd l1 (Nat.not_lt_zero _)
theorem op_emO (room : Room 0 X.A) : OpR X (compareOp .Eq) (rEmO false) := fun pins s σ H x y v u Q I rx ry h => by
  obtain ⟨a, b, xs, rfl, rfl, t1, t2, q⟩ := h
  cases rx
  cases ry
  show wpAny (model X.prog X.w) X.A (richCompare .Eq (.ref a) (.ref b)) (EP X pins σ Q) X.xe s
  cases xs with
  | nil => exact GQ.rc_listG room.units0 _ (em_I t1 t2) (fun s' ⟨H', I', k'⟩ => ⟨.bl true, H', I', rfl, q H' k'⟩) ⟨H, I, Same.refl H⟩
  | cons c r =>
    obtain ⟨z, us, n, r1, e1⟩ := I.hok a _ t1
    obtain ⟨z2, vs, m, r2, e2⟩ := I.hok b _ t2
    exact BvLs.rc_eq_sizes room.units0 (by rw [List.size_toArray, List.size_toArray, ← r1.length, ← r2.length]; simp) e1 e2 ⟨.bl false, H, I, rfl, q H (Same.refl H)⟩
theorem op_emnO (room : Room 0 X.A) : OpR X (compareOp .NotEq) (rEmO true) := fun pins s σ H x y v u Q I rx ry h => by
  obtain ⟨a, b, xs, rfl, rfl, t1, t2, q⟩ := h
  cases rx
  cases ry
  show wpAny (model X.prog X.w) X.A (richCompare .NotEq (.ref a) (.ref b)) (EP X pins σ Q) X.xe s
  cases xs with
  | nil => exact BvLs.rc_ne room.units0 _ (em_I t1 t2) (fun s' ⟨H', I', k'⟩ => ⟨.bl false, H', I', rfl, q H' k'⟩) ⟨H, I, Same.refl H⟩
  | cons c r =>
    obtain ⟨z, us, n, r1, e1⟩ := I.hok a _ t1
    obtain ⟨z2, vs, m, r2, e2⟩ := I.hok b _ t2
    exact BvLs.rc_ne_sizes room.units0 (by rw [List.size_toArray, List.size_toArray, ← r1.length, ← r2.length]; simp) e1 e2 ⟨.bl true, H, I, rfl, q H (Same.refl H)⟩
end
def lsO (C : Str) (g : List D → PR) (neg : Bool) (a b : D) : Option D := match a, b with
  | .lst ds, .lst es => if pairsEq C g ds es then some (.bl (!neg)) else none
  | _, _ => none
theorem o_lsO {K : PySem.W.Frag} {C : Str} {g : List D → PR} {neg : Bool} : Op2 K (rLsO K C g neg) (lsO C g neg) := fun W H d1 d2 v1 v2 d Q hw a1 a2 e k => by
  unfold lsO at e
  split at e
  · rename_i ds es
    obtain ⟨h1, h2⟩ := ite_some e
    cases h2
    obtain ⟨a, xs, rfl, t1, as⟩ := a1.sq
    obtain ⟨b, ys, rfl, t2, bs⟩ := a2.sq
    exact ⟨W, ds, es, a, b, xs, ys, rfl, rfl, t1, t2, hw, as, bs, h1, fun H' s => k H' _ s (.bl _)⟩
  · cases e
/-- is a list of anything empty: against [] -/
def emO (neg : Bool) (a b : D) : Option D := match a, b with
  | .lst ds, .lst [] => some (.bl (ds.isEmpty ^^ neg))
  | _, _ => none
theorem o_emO {K : PySem.W.Frag} {neg : Bool} : Op2 K (rEmO neg) (emO neg) := fun W H d1 d2 v1 v2 d Q hw a1 a2 e k => by
  unfold emO at e
  split at e
  · rename_i ds
    cases e
    obtain ⟨a, xs, rfl, t1, as⟩ := a1.sq
    obtain ⟨b, ys, rfl, t2, bs⟩ := a2.sq
    cases bs
    have z : xs.isEmpty = ds.isEmpty := by
      have := as.length
      cases ds <;> cases xs <;> simp at this ⊢
    refine ⟨a, b, xs, rfl, rfl, t1, t2, fun H' s => ?_⟩
    rw [z]
    exact k H' _ s (.bl _)
  · cases e
section
variable {X : Cx} {Wx : WX} {k j : Nat} {C : Str} {g : List D → PR}
theorem Here.lsO (h : Here X Wx k) (c : Kept X.prog X.w X.K X.mg X.base j (He.ma X.K (He.ga X.K C) "__eq__") (spP X.K 2 g)) (O : OwnEq X.K C (He.ma X.K (He.ga X.K C) "__eq__")) (hj : j + 2 ≤ k := by decide) : Opr X (compareOp .Eq) (Bv.lsO C g false) := by
  obtain ⟨fd, ps, F, b⟩ := c.ex
  exact ⟨_, op_lsO h.gu F O (h.room.mono hj) b, o_lsO⟩
theorem Here.lsnO (h : Here X Wx k) (c : Kept X.prog X.w X.K X.mg X.base j (He.ma X.K (He.ga X.K C) "__eq__") (spP X.K 2 g)) (O : OwnEq X.K C (He.ma X.K (He.ga X.K C) "__eq__")) (hj : j + 2 ≤ k := by decide) : Opr X (compareOp .NotEq) (Bv.lsO C g true) := by
  obtain ⟨fd, ps, F, b⟩ := c.ex
  exact ⟨_, op_lsnO h.gu F O (h.room.mono hj) b, o_lsO⟩
theorem Here.emO (h : Here X Wx k) : Opr X (compareOp .Eq) (Bv.emO false) := ⟨_, op_emO (h.room.mono (Nat.zero_le _)), o_emO⟩
theorem Here.emnO (h : Here X Wx k) : Opr X (compareOp .NotEq) (Bv.emO true) := ⟨_, op_emnO (h.room.mono (Nat.zero_le _)), o_emO⟩
end
end Bv
set_option Elab.async false
set_option linter.all false
set_option maxRecDepth 100000
set_option maxHeartbeats 4000000
/-! By value: try: body, except C as n: raise D(..) from n. -/
namespace Bv
open PySem PySem.Spec L2
open PyProof.Rows hiding St
/-- what is asked of the classes that are caught -/
def t_rs (tab : List (Str × Bool)) (K : PySem.W.Frag) : Bool := tab.all fun q => decide (PySem.W.subIn K (.ref (He.ga K q.1)) (.type "BaseException") = some true) && decide (PySem.W.typeIn K (.ref (He.ga K q.1)) = some (.type "type"))
def RsOk (K : PySem.W.Frag) (tab : List (Str × Bool)) : Prop := ∀ C, tab.lookup C = some true → PySem.W.subIn K (.ref (He.ga K C)) (.type "BaseException") = some true ∧ PySem.W.typeIn K (.ref (He.ga K C)) = some (.type "type")
theorem rs_ok {tab : List (Str × Bool)} {K : PySem.W.Frag} (h : t_rs tab K = true) : RsOk K tab := fun C q => by
  obtain ⟨c1, c2⟩ := He.ba (List.all_eq_true.mp h (C, true) (PySem.mem_of_lookup q))
  exact ⟨of_decide_eq_true c1, of_decide_eq_true c2⟩
theorem RsOk.at {X : Cx} {tab : List (Str × Bool)} (h : RsOk X.K tab) : ∀ C, tab.lookup C = some true → Raises X (.ref (He.ga X.K C)) := fun C q => raises_own (h C q).1 (h C q).2
variable [HasW]
/-- a local that holds data -/
def x_var (lv : Ev) (j : Nat) : SX := fun _ _ => match lv[j]? with
  | some (some (.d v)) => some v
  | _ => none
def x_len (m : SX) : SX := fun C fs => match m C fs with
  | some (.tup ds) => some (.int ds.length)
  | _ => none
section
variable {lv : Ev} {X : Cx} {i j : Nat} {n x : Str} {np p pos : Pos} {e : Expr} {m : SX}
theorem se_var {y : Str} (hN : X.N[j]? = some y := by rfl) (hv : Vis X.env.scope y := by first | exact Or.inl rfl | exact Or.inr (Or.inl rfl) | exact Or.inr (Or.inr rfl)) (hd : (y == ("__debug__" : Str)) = false := by decide) (hcd : (y == ("__classdict__" : Str)) = false := by decide) : SE lv X i (.Name y np) (x_var lv j) := fun a oe C d pn hz =>
  PE.of (pe_var (X := X.suite a ((a, oe) :: pn)) hN hv hd hcd) fun σ H Q ⟨W, fs, f, at_, hm, q⟩ => by
    unfold x_var at hm
    split at hm
    · rename_i v hl
      cases hm
      obtain ⟨u, e1, av⟩ := at_.loc j f hl
      exact ⟨u, e1, q H u Same.rfl' av⟩
    · cases hm
theorem se_len (hg : Gl X "len") (hm : X.mg "len" = none) (h : SE lv X i e m) (hs : starEach [e] X.env = (false, eval e X.env) :: starEach [] X.env := by rfl) (hpl : (backTo pos (starEach [] X.env)).any (·.1) = false := by rfl) : SE lv X i (.Call (.Name "len" p) [e] [] pos) (x_len m) := fun a oe C d pn hz =>
  PE.of (pe_callB (X := X.suite a ((a, oe) :: pn)) c_len hg hm (by rfl) (pa_cons (h a oe C d pn hz) pa_nil hs) (by decide) (by decide) hs hpl) fun σ H Q ⟨W, fs, f, at_, hm, q⟩ => by
    unfold x_len at hm
    cases z : m C fs with
    | none => rw [z] at hm; cases hm
    | some g =>
      rw [z] at hm
      cases g with
      | tup ds =>
        cases hm
        refine ⟨W, fs, _, at_, z, fun H1 v k av => ?_⟩
        cases av with
        | tup r hs => exact .inl (.inl ⟨_, _, rfl, .inr r.sq, by rw [← hs.length]; exact q H1 _ k (.int _)⟩)
      | _ => cases hm
theorem se_gtup {y : Str} {vs : List Str} (hg : Gl X y) (h : X.mg y = some (.ref (He.ga X.K y))) (hv : t_tup y vs X.K = true) (hz : (vs.all fun z => PyData.strOk z) = true := by decide +kernel) (hd : (y == ("__debug__" : Str)) = false := by decide) : SE lv X i (.Name y np) (x_c (.tup (vs.map D.str))) := by
  obtain ⟨u, av, r⟩ := av_tup hv hz
  exact se_c (fun a oe pn => pe_glob (X := X.suite a ((a, oe) :: pn)) hg h r hd) av
end
/-- the except suite raises another exception, which keeps what is told of the first -/
def s_tryX (tab : List (Str × Bool)) (mb : MS) (i : Nat) (C2 p : Str) (m : Ev → SX) : MS := fun e S => match mb e S with
  | .err C fs e1 S1 => (match tab.lookup C with
    | some true => (match m (e1.set i none) C fs with
      | some f => if i < e1.length then .err C2 [(p, f)] (e1.set i none) S1 else .bad
      | none => .bad)
    | some false => .err C fs e1 S1
    | none => .bad)
  | r => r
section
variable {X : Cx} {Wx : WX} {k i : Nat} {n x y : Str} {c : Value} {body : List Stmt} {np np2 yp rpos pos pos2 pos3 : Pos} {ex : Expr} {mb : MS} {m : Ev → SX} {tab : List (Str × Bool)} {C2 p : Str} {fI : Addr}
theorem mp_tryX (h : Here X Wx k) (hs : X.stack = X.env :: X.outer) (hf : X.env.frame = some X.env.locals) (hN : X.N.Nodup) (hi : X.N[i]? = some n) (hln : X.env.kindOf n = some .local) (hc : Names X x c) (ht : Catch X.K c tab) (hrs : ∀ C, tab.lookup C = some true → Raises X (.ref (He.ga X.K C)))
    (hpa : ∀ hd : Option Value, PassesOwnAt (model X.prog X.w) (X.A.mark hd) X.A X.env X.xe) (hb : ∀ (W : WX) (pn : List (Addr × Obj)) (xe : Value → Shared → Prop), Here (X.tr pn xe) W k → MPs (X.tr pn xe) W body mb)
    (T : Xe.ErrOk X.prog X.K (He.ga X.K C2) fI p) (gC : X.mg y = some (.ref (He.ga X.K C2))) (hg : Gl X y) (hse : ∀ lv, SE lv X i ex (m lv)) (hk : 1 ≤ k := by decide) (hdn : (n == ("__debug__" : Str)) = false := by decide) (hdb : (y == ("__debug__" : Str)) = false := by decide)
    (he : starEach (ex :: []) X.env = (false, eval ex X.env) :: starEach [] X.env := by rfl) (hpl : (backTo rpos (starEach [] X.env)).any (·.1) = false := by rfl) :
    MP X Wx (.Try body [.ExceptHandler (some (.Name x np)) (some n) [.Raise (some (.Call (.Name y yp) [ex] [] rpos)) (some (.Name n np2)) pos2] pos3] [] [] pos) (s_tryX tab mb i C2 p m) := by
  let ts : Addr → Value → Option Addr → TS := fun a cls d D σ H => ∃ (C : Str) (lv : Ev), cls = .ref (He.ga X.K C) ∧ Raises X cls ∧ σ[i]? = some (some (.ref a)) ∧ Xe.tMkS (He.ga X.K C2) p (tCons (tSE lv X.K i a C d (m lv)) tNil) σ H fun cls' d' H' => Wx cls' d' (σ.set i none) H'
  have hsu : ∀ (a : Addr) (oe : Obj) (cls : Value) (d : Option Addr) (pn : List (Addr × Obj)) (xe : Value → Shared → Prop), Zc cls d oe → (∃ vs, oe.data = .fields vs) → Xq.Hot (Xq.suiteQ X a ((a, oe) :: pn) xe) a cls →
      Xq.Tk (Xq.suiteQ X a ((a, oe) :: pn) xe) (fun cls d σ H => Wx cls d (σ.set i none) H) → PSs (Xq.suiteQ X a ((a, oe) :: pn) xe) [.Raise (some (.Call (.Name y yp) [ex] [] rpos)) (some (.Name n np2)) pos2] (ts a cls d) := fun a oe cls d pn xe hz hd hot tkS =>
    ⟨fun pins s σ H D I ⟨C, lv, ec, rz, hi2, q⟩ => by
      subst ec
      have hr : (Xq.suiteQ X a ((a, oe) :: pn) xe).A.depth + 1 < recursionLimit := by have := h.room.dp; show X.A.depth + 1 < _; omega
      have pa : PA (Xq.suiteQ X a ((a, oe) :: pn) xe) [ex] (tCons (tSE lv X.K i a C d (m lv)) tNil) := Xq.pa_suiteQ (pa_cons (X := X.suite a ((a, oe) :: pn)) (hse lv a oe C d pn ⟨hz, hd⟩) pa_nil he)
      have mk := Xe.pmk_sup (X := Xq.suiteQ X a ((a, oe) :: pn) xe) (np := yp) (pos := rpos) T gC hr pa hg hdb he hpl
      exact (pss_one (Xq.ps_raiseQF (X := Xq.suiteQ X a ((a, oe) :: pn) xe) hot rz tkS mk hi hln hdn)).run pins s σ H D I ⟨hi2, q⟩⟩
  refine PS.of (Xq.ps_try_asQ (tb := fun W => RS X.K W mb) hs hf hN hi hln hc hpa h.tk (fun W pn xe tk po => hb W pn xe (h.tr tk)) hsu) fun D σ H ⟨Z, ρ, e, S, st, ev, q0⟩ => ?_
  refine ⟨Z, ρ, e, S, st, ev, ?_⟩
  unfold s_tryX at q0
  cases q : mb e S with
  | bad => rw [q] at q0; exact q0
  | go o S' => rw [q] at q0; cases o <;> exact q0
  | err C fs e1 S1 =>
    rw [q] at q0
    intro ρ' H' σ' d s1 g1 ev1 er
    have q0 : PostS X.K Z ρ H Wx D (match tab.lookup C with
      | some true => (match m (e1.set i none) C fs with
        | some f => if i < e1.length then .err C2 [(p, f)] (e1.set i none) S1 else .bad
        | none => .bad)
      | some false => .err C fs e1 S1
      | none => .bad) := q0
    cases z : tab.lookup C with
    | none => rw [z] at q0; exact q0.elim
    | some b =>
      rw [z] at q0
      refine ⟨b, ht C b z, fun hb1 a na => ?_, fun hb1 => ?_⟩
      · subst hb1
        have q0 : PostS X.K Z ρ H Wx D (match m (e1.set i none) C fs with
          | some f => if i < e1.length then .err C2 [(p, f)] (e1.set i none) S1 else .bad
          | none => .bad) := q0
        cases w : m (e1.set i none) C fs with
        | none => rw [w] at q0; exact q0.elim
        | some f =>
          rw [w] at q0
          have q0 : PostS X.K Z ρ H Wx D (if i < e1.length then .err C2 [(p, f)] (e1.set i none) S1 else .bad) := q0
          by_cases il0 : i < e1.length
          case neg => rw [if_neg il0] at q0; exact q0.elim
          rw [if_pos il0] at q0
          have il : i < σ'.length := by rw [← ev1.len]; exact il0
          have er2 : ErrAt X.K (Wn Z ρ') H' fs d := by
            rcases er with er | ⟨dd, vs, h1, _, _, h4, h5⟩
            · exact .inl er
            · exact .inr ⟨dd, vs, h1, h4, h5⟩
          have loc : ∀ (j : Nat) (v : Bv.D), (e1.set i none)[j]? = some (some (.d v)) → ∃ u, (σ'.set i (some (.ref a)))[j]? = some (some u) ∧ AV X.K (Wn Z ρ') H' v u := fun j v e => by
            by_cases hj : i = j
            · subst hj
              rw [List.getElem?_set_self il0] at e
              cases e
            · rw [List.getElem?_set_ne hj] at e ⊢
              obtain ⟨u, e2, av⟩ := ev1.at_ j _ e
              cases av with
              | d av => exact ⟨u, e2, av⟩
          refine ⟨C, e1.set i none, rfl, hrs C z, by rw [List.getElem?_set_self il], Wn Z ρ', fs, f, ⟨fun b hb => s1.thereW hb, by rw [List.getElem?_set_self il], er2, loc⟩, w, fun H2 v k2 av => ⟨v, rfl, fun dd hd => ?_⟩⟩
          have s2 := s1.grow k2
          have g2 := g1.trans (Go.grow k2)
          have kp := upd_keep (o := .xd [(p, v)]) hd
          have mv := (Go.grow (ρ := ρ') kp).mv s2
          have hn : H dd = none := by
            cases y : H dd with
            | none => rfl
            | some o =>
              obtain ⟨u, y2⟩ := there_of g2 s2 dd o y
              rw [hd] at y2; cases y2
          rw [List.set_set]
          exact q0 ρ' _ _ (some dd) (s2.grow kp) (g2.trans (Go.grow kp)) (((ev1.unset).mv (same_mv k2) (List.prefix_refl _)).mv mv (List.prefix_refl _)) (.inr ⟨dd, _, rfl, hn, s2.fresh hd, upd_same, .cons (av.mv mv) .nil⟩)
      · subst hb1
        exact q0 ρ' H' σ' d s1 g1 ev1 er
end
end Bv
set_option Elab.async false
set_option linter.all false
set_option maxRecDepth 100000
set_option maxHeartbeats 4000000
/-! Steps of the by-value functions, each by its own lemma: what is met is told, what comes is found. -/
namespace Bv
open PySem PySem.Spec L2
open PyProof.Rows hiding St
variable [HasW]
section
variable {e e1 : Ev} {S S1 S2 S3 S4 : Sto} {m ma mb mc mo mi mb' : M} {ms : MG (List X)} {mt mt2 : MG Bool} {x y z : X} {xs ys : List X} {d d1 d2 : D} {r : R X} {rb : R Bool} {ro : RO} {b c : Bool} {i : Nat}
theorem ev_var (h : e[i]? = some (some x)) : m_var i e S = .ok x S := by
  unfold m_var
  rw [h]
theorem ev_c : m_c d e S = .ok (.d d) S := rfl
theorem ev_nil : m_nil e S = .ok [] S := rfl
theorem ev_cons (h1 : m e S = .ok x S1) (h2 : ms e S1 = .ok xs S2) : m_cons m ms e S = .ok (x :: xs) S2 := by
  unfold m_cons
  rw [h1]
  show (ms e S1).bind _ = _
  rw [h2]
  rfl
theorem ev_star (h1 : m e S = .ok x S1) (hi : items S1 x = some ys) (h2 : ms e S1 = .ok xs S2) : m_star m ms e S = .ok (ys ++ xs) S2 := by
  unfold m_star
  rw [h1]
  show (match items S1 x with
    | some ys => (ms e S1).bind fun xs S2 => R.ok (ys ++ xs) S2
    | none => .bad) = _
  rw [hi]
  show (ms e S1).bind _ = _
  rw [h2]
  rfl
theorem ev_op2 {f : D → D → Option D} (h1 : ma e S = .ok x S1) (h2 : mb e S1 = .ok y S2) (h3 : x.get S2 = some d1) (h4 : y.get S2 = some d2) (h : f d1 d2 = some d) : m_op2 f ma mb e S = .ok (.d d) S2 := by
  unfold m_op2
  rw [h1]
  show (mb e S1).bind _ = _
  rw [h2]
  show op2 f S2 x y = _
  unfold op2
  rw [h3, h4]
  show (match f d1 d2 with
    | some d => R.ok (X.d d) S2
    | none => .bad) = _
  rw [h]
theorem ev_call {g : List X → Sto → R X} (h1 : ms e S = .ok xs S1) (h : g xs S1 = r) : m_call g ms e S = r := by
  unfold m_call
  rw [h1]
  exact h
/-- a def, called with all its arguments -/
theorem ev_def {n : Nat} {g : List X → Sto → R X} (hl : xs.length = n) (h : g xs S = r) : arity n (withD [] g) xs S = r := by
  unfold arity withD
  rw [if_pos (decide_eq_true hl), List.map_nil, List.append_nil]
  exact h
theorem ev_defD {n : Nat} {ds : List D} {g : List X → Sto → R X} (hl : xs.length = n) (h : g (xs ++ ds.map .d) S = r) : arity n (withD ds g) xs S = r := by
  unfold arity withD
  rw [if_pos (decide_eq_true hl)]
  exact h
theorem gets_ds : ∀ ds : List D, gets S (ds.map X.d) = some ds
  | [] => rfl
  | d :: ds => by
    show (match (X.d d).get S, gets S (ds.map X.d) with
      | some d, some l => some (d :: l)
      | _, _ => none) = _
    rw [gets_ds ds]
    rfl
theorem isD_ds : ∀ ds : List D, (ds.map X.d).all X.isD = true
  | [] => rfl
  | d :: ds => by
    rw [List.map_cons, List.all_cons, isD_ds ds]
    rfl
/-- a def of data, called with data -/
theorem ev_P {g : List D → PR} {ds : List D} (hx : xs = ds.map X.d) (h : g ds = .ok d) : callP g xs S = .ok (.d d) S := by
  subst hx
  unfold callP
  rw [gets_ds, isD_ds]
  show (match g ds with
    | .ok d => if true || d.noL then R.ok (X.d d) S else .bad
    | .err C fs => if true || D.noLf fs then .err C fs S else .bad
    | .bad => .bad) = _
  rw [h]
  rfl
theorem ev_P1 {g : List D → PR} (h : g [d1] = .ok d) : callP g [.d d1] S = .ok (.d d) S := ev_P (ds := [d1]) rfl h
theorem ev_P2 {g : List D → PR} (h : g [d1, d2] = .ok d) : callP g [.d d1, .d d2] S = .ok (.d d) S := ev_P (ds := [d1, d2]) rfl h
theorem ev_P3 {g : List D → PR} {d3 : D} (h : g [d1, d2, d3] = .ok d) : callP g [.d d1, .d d2, .d d3] S = .ok (.d d) S := ev_P (ds := [d1, d2, d3]) rfl h
/-- a def of data, called with what is data at the moment -/
theorem ev_PX {g : List D → PR} {ds : List D} (hx : gets S xs = some ds) (h : g ds = .ok d) (hn : d.noL = true) : callP g xs S = .ok (.d d) S := by
  unfold callP
  rw [hx]
  show (match g ds with
    | .ok d => if xs.all X.isD || d.noL then R.ok (X.d d) S else .bad
    | .err C fs => if xs.all X.isD || D.noLf fs then .err C fs S else .bad
    | .bad => .bad) = _
  rw [h]
  show (if xs.all X.isD || d.noL then R.ok (X.d d) S else .bad) = _
  rw [hn, Bool.or_true]
  rfl
theorem ev_Pe {g : List D → PR} {ds : List D} {C : Str} {fs : List (Str × D)} (hx : gets S xs = some ds) (h : g ds = .err C fs) (hn : D.noLf fs = true) : callP g xs S = .err C fs S := by
  unfold callP
  rw [hx]
  show (match g ds with
    | .ok d => if xs.all X.isD || d.noL then R.ok (X.d d) S else .bad
    | .err C fs => if xs.all X.isD || D.noLf fs then .err C fs S else .bad
    | .bad => .bad) = _
  rw [h]
  show (if xs.all X.isD || D.noLf fs then R.err C fs S else .bad) = _
  rw [hn, Bool.or_true]
  rfl
theorem ev_ix {j : Int} (h1 : ma e S = .ok x S1) (h2 : mb e S1 = .ok (.d (.int j)) S2) (h : ixO S2 x j = some z) : m_ix ma mb e S = .ok z S2 := by
  unfold m_ix
  rw [h1]
  show (mb e S1).bind _ = _
  rw [h2]
  show optR ((intX (.d (.int j))).bind (ixO S2 x)) S2 = _
  show optR (ixO S2 x j) S2 = _
  rw [h]
  rfl
theorem ev_attr {Cs : List Str} {f : Str} (h1 : m e S = .ok x S1) (h : attrO Cs f S1 x = some z) : m_attr Cs f m e S = .ok z S1 := by
  unfold m_attr
  rw [h1]
  show optR (attrO Cs f S1 x) S1 = _
  rw [h]
  rfl
theorem ds_ds : ∀ ds : List D, ds? (ds.map X.d) = some ds
  | [] => rfl
  | d :: ds => by
    show (match X.d d, ds? (ds.map X.d) with
      | .d v, some l => some (v :: l)
      | _, _ => none) = _
    rw [ds_ds ds]
theorem ev_tup {ds : List D} (h1 : ms e S = .ok xs S1) (hd : ds? xs = some ds) (hl : ds.length ≤ sizeLine) : m_tup ms e S = .ok (.d (.tup ds)) S1 := by
  unfold m_tup
  rw [h1]
  show dispT xs S1 = _
  unfold dispT
  rw [hd]
  show (if ds.length ≤ sizeLine then _ else _) = _
  rw [if_pos hl]
theorem ev_lst {ds : List D} (h1 : ms e S = .ok xs S1) (hd : ds? xs = some ds) (hl : ds.length ≤ sizeLine) : m_lst ms e S = .ok (.d (.lst ds)) S1 := by
  unfold m_lst
  rw [h1]
  show dispL xs S1 = _
  unfold dispL
  rw [hd]
  show (if ds.length ≤ sizeLine then _ else _) = _
  rw [if_pos hl]
theorem ev_lstN (h1 : ms e S = .ok xs S1) (hl : xs.length ≤ sizeLine) : m_lstN ms e S = .ok (.r S1.length) (S1 ++ [.lst xs]) := by
  unfold m_lstN
  rw [h1]
  show dispN xs S1 = _
  unfold dispN
  rw [if_pos hl]
theorem ev_no : m_no e S = .ok none S := rfl
theorem ev_part {j : Int} (h : m e S = .ok (.d (.int j)) S1) : m_part m e S = .ok (some j) S1 := by
  unfold m_part
  rw [h]
  rfl
theorem ev_slice {ml mh : MG (Option Int)} {lo hi : Option Int} (h1 : m e S = .ok x S1) (h2 : ml e S1 = .ok lo S2) (h3 : mh e S2 = .ok hi S3) (h : slX S3 x lo hi = some z) : m_slice m ml mh e S = .ok z S3 := by
  unfold m_slice
  rw [h1]
  show (ml e S1).bind _ = _
  rw [h2]
  show (mh e S2).bind _ = _
  rw [h3]
  show optR (slX S3 x lo hi) S3 = _
  rw [h]
  rfl
theorem ev_bm {ty : Sto → X → Bool} {g : X → List X → Sto → R X} (h1 : mo e S = .ok x S1) (ht : ty S1 x = true) (h2 : ms e S1 = .ok xs S2) (h : g x xs S2 = r) : m_bm ty g mo ms e S = r := by
  unfold m_bm
  rw [h1]
  show (if ty S1 x then (ms e S1).bind fun xs S2 => g x xs S2 else .bad) = _
  rw [ht, h2]
  exact h
theorem ev_sm1 {g : Str → X → Sto → R X} {a : Str} (h1 : mo e S = .ok (.d (.str a)) S1) (h2 : m e S1 = .ok y S2) (h : g a y S2 = r) : m_sm1 g mo m e S = r := by
  unfold m_sm1
  rw [h1]
  show (m e S1).bind _ = _
  rw [h2]
  exact h
theorem ev_meth {C f : Str} {g : List X → Sto → R X} (h1 : mo e S = .ok x S1) (ho : isOf C f S1 x = true) (h2 : ms e S1 = .ok xs S2) (h : g (x :: xs) S2 = r) : m_meth C f g mo ms e S = r := by
  unfold m_meth
  rw [h1]
  show (if isOf C f S1 x then (ms e S1).bind fun xs S2 => g (x :: xs) S2 else .bad) = _
  rw [ho, h2]
  exact h
theorem ev_cmeth {C : Str} {g : List X → Sto → R X} (h1 : mo e S = .ok (.d (.gl C)) S1) (h2 : ms e S1 = .ok xs S2) (h : g (.d (.gl C) :: xs) S2 = r) : m_cmeth C g mo ms e S = r := by
  unfold m_cmeth
  rw [h1]
  show (if decide (C = C) then (ms e S1).bind fun xs S2 => g (.d (.gl C) :: xs) S2 else .bad) = _
  rw [if_pos (decide_eq_true rfl), h2]
  exact h
theorem ev_ift (h1 : mt e S = .ok true S1) (h : ma e S1 = r) : m_if mt ma mb e S = r := by
  unfold m_if
  rw [h1]
  exact h
theorem ev_iff (h1 : mt e S = .ok false S1) (h : mb e S1 = r) : m_if mt ma mb e S = r := by
  unfold m_if
  rw [h1]
  exact h
/-! tests -/
theorem ev_tb (h : m e S = .ok (.d (.bl b)) S1) : m_tb m e S = .ok b S1 := by
  unfold m_tb
  rw [h]
  rfl
theorem ev_truth (h : m e S = .ok x S1) (ht : truthX S1 x = some b) : m_truth m e S = .ok b S1 := by
  unfold m_truth
  rw [h]
  show (match truthX S1 x with
    | some b => R.ok b S1
    | none => .bad) = _
  rw [ht]
theorem ev_notb (h : mt e S = .ok b S1) : m_notb mt e S = .ok (!b) S1 := by
  unfold m_notb
  rw [h]
  rfl
theorem ev_nott (h : mt e S = .ok true S1) : m_notb mt e S = .ok false S1 := ev_notb h
theorem ev_notf (h : mt e S = .ok false S1) : m_notb mt e S = .ok true S1 := ev_notb h
theorem ev_andt (h : mt e S = .ok true S1) (h2 : mt2 e S1 = rb) : m_andb mt mt2 e S = rb := by
  unfold m_andb
  rw [h]
  exact h2
theorem ev_andf (h : mt e S = .ok false S1) : m_andb mt mt2 e S = .ok false S1 := by
  unfold m_andb
  rw [h]
  rfl
theorem ev_ort (h : mt e S = .ok true S1) : m_orb mt mt2 e S = .ok true S1 := by
  unfold m_orb
  rw [h]
  rfl
theorem ev_orf (h : mt e S = .ok false S1) (h2 : mt2 e S1 = rb) : m_orb mt mt2 e S = rb := by
  unfold m_orb
  rw [h]
  exact h2
/-- both sides of an and, an or, that end well either way -/
theorem ev_and2 (h : mt e S = .ok b S) (h2 : b = true → mt2 e S = .ok c S) : m_andb mt mt2 e S = .ok (b && c) S := by
  cases b with
  | true => exact ev_andt h (h2 rfl)
  | false => exact ev_andf h
theorem ev_or2 (h : mt e S = .ok b S) (h2 : b = false → mt2 e S = .ok c S) : m_orb mt mt2 e S = .ok (b || c) S := by
  cases b with
  | true => exact ev_ort h
  | false => exact ev_orf h (h2 rfl)
theorem ev_bl (h : mt e S = .ok b S1) : m_bl mt e S = .ok (.d (.bl b)) S1 := by
  unfold m_bl
  rw [h]
  rfl
/-! statements -/
theorem st_seq {m1 m2 : MS} (h1 : m1 e S = .go (.nx e1) S1) (h2 : m2 e1 S1 = ro) : s_seq m1 m2 e S = ro := by
  unfold s_seq
  rw [h1]
  exact h2
theorem st_nil : s_nil e S = .go (.nx e) S := rfl
theorem st_set (h : m e S = .ok x S1) : s_set i m e S = .go (.nx (e.set i (some x))) S1 := by
  unfold s_set
  rw [h]
  rfl
theorem st_expr (h : m e S = .ok x S1) : s_expr m e S = .go (.nx e) S1 := by
  unfold s_expr
  rw [h]
  rfl
theorem st_ret (h : m e S = .ok x S1) : s_ret m e S = .go (.rt x) S1 := by
  unfold s_ret
  rw [h]
  rfl
theorem st_retP (h : m e S = .ok x S1) (hg : x.get S1 = some d) : s_retP m e S = .go (.rp d) S1 := by
  unfold s_retP
  rw [h]
  show (match x.get S1 with
    | some d => RO.go (.rp d) S1
    | none => .bad) = _
  rw [hg]
theorem st_retT {ds : List D} (h : ms e S = .ok xs S1) (hg : gets S1 xs = some ds) (hl : ds.length ≤ sizeLine) : s_retT ms e S = .go (.rp (.tup ds)) S1 := by
  unfold s_retT
  rw [h]
  show (match gets S1 xs with
    | some ds => if ds.length ≤ sizeLine then RO.go (.rp (.tup ds)) S1 else .bad
    | none => .bad) = _
  rw [hg]
  show (if ds.length ≤ sizeLine then _ else _) = _
  rw [if_pos hl]
theorem st_ift {m1 m2 : MS} (h : mt e S = .ok true S1) (h1 : m1 e S1 = ro) : s_if mt m1 m2 e S = ro := by
  unfold s_if
  rw [h]
  exact h1
theorem st_iff {m1 m2 : MS} (h : mt e S = .ok false S1) (h1 : m2 e S1 = ro) : s_if mt m1 m2 e S = ro := by
  unfold s_if
  rw [h]
  exact h1
theorem st_if {m1 m2 : MS} (h : mt e S = .ok b S1) (h1 : b = true → m1 e S1 = ro) (h2 : b = false → m2 e S1 = ro) : s_if mt m1 m2 e S = ro := by
  cases b with
  | true => exact st_ift h (h1 rfl)
  | false => exact st_iff h (h2 rfl)
theorem st_asg {t : Tg} (h : m e S = .ok x S1) (ha : t.asg S1 x e = some e1) : s_asg t m e S = .go (.nx e1) S1 := by
  unfold s_asg
  rw [h]
  show (match t.asg S1 x e with
    | some e1 => RO.go (.nx e1) S1
    | none => .bad) = _
  rw [ha]
theorem st_par {i j : Nat} (h : ms e S = .ok [x, y] S1) : s_par i j ms e S = .go (.nx ((e.set i (some x)).set j (some y))) S1 := by
  unfold s_par
  rw [h]
  rfl
theorem st_fld {Cs : List Str} {f : Str} (h1 : m e S = .ok y S1) (h2 : mo e S1 = .ok x S2) (h : fldO Cs f S2 x y = some S3) : s_fld Cs f mo m e S = .go (.nx e) S3 := by
  unfold s_fld
  rw [h1]
  show (mo e S1).so e _ = _
  rw [h2]
  show (match fldO Cs f S2 x y with
    | some S3 => RO.go (.nx e) S3
    | none => .bad) = _
  rw [h]
theorem st_sub (h1 : m e S = .ok z S1) (h2 : mo e S1 = .ok x S2) (h3 : mi e S2 = .ok y S3) (h : setO S3 x y z = some S4) : s_sub mo mi m e S = .go (.nx e) S4 := by
  unfold s_sub
  rw [h1]
  show (mo e S1).so e _ = _
  rw [h2]
  show (mi e S2).so e _ = _
  rw [h3]
  show (match setO S3 x y z with
    | some S4 => RO.go (.nx e) S4
    | none => .bad) = _
  rw [h]
theorem st_aug {f : D → D → Option D} (h1 : m_var i e S = .ok (.d d1) S) (h2 : m e S = .ok (.d d2) S1) (h : f d1 d2 = some d) : s_aug i f m e S = .go (.nx (e.set i (some (.d d)))) S1 := by
  unfold s_aug
  rw [h1]
  show (m e S).so e _ = _
  rw [h2]
  show (op2 f S1 (.d d1) (.d d2)).so e _ = _
  have : op2 f S1 (.d d1) (.d d2) = .ok (.d d) S1 := by
    show (match f d1 d2 with
      | some d => R.ok (X.d d) S1
      | none => .bad) = _
    rw [h]
  rw [this]
  rfl
theorem it_val {l : Lk} (h : m e S = .ok x S1) (hw : walkX S1 x = some (xs, l)) : i_val m e S = .ok (xs, l) S1 := by
  unfold i_val
  rw [h]
  show optR (walkX S1 x) S1 = _
  rw [hw]
  rfl
theorem st_for {t : Tg} {mt : MIt} {body : MS} {l : Lk} (h : mt e S = .ok (xs, l) S1) (h2 : forL t l body xs e S1 = ro) : s_for t mt body e S = ro := by
  unfold s_for
  rw [h]
  exact h2
theorem for_nil {t : Tg} {body : MS} {l : Lk} (h : l.ok S = true) : forL t l body [] e S = .go (.nx e) S := by
  unfold forL
  rw [if_pos h]
theorem for_nx {t : Tg} {body : MS} {l : Lk} {e2 : Ev} (h : l.ok S = true) (ha : t.asg S x e = some e1) (hb : body e1 S = .go (.nx e2) S1) (h2 : forL t l body xs e2 S1 = ro) : forL t l body (x :: xs) e S = ro := by
  unfold forL
  rw [if_pos h, ha]
  show (match body e1 S with
      | .go (.nx e2) S2 => forL t l body xs e2 S2
      | .go (.ct e2) S2 => forL t l body xs e2 S2
      | .go (.bk e2) S2 => .go (.nx e2) S2
      | r => r) = _
  rw [hb]
  exact h2
/-- a loop whose body comes back to what it began with -/
theorem for_inv {t : Tg} {body : MS} {l : Lk} (I : Ev → Sto → Prop) (hok : ∀ e S, I e S → l.ok S = true) : ∀ {xs : List X} {e : Ev} {S : Sto}, I e S → (∀ x ∈ xs, ∀ e S, I e S → ∃ e1 e2 S2, t.asg S x e = some e1 ∧ body e1 S = .go (.nx e2) S2 ∧ I e2 S2) → ∃ e2 S2, forL t l body xs e S = .go (.nx e2) S2 ∧ I e2 S2
  | [], e, S, h, _ => ⟨e, S, for_nil (hok _ _ h), h⟩
  | x :: xs, e, S, h, step => by
    obtain ⟨e1, e2, S2, h1, h2, h3⟩ := step x (by simp) e S h
    obtain ⟨e3, S3, h4, h5⟩ := for_inv I hok (xs := xs) h3 fun y hy => step y (List.mem_cons_of_mem _ hy)
    exact ⟨e3, S3, for_nx (hok _ _ h) h1 h2 h4, h5⟩
theorem ev_chT {f g : D → D → Option D} {d3 d4 : D} (h1 : ma e S = .ok x S1) (h2 : mb e S1 = .ok y S2) (hx : x.get S2 = some d1) (hy : y.get S2 = some d2) (hf : f d1 d2 = some (.bl true)) (h3 : mc e S2 = .ok z S3) (hy3 : y.get S3 = some d3) (hz : z.get S3 = some d4) (hg : g d3 d4 = some d) : m_chain f g ma mb mc e S = .ok (.d d) S3 := by
  unfold m_chain
  rw [h1]
  show (mb e S1).bind _ = _
  rw [h2]
  show (op2 f S2 x y).bind _ = _
  have o1 : op2 f S2 x y = .ok (.d (.bl true)) S2 := by
    unfold op2
    rw [hx, hy]
    show (match f d1 d2 with
      | some d => R.ok (X.d d) S2
      | none => .bad) = _
    rw [hf]
  rw [o1]
  show (mc e S2).bind _ = _
  rw [h3]
  show op2 g S3 y z = _
  unfold op2
  rw [hy3, hz]
  show (match g d3 d4 with
    | some d => R.ok (X.d d) S3
    | none => .bad) = _
  rw [hg]
theorem ev_chF {f g : D → D → Option D} (h1 : ma e S = .ok x S1) (h2 : mb e S1 = .ok y S2) (hx : x.get S2 = some d1) (hy : y.get S2 = some d2) (hf : f d1 d2 = some (.bl false)) : m_chain f g ma mb mc e S = .ok (.d (.bl false)) S2 := by
  unfold m_chain
  rw [h1]
  show (mb e S1).bind _ = _
  rw [h2]
  show (op2 f S2 x y).bind _ = _
  have o1 : op2 f S2 x y = .ok (.d (.bl false)) S2 := by
    unfold op2
    rw [hx, hy]
    show (match f d1 d2 with
      | some d => R.ok (X.d d) S2
      | none => .bad) = _
    rw [hf]
  rw [o1]
  rfl
theorem ev_not {k : Bool} (h : m e S = .ok x S1) (ht : truthX S1 x = some k) : m_not m e S = .ok (.d (.bl (!k))) S1 := ev_bl (ev_notb (ev_truth h ht))
theorem ev_andv (h : ma e S = .ok x S1) (ht : truthX S1 x = some true) (h2 : mb e S1 = r) : m_and ma mb e S = r := by
  unfold m_and
  rw [h]
  show (match truthX S1 x with
    | some true => mb e S1
    | some false => .ok x S1
    | none => .bad) = _
  rw [ht]
  exact h2
theorem ev_andvf (h : ma e S = .ok x S1) (ht : truthX S1 x = some false) : m_and ma mb e S = .ok x S1 := by
  unfold m_and
  rw [h]
  show (match truthX S1 x with
    | some true => mb e S1
    | some false => .ok x S1
    | none => .bad) = _
  rw [ht]
theorem ev_callV {C : Str} {g : List X → Sto → R X} (h : ms ((some (.d (.gl C)) :: e)) S = .ok xs S1) (h2 : g xs S1 = r) : m_callV 0 C g ms (some (.d (.gl C)) :: e) S = r := by
  have q : m_callV 0 C g ms (some (.d (.gl C)) :: e) S = if decide (C = C) then (ms (some (.d (.gl C)) :: e) S).bind g else .bad := rfl
  rw [q, if_pos (decide_eq_true rfl), h]
  exact h2
theorem st_tryXG {tab : List (Str × Bool)} {mb : MS} {C2 p : Str} {mx : Ev → SX} {o : Out} (h : mb e S = .go o S1) : s_tryX tab mb i C2 p mx e S = .go o S1 := by
  unfold s_tryX
  rw [h]
theorem st_tryXC {tab : List (Str × Bool)} {mb : MS} {C C2 p : Str} {fs : List (Str × D)} {mx : Ev → SX} {v : D} (h : mb e S = .err C fs e1 S1) (ht : tab.lookup C = some true) (hx : mx (e1.set i none) C fs = some v) (hi : i < e1.length) : s_tryX tab mb i C2 p mx e S = .err C2 [(p, v)] (e1.set i none) S1 := by
  unfold s_tryX
  rw [h]
  show (match tab.lookup C with
    | some true => (match mx (e1.set i none) C fs with
      | some f => if i < e1.length then RO.err C2 [(p, f)] (e1.set i none) S1 else .bad
      | none => .bad)
    | some false => .err C fs e1 S1
    | none => .bad) = _
  rw [ht]
  show (match mx (e1.set i none) C fs with
      | some f => if i < e1.length then RO.err C2 [(p, f)] (e1.set i none) S1 else .bad
      | none => .bad) = _
  rw [hx]
  exact if_pos hi
theorem ev_orv (h : ma e S = .ok x S1) (ht : truthX S1 x = some true) : m_or ma mb e S = .ok x S1 := by
  unfold m_or
  rw [h]
  show (match truthX S1 x with
    | some true => R.ok x S1
    | some false => mb e S1
    | none => .bad) = _
  rw [ht]
theorem ev_orvf (h : ma e S = .ok x S1) (ht : truthX S1 x = some false) (h2 : mb e S1 = r) : m_or ma mb e S = r := by
  unfold m_or
  rw [h]
  show (match truthX S1 x with
    | some true => R.ok x S1
    | some false => mb e S1
    | none => .bad) = _
  rw [ht]
  exact h2
theorem ev_orbl {p q : Bool} (h : ma e S = .ok (.d (.bl p)) S) (h2 : mb e S = .ok (.d (.bl q)) S) : m_or ma mb e S = .ok (.d (.bl (p || q))) S := by
  cases p with
  | true => exact ev_orv h rfl
  | false => exact ev_orvf h rfl h2
theorem ev_andbl {p q : Bool} (h : ma e S = .ok (.d (.bl p)) S) (h2 : mb e S = .ok (.d (.bl q)) S) : m_and ma mb e S = .ok (.d (.bl (p && q))) S := by
  cases p with
  | true => exact ev_andv h rfl h2
  | false => exact ev_andvf h rfl
theorem ev_isi {tab : List (String × Bool)} {own : List (Str × Bool)} (h : m e S = .ok x S1) (hi : isX tab own S1 x = some b) : m_isi tab own m e S = .ok (.d (.bl b)) S1 := by
  unfold m_isi
  rw [h]
  show optR ((isX tab own S1 x).map fun b => X.d (.bl b)) S1 = _
  rw [hi]
  rfl
theorem runP_nx {N : Nat} {mb : MS} {ds : List D} (h : mb (ev0 N (ds.map .d)) [] = .go (.nx e) S) : runP N mb ds = .ok .non := by
  unfold runP
  rw [h]
  rfl
theorem runP_rp {N : Nat} {mb : MS} {ds : List D} (h : mb (ev0 N (ds.map .d)) [] = .go (.rp d) S) : runP N mb ds = .ok d := by
  unfold runP
  rw [h]
  rfl
theorem runP_err {N : Nat} {mb : MS} {ds : List D} {C : Str} {fs : List (Str × D)} (h : mb (ev0 N (ds.map .d)) [] = .err C fs e S) : runP N mb ds = .err C fs := by
  unfold runP
  rw [h]
  rfl
/-! errors -/
section
variable {C p : Str} {fs : List (Str × D)} {v : D} {tab : List (Str × Bool)} {mb : MS} {j : Nat} {sx : SX}
theorem ev_consE (h : m e S = .err C fs S1) : m_cons m ms e S = .err C fs S1 := by
  unfold m_cons
  rw [h]
  rfl
theorem ev_callE {g : List X → Sto → R X} (h : ms e S = .err C fs S1) : m_call g ms e S = .err C fs S1 := by
  unfold m_call
  rw [h]
  rfl
theorem ev_subO {g : List D → PR} {fl : List (Str × D)} (h1 : ma e S = .ok (.d (.obj C fl)) S1) (h2 : mb' e S1 = .ok y S2) (h : callP g [.d (.obj C fl), y] S2 = r) : m_subO C g ma mb' e S = r := by
  unfold m_subO
  rw [h1]
  show (if decide (C = C) then (mb' e S1).bind fun y S2 => callP g [.d (.obj C fl), y] S2 else .bad) = _
  rw [if_pos (decide_eq_true rfl), h2]
  exact h
theorem st_raise (h : ms e S = .ok [.d v] S1) : s_raise C p ms e S = .err C [(p, v)] e S1 := by
  unfold s_raise
  rw [h]
  rfl
theorem st_seqE {m1 m2 : MS} (h : m1 e S = .err C fs e1 S1) : s_seq m1 m2 e S = .err C fs e1 S1 := by
  unfold s_seq
  rw [h]
  rfl
theorem st_seqR {m1 m2 : MS} {x : X} (h : m1 e S = .go (.rt x) S1) : s_seq m1 m2 e S = .go (.rt x) S1 := by
  unfold s_seq
  rw [h]
  rfl
theorem st_seqP {m1 m2 : MS} {d : D} (h : m1 e S = .go (.rp d) S1) : s_seq m1 m2 e S = .go (.rp d) S1 := by
  unfold s_seq
  rw [h]
  rfl
theorem st_exprE (h : m e S = .err C fs S1) : s_expr m e S = .err C fs e S1 := by
  unfold s_expr
  rw [h]
  rfl
theorem st_setE (h : m e S = .err C fs S1) : s_set i m e S = .err C fs e S1 := by
  unfold s_set
  rw [h]
  rfl
theorem st_retPE (h : m e S = .err C fs S1) : s_retP m e S = .err C fs e S1 := by
  unfold s_retP
  rw [h]
  rfl
theorem st_tryG {o : Out} (h : mb e S = .go o S1) : s_tryAs tab mb i j sx e S = .go o S1 := by
  unfold s_tryAs
  rw [h]
theorem st_tryC (h : mb e S = .err C fs e1 S1) (ht : tab.lookup C = some true) (hx : sx C fs = some v) (hi : i < e1.length) : s_tryAs tab mb i j sx e S = .go (.nx ((e1.set j (some (.d v))).set i none)) S1 := by
  unfold s_tryAs
  rw [h]
  show (match tab.lookup C with
    | some true => (match sx C fs with
      | some f => if i < e1.length then RO.go (.nx ((e1.set j (some (.d f))).set i none)) S1 else .bad
      | none => .bad)
    | some false => .err C fs e1 S1
    | none => .bad) = _
  rw [ht]
  show (match sx C fs with
      | some f => if i < e1.length then RO.go (.nx ((e1.set j (some (.d f))).set i none)) S1 else .bad
      | none => .bad) = _
  rw [hx]
  show (if i < e1.length then RO.go (.nx ((e1.set j (some (.d v))).set i none)) S1 else .bad) = _
  rw [if_pos hi]
end
end
end Bv
set_option Elab.async false
set_option linter.all false
set_option maxRecDepth 100000
set_option maxHeartbeats 4000000
/-! Plain words over the by-value functions. -/
namespace Bv
open PySem PySem.Spec L2
open PyProof.Rows hiding St
variable [HasW]
theorem forL_inv {t : Tg} {body : MS} (I : Ev → Sto → Prop) : ∀ {xs : List X} {e : Ev} {S : Sto}, I e S → (∀ x ∈ xs, ∀ e S, I e S → ∃ e1 e2 S2, t.asg S x e = some e1 ∧ body e1 S = .go (.nx e2) S2 ∧ I e2 S2) → ∃ e2 S2, forL t .free body xs e S = .go (.nx e2) S2 ∧ I e2 S2
  | [], e, S, h, _ => ⟨e, S, by simp [forL, Lk.ok], h⟩
  | x :: xs, e, S, h, step => by
    obtain ⟨e1, e2, S2, h1, h2, h3⟩ := step x (by simp) e S h
    obtain ⟨e3, S3, h4, h5⟩ := forL_inv I (xs := xs) h3 fun y hy => step y (List.mem_cons_of_mem _ hy)
    exact ⟨e3, S3, by simp [forL, Lk.ok, h1, h2, h4], h5⟩
/-- .. with the number of turns done -/
theorem forL_nat {t : Tg} {body : MS} (I : Nat → Ev → Sto → Prop) : ∀ {xs : List X} {k : Nat} {e : Ev} {S : Sto}, I k e S → (∀ i x, xs[i]? = some x → ∀ e S, I (k + i) e S → ∃ e1 e2 S2, t.asg S x e = some e1 ∧ body e1 S = .go (.nx e2) S2 ∧ I (k + i + 1) e2 S2) → ∃ e2 S2, forL t .free body xs e S = .go (.nx e2) S2 ∧ I (k + xs.length) e2 S2
  | [], k, e, S, h, _ => ⟨e, S, by simp [forL, Lk.ok], h⟩
  | x :: xs, k, e, S, h, step => by
    obtain ⟨e1, e2, S2, h1, h2, h3⟩ := step 0 x rfl e S h
    obtain ⟨e3, S3, h4, h5⟩ := forL_nat I (xs := xs) (k := k + 1) h3 fun i y hy e S hI => by
      have := step (i + 1) y (by simpa using hy) e S (by rw [show k + (i + 1) = k + 1 + i by omega]; exact hI)
      rw [show k + (i + 1) + 1 = k + 1 + i + 1 by omega] at this
      exact this
    exact ⟨e3, S3, by simp [forL, Lk.ok, h1, h2, h4], by rw [List.length_cons, show k + (xs.length + 1) = k + 1 + xs.length by omega]; exact h5⟩
theorem s_for_ok {t : Tg} {mi : MIt} {body : MS} {e : Ev} {S S1 : Sto} {xs : List X} {l : Lk} (h : mi e S = .ok (xs, l) S1) : s_for t mi body e S = forL t l body xs e S1 := by
  unfold s_for
  rw [h]
  rfl
theorem i_rng1_ok {ms : MG (List X)} {e : Ev} {S S1 : Sto} {n : Int} (h : ms e S = .ok [.d (.int n)] S1) (hs : smallI n = true) : i_rng1 ms e S = .ok (Bv.upTo 0 n.toNat, .free) S1 := by
  unfold i_rng1
  rw [h]
  have e1 : rng1X [.d (.int n)] = if smallI n then some (Bv.upTo 0 n.toNat, .free) else none := rfl
  show optR (rng1X [.d (.int n)]) S1 = _
  rw [e1, if_pos hs]
  rfl
theorem smallI_nat {n : Nat} (h : n < 1000) : smallI n = true := by
  unfold smallI
  simp
  omega
theorem s_seq_ok {m1 m2 : MS} {e e1 : Ev} {S S1 : Sto} (h : m1 e S = .go (.nx e1) S1) : s_seq m1 m2 e S = m2 e1 S1 := by
  unfold s_seq
  rw [h]
  rfl
theorem runE_nx {N : Nat} {mb : MS} {xs : List X} {S S1 T : Sto} {e : Ev} (h : mb (ev0 N xs) S = .go (.nx e) S1) (h2 : cut S.length S1 = some T) : runE N mb xs S = .ok (.d .non) T := by
  unfold runE
  rw [h]
  show (match keepX S.length S1 (X.d .non), cut S.length S1 with
    | some y, some T => R.ok y T
    | _, _ => R.ok (X.d .non) S1) = _
  rw [h2]
  rfl
theorem made_F {C : Str} {g : List X → Sto → R X} {xs : List X} {S S1 T : Sto} {d : D} (h : g (.r S.length :: xs) (S ++ [.ins C []]) = .ok (.d .non) S1) (h1 : frz S1 S.length = some d) (h2 : cut S.length S1 = some T) : made C mkF g xs S = .ok (.d d) T := by
  unfold made
  rw [h]
  show (match frz S1 S.length, cut S.length S1 with
    | some d, some T => R.ok (X.d d) T
    | _, _ => .bad) = _
  rw [h1, h2]
theorem runE_ok {N : Nat} {mb : MS} {xs : List X} {S S1 T : Sto} {x y : X} (h : mb (ev0 N xs) S = .go (.rt x) S1) (h1 : keepX S.length S1 x = some y) (h2 : cut S.length S1 = some T) : runE N mb xs S = .ok y T := by
  unfold runE
  rw [h]
  show (match keepX S.length S1 x, cut S.length S1 with
    | some y, some T => R.ok y T
    | _, _ => .ok x S1) = _
  rw [h1, h2]
/-- nothing of the store points out of it -/
def OkS (S : Sto) : Prop := S.all (okO S.length) = true
theorem OkS.cut0 {S : Sto} (h : OkS S) : cut S.length S = some S := by
  unfold cut
  rw [List.take_length, if_pos (show S.all (okO S.length) = true from h)]
theorem okX_mono {k j : Nat} (h : k ≤ j) {x : X} (a : okX k x = true) : okX j x = true := by
  cases x with
  | d _ => rfl
  | r n => exact decide_eq_true (Nat.lt_of_lt_of_le (of_decide_eq_true a) h)
theorem okO_mono {k j : Nat} (h : k ≤ j) {o : O} (a : okO k o = true) : okO j o = true := by
  cases o with
  | lst xs => exact List.all_eq_true.mpr fun x m => okX_mono h (List.all_eq_true.mp (show xs.all (okX k) = true from a) x m)
  | dic kvs => exact List.all_eq_true.mpr fun x m => okX_mono h (List.all_eq_true.mp (show (kvs.all fun p => okX k p.2) = true from a) x m)
  | fdc kvs => exact List.all_eq_true.mpr fun x m => okX_mono h (List.all_eq_true.mp (show (kvs.all fun p => okX k p.2) = true from a) x m)
  | tdc kvs => exact List.all_eq_true.mpr fun x m => okX_mono h (List.all_eq_true.mp (show (kvs.all fun p => okX k p.2) = true from a) x m)
  | ins C fs => exact List.all_eq_true.mpr fun x m => okX_mono h (List.all_eq_true.mp (show (fs.all fun p => okX k p.2) = true from a) x m)
theorem OkS.cut {S T : Sto} (h : OkS S) : Bv.cut S.length (S ++ T) = some S := by
  unfold Bv.cut
  rw [List.take_left, if_pos (show S.all (okO S.length) = true from h)]
theorem OkS.set {S : Sto} (h : OkS S) {b : Nat} {o : O} (ho : okO S.length o = true) : OkS (S.set b o) := by
  unfold OkS
  rw [List.length_set]
  refine List.all_eq_true.mpr fun x m => ?_
  rcases List.mem_or_eq_of_mem_set m with m | m
  · exact List.all_eq_true.mp h x m
  · rw [m]; exact ho
theorem OkS.push {S : Sto} (h : OkS S) {o : O} (ho : okO (S.length + 1) o = true) : OkS (S ++ [o]) := by
  unfold OkS
  refine List.all_eq_true.mpr fun x m => ?_
  rw [List.length_append, List.length_singleton]
  rcases List.mem_append.mp m with m | m
  · exact okO_mono (Nat.le_succ _) (List.all_eq_true.mp h x m)
  · rw [List.mem_singleton.mp m]; exact ho
theorem okS_nil : OkS [] := rfl
theorem mul_r {i j : Int} (h : -(2 ^ 64) < j ∧ j < 2 ^ 64) : mulD (.int i) (.int j) = some (.int (i * j)) := by
  show (if CMul i j then some (D.int (i * j)) else none) = _
  rw [if_pos (show CMul i j from .inr h)]
theorem mul_l {i j : Int} (h : -(2 ^ 64) < i ∧ i < 2 ^ 64) : mulD (.int i) (.int j) = some (.int (i * j)) := by
  show (if CMul i j then some (D.int (i * j)) else none) = _
  rw [if_pos (show CMul i j from .inl h)]
theorem mod_r {i j : Int} (h : 0 < j) : modD (.int i) (.int j) = some (.int (i % j)) := by
  show (if 0 < j then some (D.int (i % j)) else none) = _
  rw [if_pos h]
theorem fdiv_r {i j : Int} (h : 0 < j ∧ j < 1073741824) : fdivD (.int i) (.int j) = some (.int (i / j)) := by
  show (if CDiv i j then some (D.int (i / j)) else none) = _
  rw [if_pos (show CDiv i j from h)]
theorem add_r {i j : Int} : addD (.int i) (.int j) = some (.int (i + j)) := rfl
theorem sub_r {i j : Int} : subD (.int i) (.int j) = some (.int (i - j)) := rfl
theorem gt_r {i j : Int} : gtD (.int i) (.int j) = some (.bl (decide (j < i))) := rfl
theorem lt_r {i j : Int} : ltD (.int i) (.int j) = some (.bl (decide (i < j))) := rfl
theorem ge_r {i j : Int} : geD (.int i) (.int j) = some (.bl (decide (j ≤ i))) := rfl
theorem le_r {i j : Int} : leD (.int i) (.int j) = some (.bl (decide (i ≤ j))) := rfl
theorem eqv_str {a b : Str} : PyData.eqv (.str a) (.str b) = decide (a = b) := by
  rw [Bool.eq_iff_iff]
  simp [PyData.eqv]
theorem eqs_r {a b : Str} : eqD (.str a) (.str b) = some (.bl (decide (a = b))) := by
  have h : eqD (.str a) (.str b) = some (.bl (PyData.eqv (.str a) (.str b))) := rfl
  rw [h, eqv_str]
theorem nes_r {a b : Str} : neD (.str a) (.str b) = some (.bl (!decide (a = b))) := by
  have h : neD (.str a) (.str b) = some (.bl (!PyData.eqv (.str a) (.str b))) := rfl
  rw [h, eqv_str]
theorem eqi_r {i j : Int} : eqD (.int i) (.int j) = some (.bl (decide (i = j))) := by
  have h : eqD (.int i) (.int j) = some (.bl (i == j)) := by
    show some (D.bl (PyData.eqv (.int i) (.int j))) = _
    simp [PyData.eqv]
  rw [h]
  rfl
theorem get_d {v : D} {S : Sto} : (X.d v).get S = some v := rfl
theorem dsmap (l : List D) : ds? (l.map X.d) = some l := by
  induction l with
  | nil => rfl
  | cons d r ih => simp [ds?, ih]
theorem atI_in {α : Type} {l : List α} {i : Int} (h0 : 0 ≤ i) (h : i < l.length) : ∃ a, atI l i = some a ∧ a ∈ l := by
  have hn : i.toNat < l.length := by omega
  refine ⟨l[i.toNat], ?_, List.getElem_mem hn⟩
  unfold atI ixN
  rw [if_pos h0, if_pos h]
  simp [hn]
theorem lcL_map {α : Type} {t : Tg} {mt : MG Bool} {me : M} {e : Ev} {S : Sto} (x : α → X) (f : α → D) (c : α → Bool) : ∀ {l : List α}, (∀ a ∈ l, ∃ e1, t.asg S (x a) e = some e1 ∧ mt e1 S = .ok (c a) S ∧ (c a = true → me e1 S = .ok (.d (f a)) S)) → lcL t .free mt me e (l.map x) S = .ok ((l.filter c).map f) S
  | [], _ => by simp [lcL, Lk.ok]
  | a :: l, h => by
    obtain ⟨e1, h1, h2, h3⟩ := h a (by simp)
    have ih := lcL_map (t := t) (mt := mt) (me := me) (e := e) (S := S) x f c (l := l) fun b hb => h b (List.mem_cons_of_mem _ hb)
    cases hc : c a with
    | false => simp [lcL, Lk.ok, h1, h2, hc, R.ne, R.bind, ih]
    | true => simp [lcL, Lk.ok, h1, h2, hc, h3 hc, R.ne, R.bind, ih]
/-- a comprehension over data, without a test -/
theorem lc_all {α : Type} {t : Tg} {mi : MIt} {me : M} {vs : List Nat} {e : Ev} {S : Sto} (x : α → X) (f : α → D) {l : List α} (hi : mi e S = .ok (l.map x, .free) S) (hl : l.length ≤ sizeLine) (h : ∀ a ∈ l, ∃ e1, t.asg S (x a) (wipeE e vs) = some e1 ∧ me e1 S = .ok (.d (f a)) S) :
    m_lc t mi b_true me vs e S = .ok (.d (.lst (l.map f))) S := by
  have h1 := lcL_map (t := t) (mt := b_true) (me := me) (e := wipeE e vs) (S := S) x f (fun _ => true) (l := l) fun a ha => by
    obtain ⟨e1, q1, q2⟩ := h a ha
    exact ⟨e1, q1, rfl, fun _ => q2⟩
  have e0 : l.filter (fun _ => true) = l := List.filter_eq_self.mpr fun _ _ => rfl
  rw [e0] at h1
  unfold m_lc
  rw [hi]
  show (lcL t .free b_true me (wipeE e vs) (l.map x) S).bind finL = _
  rw [h1]
  show finL (l.map f) S = _
  unfold finL
  rw [if_pos (by rw [List.length_map]; exact hl)]
end Bv
set_option Elab.async false
set_option linter.all false
set_option maxRecDepth 100000
set_option maxHeartbeats 4000000
namespace Lw
open PySem PySem.Spec L2 Bv
open PyProof.Rows hiding St
def top (i : Nat) : Stmt := PySem.Challenge.pw_wordingkept_k04_texts_of_rows.main.body.getD i (.Pass ⟨0, 0, 0, 0⟩)
/-- what is known of the module's names and of the written part -/
structure Facts (K : PySem.W.Frag) (mg : Str → Option Value) : Prop where
  f_len : mg "len" = none
  f_min : mg "min" = none
  f_max : mg "max" = none
  f_range : mg "range" = none
  f_abs : mg "abs" = none
  f_int : mg "int" = none
  g__law_seed : mg "_law_seed" = some (.ref (He.ga K "_law_seed"))
  g__law_choose : mg "_law_choose" = some (.ref (He.ga K "_law_choose"))
  g__law_one_of : mg "_law_one_of" = some (.ref (He.ga K "_law_one_of"))
  f_list : mg "list" = none
  g__law_mixed : mg "_law_mixed" = some (.ref (He.ga K "_law_mixed"))
  g__law_marks : mg "_law_marks" = some (.ref (He.ga K "_law_marks"))
  g__law_row : mg "_law_row" = some (.ref (He.ga K "_law_row"))
  g__law_row_text : mg "_law_row_text" = some (.ref (He.ga K "_law_row_text"))
  f_isinstance : mg "isinstance" = none
  is_str : IsT K (.type "str") (tabOf "str") [("Row", false)]
  f_str : mg "str" = none
  v_HAPPENINGS : t_tup "HAPPENINGS" ["give", "carry", "drop", "back", "right", "wrong"] K = true
  g_HAPPENINGS : mg "HAPPENINGS" = some (.ref (He.ga K "HAPPENINGS"))
  g_is_word : mg "is_word" = some (.ref (He.ga K "is_word"))
  g_InvalidRow : mg "InvalidRow" = some (.ref (He.ga K "InvalidRow"))
  v_BARRED : t_tup "BARRED" ["any", "same", "take", "keep", "to"] K = true
  g_BARRED : mg "BARRED" = some (.ref (He.ga K "BARRED"))
  i_MOST_LETTERS : ∃ t, mg "MOST_LETTERS" = some (.int 5 t)
  s_LETTERS : ∃ t, mg "LETTERS" = some (.str "abcdefghijklmnopqrstuvwxyz" t)
  f_all : mg "all" = none
  g_is_name : mg "is_name" = some (.ref (He.ga K "is_name"))
  is_bool : IsT K (.type "bool") (tabOf "bool") [("Row", false)]
  f_bool : mg "bool" = none
  at_Row_word : AttrOk K ["Row"] "word"
  at_Row_old : AttrOk K ["Row"] "old"
  at_Row_then : AttrOk K ["Row"] "then"
  at_Row_take : AttrOk K ["Row"] "take"
  M_Row : Mk K (He.ga K "Row") (He.ma K (He.ga K "Row") "__init__")
  g_Row : mg "Row" = some (.ref (He.ga K "Row"))
  catch_InvalidText : Catch K (.ref (He.ga K "InvalidText")) [("InvalidRow", false), ("InvalidText", true)]
  isx_WordError : ∀ C b, ([("InvalidRow", true), ("InvalidText", true)] : List (Str × Bool)).lookup C = some b → ExcC K (He.ga K C) ∧ PySem.W.kitOne K (.ref (He.ga K C)) (.ref (He.ga K "WordError")) = some b
  g_WordError : mg "WordError" = some (.ref (He.ga K "WordError"))
  isx_InvalidRow : ∀ C b, ([("InvalidRow", true), ("InvalidText", false)] : List (Str × Bool)).lookup C = some b → ExcC K (He.ga K C) ∧ PySem.W.kitOne K (.ref (He.ga K C)) (.ref (He.ga K "InvalidRow")) = some b
  xf_at : ∀ C ∈ (["InvalidText"] : List Str), XfC K (He.ga K C) ∧ PySem.W.findIn K (.ref (He.ga K C)) "at" = some none
  v_TAKINGS : t_tup "TAKINGS" ["keep", "take"] K = true
  g_TAKINGS : mg "TAKINGS" = some (.ref (He.ga K "TAKINGS"))
  g_InvalidText : mg "InvalidText" = some (.ref (He.ga K "InvalidText"))
  catch_InvalidRow : Catch K (.ref (He.ga K "InvalidRow")) [("InvalidRow", true), ("InvalidText", false)]
  rs_InvalidRow : RsOk K [("InvalidRow", true), ("InvalidText", false)]
  cm_Row_read : ClsM K "Row" "read"
  str_Row : OwnStr K "Row" (He.ma K (He.ga K "Row") "__str__")
  g__law_read : mg "_law_read" = some (.ref (He.ga K "_law_read"))
  is_Row : IsT K (.ref (He.ga K "Row")) tabNone [("Row", true)]
  eq_Row : OwnEq K "Row" (He.ma K (He.ga K "Row") "__eq__")
  g__law_name : mg "_law_name" = some (.ref (He.ga K "_law_name"))
  g__law_is_row : mg "_law_is_row" = some (.ref (He.ga K "_law_is_row"))
  g_law : mg "law" = some (.ref (He.ga K "law"))
section
variable [HasW] {P : Program} {w : World} {K : PySem.W.Frag} {mg : Str → Option Value} {base : Heap} {f : Addr} {fd : FuncData} {dl : List V} (Fx : Facts K mg)
/-! ### _law_seed -/
abbrev st__law_seed : Stmt := top 16
def N__law_seed : List Str := ["_law_script", "_law_k", "_law_cell", "_law_great"]
theorem nd__law_seed : N__law_seed.Nodup := by decide +kernel
theorem sc__law_seed : FnScope N__law_seed ["_law_script", "_law_k"] (defScope st__law_seed) := ⟨rfl, rfl, rfl, nd__law_seed, rfl, by decide +kernel, by decide +kernel⟩
def b__law_seed : MS := s_seq (s_set 2 (m_op2 addD (m_op2 mulD (m_c (.int 7411)) (m_var 1)) (m_c (.int 37)))) (s_seq (s_if (m_tb (m_op2 ltD (m_var 1) (m_call lenF (m_cons (m_var 0) (m_nil))))) (s_set 2 (m_call (intsF absI) (m_cons (m_ix (m_var 0) (m_var 1)) (m_nil)))) (s_if (m_tb (m_op2 gtD (m_call lenF (m_cons (m_var 0) (m_nil))) (m_c (.int 0)))) (s_set 2 (m_op2 addD (m_var 2) (m_op2 mulD (m_op2 modD (m_call intF (m_cons (m_call (intsF absI) (m_cons (m_ix (m_var 0) (m_op2 modD (m_call intF (m_cons (m_var 1) (m_nil))) (m_call lenF (m_cons (m_var 0) (m_nil))))) (m_nil))) (m_nil))) (m_c (.int 2147483629))) (m_c (.int 50021))))) (s_nil))) (s_seq (s_set 3 (m_if (m_tb (m_op2 geD (m_var 2) (m_op2 powD (m_c (.int 10)) (m_c (.int 18))))) (m_var 2) (m_c (.int 0)))) (s_ret (m_lstN (m_cons (m_var 3) (m_cons (m_op2 addD (m_op2 modD (m_call intF (m_cons (m_op2 addD (m_op2 mulD (m_op2 modD (m_call intF (m_cons (m_var 2) (m_nil))) (m_c (.int 2147483629))) (m_c (.int 48271))) (m_op2 mulD (m_c (.int 31013)) (m_var 1))) (m_nil))) (m_c (.int 2147483629))) (m_c (.int 1))) (m_nil)))))))
def g__law_seed : List X → Sto → R X := runR 4 b__law_seed
include Fx in
theorem ok__law_seed  (F : FunD K "_law_seed" "_law_seed" (defArgs st__law_seed) (defBody st__law_seed) (defScope st__law_seed) dl [] f fd) : FnG P w K mg base 1 f fd ["_law_script", "_law_k"] (spE K 2 g__law_seed) := fnR F sc__law_seed fun cdv A outer s H E gu room => by
  have h : Here (cxB P w K mg base N__law_seed "_law_seed" (defScope st__law_seed) f cdv A outer s H E) (wxE E) 0 := here_of gu room
  unfold b__law_seed
  exact mps_cons (mp_set (i := 2) nd__law_seed rfl (by first | exact Or.inl rfl | exact Or.inr rfl) (e_op h.add (e_op h.mul (me_int) (me_var 1)) (me_int))) (mps_cons (mp_if (t_cmp h.lt (me_var 1) (me_bin c_len b_len rfl Fx.f_len (ma_cons (me_var 0) (ma_nil)))) (mps_one (mp_set (i := 2) nd__law_seed rfl (by first | exact Or.inl rfl | exact Or.inr rfl) (me_bin call_abs b_abs rfl Fx.f_abs (ma_cons (me_ix (me_var 0) (me_var 1)) (ma_nil))))) (mps_one (mp_if (t_cmp h.gt (me_bin c_len b_len rfl Fx.f_len (ma_cons (me_var 0) (ma_nil))) (me_int)) (mps_one (mp_set (i := 2) nd__law_seed rfl (by first | exact Or.inl rfl | exact Or.inr rfl) (e_op h.add (me_var 2) (e_op h.mul (e_op h.mod (me_bty call_int1 b_int rfl Fx.f_int (ma_cons (me_bin call_abs b_abs rfl Fx.f_abs (ma_cons (me_ix (me_var 0) (e_op h.mod (me_bty call_int1 b_int rfl Fx.f_int (ma_cons (me_var 1) (ma_nil))) (me_bin c_len b_len rfl Fx.f_len (ma_cons (me_var 0) (ma_nil))))) (ma_nil))) (ma_nil))) (me_int)) (me_int))))) (mps_nil)))) (mps_cons (mp_set (i := 3) nd__law_seed rfl (by first | exact Or.inl rfl | exact Or.inr rfl) (me_if (t_cmp h.ge (me_var 2) (e_op h.pow (me_int) (me_int))) (me_var 2) (me_int))) (mps_one (mp_ret (me_lstN (ma_cons (me_var 3) (ma_cons (e_op h.add (e_op h.mod (me_bty call_int1 b_int rfl Fx.f_int (ma_cons (e_op h.add (e_op h.mul (e_op h.mod (me_bty call_int1 b_int rfl Fx.f_int (ma_cons (me_var 2) (ma_nil))) (me_int)) (me_int)) (e_op h.mul (me_int) (me_var 1))) (ma_nil))) (me_int)) (me_int)) (ma_nil))))))))
/-! ### _law_choose -/
abbrev st__law_choose : Stmt := top 17
def N__law_choose : List Str := ["_law_box", "_law_many", "_law_raw", "_law_digit"]
theorem nd__law_choose : N__law_choose.Nodup := by decide +kernel
theorem sc__law_choose : FnScope N__law_choose ["_law_box", "_law_many"] (defScope st__law_choose) := ⟨rfl, rfl, rfl, nd__law_choose, rfl, by decide +kernel, by decide +kernel⟩
def b__law_choose : MS := s_seq (s_if (m_tb (m_op2 gtD (m_ix (m_var 0) (m_c (.int 0))) (m_c (.int 0)))) (s_seq (s_set 3 (m_op2 modD (m_call intF (m_cons (m_ix (m_var 0) (m_c (.int 0))) (m_nil))) (m_var 1))) (s_seq (s_sub (m_var 0) (m_c (.int 0)) (m_op2 fdivD (m_ix (m_var 0) (m_c (.int 0))) (m_var 1))) (s_ret (m_var 3)))) (s_nil)) (s_seq (s_set 2 (m_op2 modD (m_call intF (m_cons (m_op2 addD (m_op2 mulD (m_ix (m_var 0) (m_c (.int 1))) (m_c (.int 40014))) (m_c (.int 31))) (m_nil))) (m_c (.int 2147483563)))) (s_seq (s_sub (m_var 0) (m_c (.int 1)) (m_op2 addD (m_op2 modD (m_call intF (m_cons (m_op2 addD (m_op2 mulD (m_var 2) (m_c (.int 40692))) (m_c (.int 2777))) (m_nil))) (m_c (.int 2147483629))) (m_c (.int 1)))) (s_ret (m_op2 modD (m_call intF (m_cons (m_op2 fdivD (m_op2 addD (m_op2 mulD (m_var 2) (m_c (.int 2147483647))) (m_ix (m_var 0) (m_c (.int 1)))) (m_c (.int 8191))) (m_nil))) (m_var 1)))))
def g__law_choose : List X → Sto → R X := runE 4 b__law_choose
include Fx in
theorem ok__law_choose  (F : FunD K "_law_choose" "_law_choose" (defArgs st__law_choose) (defBody st__law_choose) (defScope st__law_choose) dl [] f fd) : FnG P w K mg base 1 f fd ["_law_box", "_law_many"] (spE K 2 g__law_choose) := fnE F sc__law_choose fun cdv A outer s H E gu room => by
  have h : Here (cxB P w K mg base N__law_choose "_law_choose" (defScope st__law_choose) f cdv A outer s H E) (wxE E) 0 := here_of gu room
  unfold b__law_choose
  exact mps_cons (mp_if (t_cmp h.gt (me_ix (me_var 0) (me_int)) (me_int)) (mps_cons (mp_set (i := 3) nd__law_choose rfl (by first | exact Or.inl rfl | exact Or.inr rfl) (e_op h.mod (me_bty call_int1 b_int rfl Fx.f_int (ma_cons (me_ix (me_var 0) (me_int)) (ma_nil))) (me_var 1))) (mps_cons (mp_sub (me_var 0) (me_int) (e_op h.fdiv (me_ix (me_var 0) (me_int)) (me_var 1))) (mps_one (mp_ret (me_var 3))))) (mps_nil)) (mps_cons (mp_set (i := 2) nd__law_choose rfl (by first | exact Or.inl rfl | exact Or.inr rfl) (e_op h.mod (me_bty call_int1 b_int rfl Fx.f_int (ma_cons (e_op h.add (e_op h.mul (me_ix (me_var 0) (me_int)) (me_int)) (me_int)) (ma_nil))) (me_int))) (mps_cons (mp_sub (me_var 0) (me_int) (e_op h.add (e_op h.mod (me_bty call_int1 b_int rfl Fx.f_int (ma_cons (e_op h.add (e_op h.mul (me_var 2) (me_int)) (me_int)) (ma_nil))) (me_int)) (me_int))) (mps_one (mp_ret (e_op h.mod (me_bty call_int1 b_int rfl Fx.f_int (ma_cons (e_op h.fdiv (e_op h.add (e_op h.mul (me_var 2) (me_int)) (me_ix (me_var 0) (me_int))) (me_int)) (ma_nil))) (me_var 1))))))
/-! ### _law_one_of -/
abbrev st__law_one_of : Stmt := top 18
def N__law_one_of : List Str := ["_law_box", "_law_some"]
theorem nd__law_one_of : N__law_one_of.Nodup := by decide +kernel
theorem sc__law_one_of : FnScope N__law_one_of ["_law_box", "_law_some"] (defScope st__law_one_of) := ⟨rfl, rfl, rfl, nd__law_one_of, rfl, by decide +kernel, by decide +kernel⟩
def b__law_one_of : MS := s_ret (m_ix (m_var 1) (m_call (arity 2 (withD [] g__law_choose)) (m_cons (m_var 0) (m_cons (m_call lenF (m_cons (m_var 1) (m_nil))) (m_nil)))))
def g__law_one_of : List X → Sto → R X := runE 2 b__law_one_of
include Fx in
theorem ok__law_one_of (K__law_choose : Kept P w K mg base 1 (He.ga K "_law_choose") (spE K 2 g__law_choose)) (F : FunD K "_law_one_of" "_law_one_of" (defArgs st__law_one_of) (defBody st__law_one_of) (defScope st__law_one_of) dl [] f fd) : FnG P w K mg base 2 f fd ["_law_box", "_law_some"] (spE K 2 g__law_one_of) := fnE F sc__law_one_of fun cdv A outer s H E gu room => by
  have h : Here (cxB P w K mg base N__law_one_of "_law_one_of" (defScope st__law_one_of) f cdv A outer s H E) (wxE E) 1 := here_of gu room
  unfold b__law_one_of
  exact mps_one (mp_ret (me_ix (me_var 1) (me_call (h.callE K__law_choose (by decide)) rfl Fx.g__law_choose K__law_choose.kp (ma_cons (me_var 0) (ma_cons (me_bin c_len b_len rfl Fx.f_len (ma_cons (me_var 1) (ma_nil))) (ma_nil))))))
/-! ### _law_row -/
abbrev st__law_row : Stmt := top 21
def N__law_row : List Str := ["_law_box", "_law_marks_here", "_law_word", "_law_old", "_law_take"]
theorem nd__law_row : N__law_row.Nodup := by decide +kernel
theorem sc__law_row : FnScope N__law_row ["_law_box", "_law_marks_here"] (defScope st__law_row) := ⟨rfl, rfl, rfl, nd__law_row, rfl, by decide +kernel, by decide +kernel⟩
def b__law_row : MS := s_seq (s_set 2 (m_call (arity 2 (withD [] g__law_one_of)) (m_cons (m_var 0) (m_cons (m_lst (m_cons (m_c (.str "give")) (m_cons (m_c (.str "give")) (m_cons (m_c (.str "carry")) (m_cons (m_c (.str "carry")) (m_cons (m_c (.str "drop")) (m_cons (m_c (.str "back")) (m_cons (m_c (.str "right")) (m_cons (m_c (.str "wrong")) (m_nil)))))))))) (m_nil))))) (s_seq (s_set 3 (m_call (arity 2 (withD [] g__law_one_of)) (m_cons (m_var 0) (m_cons (m_op2 addD (m_slice (m_var 1) (m_part (m_c (.int 1))) (m_no)) (m_lst (m_cons (m_c (.str "any")) (m_cons (m_c (.str "any")) (m_nil))))) (m_nil))))) (s_seq (s_if (m_andb (m_tb (m_op2 eqD (m_var 2) (m_c (.str "give")))) (m_tb (m_op2 eqD (m_call (arity 2 (withD [] g__law_choose)) (m_cons (m_var 0) (m_cons (m_c (.int 4)) (m_nil)))) (m_c (.int 0))))) (s_set 3 (m_ix (m_var 1) (m_c (.int 0)))) (s_nil)) (s_seq (s_set 4 (m_or (m_op2 neD (m_var 2) (m_c (.str "give"))) (m_op2 gtD (m_call (arity 2 (withD [] g__law_choose)) (m_cons (m_var 0) (m_cons (m_c (.int 4)) (m_nil)))) (m_c (.int 0))))) (s_ret (m_tup (m_cons (m_var 2) (m_cons (m_var 3) (m_cons (m_call (arity 2 (withD [] g__law_one_of)) (m_cons (m_var 0) (m_cons (m_op2 addD (m_var 1) (m_lst (m_cons (m_c (.str "same")) (m_nil)))) (m_nil)))) (m_cons (m_var 4) (m_nil))))))))))
def g__law_row : List X → Sto → R X := runE 5 b__law_row
include Fx in
theorem ok__law_row (K__law_one_of : Kept P w K mg base 2 (He.ga K "_law_one_of") (spE K 2 g__law_one_of)) (K__law_choose : Kept P w K mg base 1 (He.ga K "_law_choose") (spE K 2 g__law_choose)) (F : FunD K "_law_row" "_law_row" (defArgs st__law_row) (defBody st__law_row) (defScope st__law_row) dl [] f fd) : FnG P w K mg base 3 f fd ["_law_box", "_law_marks_here"] (spE K 2 g__law_row) := fnE F sc__law_row fun cdv A outer s H E gu room => by
  have h : Here (cxB P w K mg base N__law_row "_law_row" (defScope st__law_row) f cdv A outer s H E) (wxE E) 2 := here_of gu room
  unfold b__law_row
  exact mps_cons (mp_set (i := 2) nd__law_row rfl (by first | exact Or.inl rfl | exact Or.inr rfl) (me_call (h.callE K__law_one_of (by decide)) rfl Fx.g__law_one_of K__law_one_of.kp (ma_cons (me_var 0) (ma_cons (me_lst (ma_cons (me_str) (ma_cons (me_str) (ma_cons (me_str) (ma_cons (me_str) (ma_cons (me_str) (ma_cons (me_str) (ma_cons (me_str) (ma_cons (me_str) (ma_nil)))))))))) (ma_nil))))) (mps_cons (mp_set (i := 3) nd__law_row rfl (by first | exact Or.inl rfl | exact Or.inr rfl) (me_call (h.callE K__law_one_of (by decide)) rfl Fx.g__law_one_of K__law_one_of.kp (ma_cons (me_var 0) (ma_cons (e_op h.add (me_slice (me_var 1) (mo_some (me_int)) (mo_none)) (me_lst (ma_cons (me_str) (ma_cons (me_str) (ma_nil))))) (ma_nil))))) (mps_cons (mp_if (mt_w (mw_and (t_cmp h.eq (me_var 2) (me_str)) (mw_and1 (t_cmp h.eq (me_call (h.callE K__law_choose (by decide)) rfl Fx.g__law_choose K__law_choose.kp (ma_cons (me_var 0) (ma_cons (me_int) (ma_nil)))) (me_int))))) (mps_one (mp_set (i := 3) nd__law_row rfl (by first | exact Or.inl rfl | exact Or.inr rfl) (me_ix (me_var 1) (me_int)))) (mps_nil)) (mps_cons (mp_set (i := 4) nd__law_row rfl (by first | exact Or.inl rfl | exact Or.inr rfl) (me_or (e_cmp h.ne (me_var 2) (me_str)) (me_one (e_cmp h.gt (me_call (h.callE K__law_choose (by decide)) rfl Fx.g__law_choose K__law_choose.kp (ma_cons (me_var 0) (ma_cons (me_int) (ma_nil)))) (me_int))))) (mps_one (mp_ret (me_tup (ma_cons (me_var 2) (ma_cons (me_var 3) (ma_cons (me_call (h.callE K__law_one_of (by decide)) rfl Fx.g__law_one_of K__law_one_of.kp (ma_cons (me_var 0) (ma_cons (e_op h.add (me_var 1) (me_lst (ma_cons (me_str) (ma_nil)))) (ma_nil)))) (ma_cons (me_var 4) (ma_nil)))))))))))
/-! ### _law_mixed -/
abbrev st__law_mixed : Stmt := top 19
def N__law_mixed : List Str := ["_law_box", "_law_some", "_law_left", "_law_found", "_law_turn"]
theorem nd__law_mixed : N__law_mixed.Nodup := by decide +kernel
theorem sc__law_mixed : FnScope N__law_mixed ["_law_box", "_law_some"] (defScope st__law_mixed) := ⟨rfl, rfl, rfl, nd__law_mixed, rfl, by decide +kernel, by decide +kernel⟩
def b__law_mixed : MS := s_seq (s_par 2 3 (m_cons (m_call listN (m_cons (m_var 1) (m_nil))) (m_cons (m_lstN (m_nil)) (m_nil)))) (s_seq (s_for (.nm 4) (i_rng1 (m_cons (m_call lenF (m_cons (m_var 1) (m_nil))) (m_nil))) (s_expr (m_bm isLst g_append (m_var 3) (m_cons (m_bm isLst g_popAt (m_var 2) (m_cons (m_call (arity 2 (withD [] g__law_choose)) (m_cons (m_var 0) (m_cons (m_call lenF (m_cons (m_var 2) (m_nil))) (m_nil)))) (m_nil))) (m_nil))))) (s_ret (m_var 3)))
def g__law_mixed : List X → Sto → R X := runE 5 b__law_mixed
include Fx in
theorem ok__law_mixed (K__law_choose : Kept P w K mg base 1 (He.ga K "_law_choose") (spE K 2 g__law_choose)) (F : FunD K "_law_mixed" "_law_mixed" (defArgs st__law_mixed) (defBody st__law_mixed) (defScope st__law_mixed) dl [] f fd) : FnG P w K mg base 2 f fd ["_law_box", "_law_some"] (spE K 2 g__law_mixed) := fnE F sc__law_mixed fun cdv A outer s H E gu room => by
  have h : Here (cxB P w K mg base N__law_mixed "_law_mixed" (defScope st__law_mixed) f cdv A outer s H E) (wxE E) 1 := here_of gu room
  unfold b__law_mixed
  exact mps_cons (mp_par rfl nd__law_mixed (i := 2) (j := 3) rfl rfl (by decide) rfl rfl (ma_cons (me_bty call_list_of b_listN rfl Fx.f_list (ma_cons (me_var 1) (ma_nil))) (ma_cons (me_lstN (ma_nil)) (ma_nil)))) (mps_cons (mp_for own_of rfl (mi_rng1 rfl Fx.f_range (ma_cons (me_bin c_len b_len rfl Fx.f_len (ma_cons (me_var 1) (ma_nil))) (ma_nil))) (mg_name (i := 4) nd__law_mixed rfl (by first | exact Or.inl rfl | exact Or.inr rfl)) (mps_one (mp_expr (me_lm PySem.F.slot_list_append PySem.F.type_list_append mt_append b_append (me_var 3) (ma_cons (me_lm PySem.F.slot_list_pop PySem.F.type_list_pop mt_popAt b_popAt (me_var 2) (ma_cons (me_call (h.callE K__law_choose (by decide)) rfl Fx.g__law_choose K__law_choose.kp (ma_cons (me_var 0) (ma_cons (me_bin c_len b_len rfl Fx.f_len (ma_cons (me_var 2) (ma_nil))) (ma_nil)))) (ma_nil))) (ma_nil)))))) (mps_one (mp_ret (me_var 3))))
/-! ### _law_marks -/
abbrev st__law_marks : Stmt := top 20
def N__law_marks : List Str := ["_law_box", "_law_some"]
theorem nd__law_marks : N__law_marks.Nodup := by decide +kernel
theorem sc__law_marks : FnScope N__law_marks ["_law_box"] (defScope st__law_marks) := ⟨rfl, rfl, rfl, nd__law_marks, rfl, by decide +kernel, by decide +kernel⟩
def b__law_marks : MS := s_seq (s_set 1 (m_lst (m_cons (m_c (.str "none")) (m_cons (m_c (.str "doubt")) (m_cons (m_c (.str "good")) (m_cons (m_c (.str "old")) (m_cons (m_c (.str "a")) (m_cons (m_c (.str "ab")) (m_cons (m_c (.str "bad")) (m_cons (m_c (.str "zzzzz")) (m_cons (m_c (.str "give")) (m_cons (m_c (.str "marks")) (m_cons (m_c (.str "shown")) (m_cons (m_c (.str "kept")) (m_nil))))))))))))))) (s_ret (m_slice (m_call (arity 2 (withD [] g__law_mixed)) (m_cons (m_var 0) (m_cons (m_var 1) (m_nil)))) (m_no) (m_part (m_op2 addD (m_c (.int 2)) (m_call (arity 2 (withD [] g__law_choose)) (m_cons (m_var 0) (m_cons (m_c (.int 3)) (m_nil))))))))
def g__law_marks : List X → Sto → R X := runE 2 b__law_marks
include Fx in
theorem ok__law_marks (K__law_mixed : Kept P w K mg base 2 (He.ga K "_law_mixed") (spE K 2 g__law_mixed)) (K__law_choose : Kept P w K mg base 1 (He.ga K "_law_choose") (spE K 2 g__law_choose)) (F : FunD K "_law_marks" "_law_marks" (defArgs st__law_marks) (defBody st__law_marks) (defScope st__law_marks) dl [] f fd) : FnG P w K mg base 3 f fd ["_law_box"] (spE K 1 g__law_marks) := fnE F sc__law_marks fun cdv A outer s H E gu room => by
  have h : Here (cxB P w K mg base N__law_marks "_law_marks" (defScope st__law_marks) f cdv A outer s H E) (wxE E) 2 := here_of gu room
  unfold b__law_marks
  exact mps_cons (mp_set (i := 1) nd__law_marks rfl (by first | exact Or.inl rfl | exact Or.inr rfl) (me_lst (ma_cons (me_str) (ma_cons (me_str) (ma_cons (me_str) (ma_cons (me_str) (ma_cons (me_str) (ma_cons (me_str) (ma_cons (me_str) (ma_cons (me_str) (ma_cons (me_str) (ma_cons (me_str) (ma_cons (me_str) (ma_cons (me_str) (ma_nil))))))))))))))) (mps_one (mp_ret (me_slice (me_call (h.callE K__law_mixed (by decide)) rfl Fx.g__law_mixed K__law_mixed.kp (ma_cons (me_var 0) (ma_cons (me_var 1) (ma_nil)))) (mo_none) (mo_some (e_op h.add (me_int) (me_call (h.callE K__law_choose (by decide)) rfl Fx.g__law_choose K__law_choose.kp (ma_cons (me_var 0) (ma_cons (me_int) (ma_nil)))))))))
/-! ### _law_row_text -/
abbrev st__law_row_text : Stmt := top 23
def N__law_row_text : List Str := ["_law_row_here", "_law_words"]
theorem nd__law_row_text : N__law_row_text.Nodup := by decide +kernel
theorem sc__law_row_text : FnScope N__law_row_text ["_law_row_here"] (defScope st__law_row_text) := ⟨rfl, rfl, rfl, nd__law_row_text, rfl, by decide +kernel, by decide +kernel⟩
def b__law_row_text : MS := s_seq (s_set 1 (m_op2 addD (m_lst (m_cons (m_ix (m_var 0) (m_c (.int 0))) (m_cons (m_ix (m_var 0) (m_c (.int 1))) (m_nil)))) (m_if (m_tb (m_op2 eqD (m_ix (m_var 0) (m_c (.int 0))) (m_c (.str "give")))) (m_lst (m_cons (m_if (m_truth (m_ix (m_var 0) (m_c (.int 3)))) (m_c (.str "take")) (m_c (.str "keep"))) (m_nil))) (m_lst (m_nil))))) (s_retP (m_sm1 g_join (m_c (.str " ")) (m_op2 addD (m_var 1) (m_lst (m_cons (m_c (.str "to")) (m_cons (m_ix (m_var 0) (m_c (.int 2))) (m_nil)))))))
def g__law_row_text : List D → PR := runP 2 b__law_row_text
include Fx in
theorem ok__law_row_text  (F : FunD K "_law_row_text" "_law_row_text" (defArgs st__law_row_text) (defBody st__law_row_text) (defScope st__law_row_text) dl [] f fd) : FnG P w K mg base 1 f fd ["_law_row_here"] (spP K 1 g__law_row_text) := fnP F sc__law_row_text fun cdv A outer s H E gu room => by
  have h : Here (cxB P w K mg base N__law_row_text "_law_row_text" (defScope st__law_row_text) f cdv A outer s H E) (wxE E) 0 := here_of gu room
  unfold b__law_row_text
  exact mps_cons (mp_set (i := 1) nd__law_row_text rfl (by first | exact Or.inl rfl | exact Or.inr rfl) (e_op h.add (me_lst (ma_cons (me_ix (me_var 0) (me_int)) (ma_cons (me_ix (me_var 0) (me_int)) (ma_nil)))) (me_if (t_cmp h.eq (me_ix (me_var 0) (me_int)) (me_str)) (me_lst (ma_cons (me_if (mt_truth (me_ix (me_var 0) (me_int))) (me_str) (me_str)) (ma_nil))) (me_lst (ma_nil))))) (mps_one (mp_retP (me_join (me_str) (e_op h.add (me_var 1) (me_lst (ma_cons (me_str) (ma_cons (me_ix (me_var 0) (me_int)) (ma_nil))))))))
/-! ### is_word -/
abbrev st_is_word : Stmt := top 11
def N_is_word : List Str := ["value", "words"]
theorem nd_is_word : N_is_word.Nodup := by decide +kernel
theorem sc_is_word : FnScope N_is_word ["value", "words"] (defScope st_is_word) := ⟨rfl, rfl, rfl, nd_is_word, rfl, by decide +kernel, by decide +kernel⟩
def b_is_word : MS := s_retP (m_and (m_isi (tabOf "str") [("Row", false)] (m_var 0)) (m_op2 inD (m_var 0) (m_var 1)))
def g_is_word : List D → PR := runP 2 b_is_word
include Fx in
theorem ok_is_word  (F : FunD K "is_word" "is_word" (defArgs st_is_word) (defBody st_is_word) (defScope st_is_word) dl [] f fd) : FnG P w K mg base 1 f fd ["value", "words"] (spP K 2 g_is_word) := fnP F sc_is_word fun cdv A outer s H E gu room => by
  have h : Here (cxB P w K mg base N_is_word "is_word" (defScope st_is_word) f cdv A outer s H E) (wxE E) 0 := here_of gu room
  unfold b_is_word
  exact mps_one (mp_retP (me_and (me_isi rfl Fx.f_isinstance (me_var 0) (p_ty rfl Fx.f_str) Fx.is_str (.ty _)) (me_one (e_cmp h.in_ (me_var 0) (me_var 1)))))
/-! ### is_name -/
abbrev st_is_name : Stmt := top 10
def N_is_name : List Str := ["value", "sign"]
theorem nd_is_name : N_is_name.Nodup := by decide +kernel
theorem sc_is_name : FnScope N_is_name ["value"] (defScope st_is_name) := ⟨rfl, rfl, rfl, nd_is_name, rfl, by decide +kernel, by decide +kernel⟩
def b_is_name : MS := s_seq (s_if (m_orb (m_notb (m_truth (m_isi (tabOf "str") [("Row", false)] (m_var 0)))) (m_orb (m_tb (m_op2 inD (m_var 0) (m_c (.tup ((["any", "same", "take", "keep", "to"] : List Str).map D.str))))) (m_notb (m_tb (m_chain leD leD (m_c (.int 1)) (m_call lenF (m_cons (m_var 0) (m_nil))) (m_c (.int 5))))))) (s_retP (m_c (.bl false))) (s_nil)) (s_retP (m_call (blsF fun l => l.all id) (m_cons (m_lc (.nm 1) (i_val (m_var 0)) (b_true) (m_op2 inD (m_var 1) (m_c (.str "abcdefghijklmnopqrstuvwxyz"))) [1]) (m_nil))))
def g_is_name : List D → PR := runP 2 b_is_name
include Fx in
theorem ok_is_name  (F : FunD K "is_name" "is_name" (defArgs st_is_name) (defBody st_is_name) (defScope st_is_name) dl [] f fd) : FnG P w K mg base 1 f fd ["value"] (spP K 1 g_is_name) := fnP F sc_is_name fun cdv A outer s H E gu room => by
  have h : Here (cxB P w K mg base N_is_name "is_name" (defScope st_is_name) f cdv A outer s H E) (wxE E) 0 := here_of gu room
  unfold b_is_name
  exact mps_cons (mp_if (mt_w (mw_or (mt_not (mt_truth (me_isi rfl Fx.f_isinstance (me_var 0) (p_ty rfl Fx.f_str) Fx.is_str (.ty _)))) (mw_or (t_cmp h.in_ (me_var 0) (e_gtup rfl Fx.g_BARRED Fx.v_BARRED)) (mw_or1 (mt_not (t_chain h.le h.le (me_int) (me_bin c_len b_len rfl Fx.f_len (ma_cons (me_var 0) (ma_nil))) (e_gint rfl Fx.i_MOST_LETTERS))))))) (mps_one (mp_retP (me_bl))) (mps_nil)) (mps_one (mp_retP (me_bin (cr_all rfl) b_all rfl Fx.f_all (ma_cons (me_lc (own := [("sign", 1)]) (t := (.nm 1)) rfl nd_is_name (mi_val (me_var 0)) (blkOk_by (N := N_is_name) (sc := defScope st_is_name) (by decide +kernel)) (by decide) (fun _ _ _ _ _ => mg_name (i := 1) nd_is_name rfl (by first | exact Or.inl rfl | exact Or.inr rfl)) (fun _ _ _ _ _ => mts_nil) (fun _ _ _ _ _ => e_cmp (h.blk _ _ _ _ _).in_ (me_var 1) (e_gstr rfl Fx.s_LETTERS))) (ma_nil)))))
/-! ### Row.__init__ -/
abbrev st_Row_init : Stmt := inClass (top 14) 0
def N_Row_init : List Str := ["self", "word", "old", "then", "take"]
theorem nd_Row_init : N_Row_init.Nodup := by decide +kernel
theorem sc_Row_init : FnScope N_Row_init ["self", "word", "old", "then", "take"] (defScope st_Row_init) := ⟨rfl, rfl, rfl, nd_Row_init, rfl, by decide +kernel, by decide +kernel⟩
def b_Row_init : MS := s_seq (s_if (m_notb (m_truth (m_call (arity 2 (withD [] (callP g_is_word))) (m_cons (m_var 1) (m_cons (m_c (.tup ((["give", "carry", "drop", "back", "right", "wrong"] : List Str).map D.str))) (m_nil)))))) (s_raise "InvalidRow" "word" (m_cons (m_c (.str "word")) (m_nil))) (s_nil)) (s_seq (s_if (m_andb (m_tb (m_op2 neD (m_var 2) (m_c (.str "any")))) (m_notb (m_truth (m_call (arity 1 (withD [] (callP g_is_name))) (m_cons (m_var 2) (m_nil)))))) (s_raise "InvalidRow" "word" (m_cons (m_c (.str "old")) (m_nil))) (s_nil)) (s_seq (s_if (m_andb (m_tb (m_op2 neD (m_var 3) (m_c (.str "same")))) (m_notb (m_truth (m_call (arity 1 (withD [] (callP g_is_name))) (m_cons (m_var 3) (m_nil)))))) (s_raise "InvalidRow" "word" (m_cons (m_c (.str "then")) (m_nil))) (s_nil)) (s_seq (s_if (m_orb (m_notb (m_truth (m_isi (tabOf "bool") [("Row", false)] (m_var 4)))) (m_andb (m_tb (m_op2 neD (m_var 1) (m_c (.str "give")))) (m_notb (m_truth (m_var 4))))) (s_raise "InvalidRow" "word" (m_cons (m_c (.str "take")) (m_nil))) (s_nil)) (s_seq (s_fld ["Row"] "word" (m_var 0) (m_var 1)) (s_seq (s_fld ["Row"] "old" (m_var 0) (m_var 2)) (s_seq (s_fld ["Row"] "then" (m_var 0) (m_var 3)) (s_fld ["Row"] "take" (m_var 0) (m_var 4))))))))
def g_Row_init : List X → Sto → R X := runE 5 b_Row_init
include Fx in
theorem ok_Row_init (X_InvalidRow : Xe.ErrOk P K (He.ga K "InvalidRow") (inAd "InvalidRow" K) "word") (K_is_word : Kept P w K mg base 1 (He.ga K "is_word") (spP K 2 g_is_word)) (K_is_name : Kept P w K mg base 1 (He.ga K "is_name") (spP K 1 g_is_name)) (F : FunD K "__init__" "Row.__init__" (defArgs st_Row_init) (defBody st_Row_init) (defScope st_Row_init) dl [] f fd) : FnG P w K mg base 2 f fd ["self", "word", "old", "then", "take"] (spE K 5 g_Row_init) := fnE F sc_Row_init fun cdv A outer s H E gu room => by
  have h : Here (cxB P w K mg base N_Row_init "Row.__init__" (defScope st_Row_init) f cdv A outer s H E) (wxE E) 1 := here_of gu room
  unfold b_Row_init
  exact mps_cons (mp_if (mt_not (mt_truth (me_call (h.callP K_is_word (by decide)) rfl Fx.g_is_word K_is_word.kp (ma_cons (me_var 1) (ma_cons (e_gtup rfl Fx.g_HAPPENINGS Fx.v_HAPPENINGS) (ma_nil)))))) (mps_one (mp_raise rfl h X_InvalidRow Fx.g_InvalidRow rfl (ma_cons (me_str) (ma_nil)))) (mps_nil)) (mps_cons (mp_if (mt_w (mw_and (t_cmp h.ne (me_var 2) (me_str)) (mw_and1 (mt_not (mt_truth (me_call (h.callP K_is_name (by decide)) rfl Fx.g_is_name K_is_name.kp (ma_cons (me_var 2) (ma_nil)))))))) (mps_one (mp_raise rfl h X_InvalidRow Fx.g_InvalidRow rfl (ma_cons (me_str) (ma_nil)))) (mps_nil)) (mps_cons (mp_if (mt_w (mw_and (t_cmp h.ne (me_var 3) (me_str)) (mw_and1 (mt_not (mt_truth (me_call (h.callP K_is_name (by decide)) rfl Fx.g_is_name K_is_name.kp (ma_cons (me_var 3) (ma_nil)))))))) (mps_one (mp_raise rfl h X_InvalidRow Fx.g_InvalidRow rfl (ma_cons (me_str) (ma_nil)))) (mps_nil)) (mps_cons (mp_if (mt_w (mw_or (mt_not (mt_truth (me_isi rfl Fx.f_isinstance (me_var 4) (p_ty rfl Fx.f_bool) Fx.is_bool (.ty _)))) (mw_or1 (mt_w (mw_and (t_cmp h.ne (me_var 1) (me_str)) (mw_and1 (mt_not (mt_truth (me_var 4))))))))) (mps_one (mp_raise rfl h X_InvalidRow Fx.g_InvalidRow rfl (ma_cons (me_str) (ma_nil)))) (mps_nil)) (mps_cons (mp_fld ["Row"] Fx.at_Row_word (me_var 0) (me_var 1)) (mps_cons (mp_fld ["Row"] Fx.at_Row_old (me_var 0) (me_var 2)) (mps_cons (mp_fld ["Row"] Fx.at_Row_then (me_var 0) (me_var 3)) (mps_one (mp_fld ["Row"] Fx.at_Row_take (me_var 0) (me_var 4)))))))))
/-! ### Row.read -/
abbrev st_Row_read : Stmt := inClass (top 14) 1
def N_Row_read : List Str := ["cls", "text", "words", "take", "error"]
theorem nd_Row_read : N_Row_read.Nodup := by decide +kernel
theorem sc_Row_read : FnScope N_Row_read ["cls", "text"] (defScope st_Row_read) := ⟨rfl, rfl, rfl, nd_Row_read, rfl, by decide +kernel, by decide +kernel⟩
def b_Row_read : MS := s_seq (s_set 2 (m_sm1 g_split (m_var 1) (m_c (.str " ")))) (s_seq (s_set 3 (m_c (.bl true))) (s_seq (s_if (m_andb (m_tb (m_op2 eqD (m_ix (m_var 2) (m_c (.int 0))) (m_c (.str "give")))) (m_andb (m_tb (m_op2 eqD (m_call lenF (m_cons (m_var 2) (m_nil))) (m_c (.int 5)))) (m_tb (m_op2 inD (m_ix (m_var 2) (m_c (.int 2))) (m_c (.tup ((["keep", "take"] : List Str).map D.str))))))) (s_seq (s_set 3 (m_op2 eqD (m_ix (m_var 2) (m_c (.int 2))) (m_c (.str "take")))) (s_set 2 (m_lst (m_star (m_slice (m_var 2) (m_no) (m_part (m_c (.int 2)))) (m_star (m_slice (m_var 2) (m_part (m_c (.int 3))) (m_no)) (m_nil)))))) (s_if (m_tb (m_op2 eqD (m_ix (m_var 2) (m_c (.int 0))) (m_c (.str "give")))) (s_raise "InvalidText" "at" (m_cons (m_c (.int 0)) (m_nil))) (s_nil))) (s_seq (s_if (m_orb (m_tb (m_op2 neD (m_call lenF (m_cons (m_var 2) (m_nil))) (m_c (.int 4)))) (m_tb (m_op2 neD (m_ix (m_var 2) (m_c (.int 2))) (m_c (.str "to"))))) (s_raise "InvalidText" "at" (m_cons (m_c (.int 0)) (m_nil))) (s_nil)) (s_tryX [("InvalidRow", true), ("InvalidText", false)] (s_retP (m_callV 0 "Row" (arity 4 (withD [] (made "Row" mkF g_Row_init))) (m_cons (m_ix (m_var 2) (m_c (.int 0))) (m_cons (m_ix (m_var 2) (m_c (.int 1))) (m_cons (m_ix (m_var 2) (m_c (.int 3))) (m_cons (m_var 3) (m_nil))))))) 4 "InvalidText" "at" (fun lv => x_c (.int 0))))))
def g_Row_read : List D → PR := runP 5 b_Row_read
include Fx in
theorem ok_Row_read (X_InvalidText : Xe.ErrOk P K (He.ga K "InvalidText") (inAd "InvalidText" K) "at") (K_Row_init : Kept P w K mg base 2 (He.ma K (He.ga K "Row") "__init__") (spE K 5 g_Row_init)) (F : FunD K "read" "Row.read" (defArgs st_Row_read) (defBody st_Row_read) (defScope st_Row_read) dl [] f fd) : FnG P w K mg base 4 f fd ["cls", "text"] (spP K 2 g_Row_read) := fnP F sc_Row_read fun cdv A outer s H E gu room => by
  have h : Here (cxB P w K mg base N_Row_read "Row.read" (defScope st_Row_read) f cdv A outer s H E) (wxE E) 3 := here_of gu room
  unfold b_Row_read
  exact mps_cons (mp_set (i := 2) nd_Row_read rfl (by first | exact Or.inl rfl | exact Or.inr rfl) (me_split (me_var 1) (me_str))) (mps_cons (mp_set (i := 3) nd_Row_read rfl (by first | exact Or.inl rfl | exact Or.inr rfl) (me_bl)) (mps_cons (mp_if (mt_w (mw_and (t_cmp h.eq (me_ix (me_var 2) (me_int)) (me_str)) (mw_and (t_cmp h.eq (me_bin c_len b_len rfl Fx.f_len (ma_cons (me_var 2) (ma_nil))) (me_int)) (mw_and1 (t_cmp h.in_ (me_ix (me_var 2) (me_int)) (e_gtup rfl Fx.g_TAKINGS Fx.v_TAKINGS)))))) (mps_cons (mp_set (i := 3) nd_Row_read rfl (by first | exact Or.inl rfl | exact Or.inr rfl) (e_cmp h.eq (me_ix (me_var 2) (me_int)) (me_str))) (mps_one (mp_set (i := 2) nd_Row_read rfl (by first | exact Or.inl rfl | exact Or.inr rfl) (me_lst (ma_star (me_slice (me_var 2) (mo_none) (mo_some (me_int))) (ma_star (me_slice (me_var 2) (mo_some (me_int)) (mo_none)) (ma_nil))))))) (mps_one (mp_if (t_cmp h.eq (me_ix (me_var 2) (me_int)) (me_str)) (mps_one (mp_raise rfl h X_InvalidText Fx.g_InvalidText rfl (ma_cons (me_int) (ma_nil)))) (mps_nil)))) (mps_cons (mp_if (mt_w (mw_or (t_cmp h.ne (me_bin c_len b_len rfl Fx.f_len (ma_cons (me_var 2) (ma_nil))) (me_int)) (mw_or1 (t_cmp h.ne (me_ix (me_var 2) (me_int)) (me_str))))) (mps_one (mp_raise rfl h X_InvalidText Fx.g_InvalidText rfl (ma_cons (me_int) (ma_nil)))) (mps_nil)) (mps_one (mp_tryX h rfl rfl nd_Row_read rfl rfl ⟨rfl, by decide, .inl Fx.g_InvalidRow⟩ Fx.catch_InvalidRow Fx.rs_InvalidRow.at ownAt_of (fun W pn xe h => mps_one (mp_retP (me_callV 0 (h.make mks_F (n := 4) Fx.M_Row K_Row_init (by decide)) Fx.M_Row.kp (ma_cons (me_ix (me_var 2) (me_int)) (ma_cons (me_ix (me_var 2) (me_int)) (ma_cons (me_ix (me_var 2) (me_int)) (ma_cons (me_var 3) (ma_nil)))))))) X_InvalidText Fx.g_InvalidText rfl (fun lv => se_int))))))
/-! ### Row.__str__ -/
abbrev st_Row_str : Stmt := inClass (top 14) 5
def N_Row_str : List Str := ["self", "words"]
theorem nd_Row_str : N_Row_str.Nodup := by decide +kernel
theorem sc_Row_str : FnScope N_Row_str ["self"] (defScope st_Row_str) := ⟨rfl, rfl, rfl, nd_Row_str, rfl, by decide +kernel, by decide +kernel⟩
def b_Row_str : MS := s_seq (s_set 1 (m_lstN (m_cons (m_attr ["Row"] "word" (m_var 0)) (m_cons (m_attr ["Row"] "old" (m_var 0)) (m_nil))))) (s_seq (s_if (m_tb (m_op2 eqD (m_attr ["Row"] "word" (m_var 0)) (m_c (.str "give")))) (s_expr (m_bm isLst g_append (m_var 1) (m_cons (m_ix (m_c (.tup ((["keep", "take"] : List Str).map D.str))) (m_call intF (m_cons (m_attr ["Row"] "take" (m_var 0)) (m_nil)))) (m_nil)))) (s_nil)) (s_retP (m_sm1 g_join (m_c (.str " ")) (m_lst (m_star (m_var 1) (m_cons (m_c (.str "to")) (m_cons (m_attr ["Row"] "then" (m_var 0)) (m_nil))))))))
def g_Row_str : List D → PR := runP 2 b_Row_str
include Fx in
theorem ok_Row_str  (F : FunD K "__str__" "Row.__str__" (defArgs st_Row_str) (defBody st_Row_str) (defScope st_Row_str) dl [] f fd) : FnG P w K mg base 1 f fd ["self"] (spP K 1 g_Row_str) := fnP F sc_Row_str fun cdv A outer s H E gu room => by
  have h : Here (cxB P w K mg base N_Row_str "Row.__str__" (defScope st_Row_str) f cdv A outer s H E) (wxE E) 0 := here_of gu room
  unfold b_Row_str
  exact mps_cons (mp_set (i := 1) nd_Row_str rfl (by first | exact Or.inl rfl | exact Or.inr rfl) (me_lstN (ma_cons (me_attr ["Row"] Fx.at_Row_word (me_var 0)) (ma_cons (me_attr ["Row"] Fx.at_Row_old (me_var 0)) (ma_nil))))) (mps_cons (mp_if (t_cmp h.eq (me_attr ["Row"] Fx.at_Row_word (me_var 0)) (me_str)) (mps_one (mp_expr (me_lm PySem.F.slot_list_append PySem.F.type_list_append mt_append b_append (me_var 1) (ma_cons (me_ix (e_gtup rfl Fx.g_TAKINGS Fx.v_TAKINGS) (me_bty call_int1 b_int rfl Fx.f_int (ma_cons (me_attr ["Row"] Fx.at_Row_take (me_var 0)) (ma_nil)))) (ma_nil))))) (mps_nil)) (mps_one (mp_retP (me_join (me_str) (me_lst (ma_star (me_var 1) (ma_cons (me_str) (ma_cons (me_attr ["Row"] Fx.at_Row_then (me_var 0)) (ma_nil)))))))))
/-! ### _law_read -/
abbrev st__law_read : Stmt := top 27
def N__law_read : List Str := ["_law_text", "_law_found", "e"]
theorem nd__law_read : N__law_read.Nodup := by decide +kernel
theorem sc__law_read : FnScope N__law_read ["_law_text"] (defScope st__law_read) := ⟨rfl, rfl, rfl, nd__law_read, rfl, by decide +kernel, by decide +kernel⟩
def b__law_read : MS := s_seq (s_set 1 (m_c .non)) (s_seq (s_tryAs [("InvalidRow", false), ("InvalidText", true)] (s_set 1 (m_call (g_strO "Row" g_Row_str) (m_cons (m_cmeth "Row" (arity 2 (withD [] (callP g_Row_read))) (m_c (.gl "Row")) (m_cons (m_var 0) (m_nil))) (m_nil)))) 2 1 (x_tup (x_cons (x_fld ["InvalidText"] "at") (x_cons (x_and (x_isi [("InvalidRow", true), ("InvalidText", true)]) (x_not (x_isi [("InvalidRow", true), ("InvalidText", false)]))) (x_nil))))) (s_retP (m_var 1)))
def g__law_read : List D → PR := runP 3 b__law_read
include Fx in
theorem ok__law_read (K_Row_read : Kept P w K mg base 4 (cmAd "Row" "read" K) (spP K 2 g_Row_read)) (K_Row_str : Kept P w K mg base 1 (He.ma K (He.ga K "Row") "__str__") (spP K 1 g_Row_str)) (F : FunD K "_law_read" "_law_read" (defArgs st__law_read) (defBody st__law_read) (defScope st__law_read) dl [] f fd) : FnG P w K mg base 5 f fd ["_law_text"] (spP K 1 g__law_read) := fnP F sc__law_read fun cdv A outer s H E gu room => by
  have h : Here (cxB P w K mg base N__law_read "_law_read" (defScope st__law_read) f cdv A outer s H E) (wxE E) 4 := here_of gu room
  unfold b__law_read
  exact mps_cons (mp_set (i := 1) nd__law_read rfl (by first | exact Or.inl rfl | exact Or.inr rfl) (me_non)) (mps_cons (mp_tryAs h rfl rfl nd__law_read rfl rfl rfl (by first | exact Or.inl rfl | exact Or.inr rfl) (by decide) ⟨rfl, by decide, .inl Fx.g_InvalidText⟩ Fx.catch_InvalidText ownAt_of (fun W pn xe h => mps_one (mp_set (i := 1) nd__law_read rfl (by first | exact Or.inl rfl | exact Or.inr rfl) ((K_Row_str.strO Fx.str_Row h (by decide) rfl Fx.f_str (ma_cons (me_cm (h.callP K_Row_read (by decide)) Fx.cm_Row_read (e_gcls rfl Fx.g_Row) (ma_cons (me_var 0) (ma_nil))) (ma_nil)))))) (se_tup (sa_cons (se_fld (cs := ["InvalidText"]) Fx.xf_at) (sa_cons (se_and (se_isiO (tab := [("InvalidRow", true), ("InvalidText", true)]) rfl Fx.f_isinstance Fx.isx_WordError rfl Fx.g_WordError) (se_one (se_not (se_isiO (tab := [("InvalidRow", true), ("InvalidText", false)]) rfl Fx.f_isinstance Fx.isx_InvalidRow rfl Fx.g_InvalidRow)))) (sa_nil))))) (mps_one (mp_retP (me_var 1))))
/-! ### Row.__eq__ -/
abbrev st_Row_eq : Stmt := inClass (top 14) 3
def N_Row_eq : List Str := ["self", "other"]
theorem nd_Row_eq : N_Row_eq.Nodup := by decide +kernel
theorem sc_Row_eq : FnScope N_Row_eq ["self", "other"] (defScope st_Row_eq) := ⟨rfl, rfl, rfl, nd_Row_eq, rfl, by decide +kernel, by decide +kernel⟩
def b_Row_eq : MS := s_retP (m_and (m_isi tabNone [("Row", true)] (m_var 1)) (m_op2 eqD (m_call (g_strO "Row" g_Row_str) (m_cons (m_var 0) (m_nil))) (m_call (g_strO "Row" g_Row_str) (m_cons (m_var 1) (m_nil)))))
def g_Row_eq : List D → PR := runP 2 b_Row_eq
include Fx in
theorem ok_Row_eq (K_Row_str : Kept P w K mg base 1 (He.ma K (He.ga K "Row") "__str__") (spP K 1 g_Row_str)) (F : FunD K "__eq__" "Row.__eq__" (defArgs st_Row_eq) (defBody st_Row_eq) (defScope st_Row_eq) dl [] f fd) : FnG P w K mg base 4 f fd ["self", "other"] (spP K 2 g_Row_eq) := fnP F sc_Row_eq fun cdv A outer s H E gu room => by
  have h : Here (cxB P w K mg base N_Row_eq "Row.__eq__" (defScope st_Row_eq) f cdv A outer s H E) (wxE E) 3 := here_of gu room
  unfold b_Row_eq
  exact mps_one (mp_retP (me_and (me_isi rfl Fx.f_isinstance (me_var 1) (p_own rfl Fx.g_Row) Fx.is_Row (.own _)) (me_one (e_cmp h.eq ((K_Row_str.strO Fx.str_Row h (by decide) rfl Fx.f_str (ma_cons (me_var 0) (ma_nil)))) ((K_Row_str.strO Fx.str_Row h (by decide) rfl Fx.f_str (ma_cons (me_var 1) (ma_nil))))))))
/-! ### _law_name -/
abbrev st__law_name : Stmt := top 25
def N__law_name : List Str := ["_law_word", "_law_sign"]
theorem nd__law_name : N__law_name.Nodup := by decide +kernel
theorem sc__law_name : FnScope N__law_name ["_law_word"] (defScope st__law_name) := ⟨rfl, rfl, rfl, nd__law_name, rfl, by decide +kernel, by decide +kernel⟩
def b__law_name : MS := s_seq (s_if (m_orb (m_tb (m_op2 inD (m_var 0) (m_tup (m_cons (m_c (.str "any")) (m_cons (m_c (.str "same")) (m_cons (m_c (.str "take")) (m_cons (m_c (.str "keep")) (m_cons (m_c (.str "to")) (m_nil))))))))) (m_notb (m_tb (m_chain ltD ltD (m_c (.int 0)) (m_call lenF (m_cons (m_var 0) (m_nil))) (m_c (.int 6)))))) (s_retP (m_c (.bl false))) (s_nil)) (s_retP (m_op2 eqD (m_lc (.nm 1) (i_val (m_var 0)) (m_tb (m_op2 ninD (m_var 1) (m_c (.str "abcdefghijklmnopqrstuvwxyz")))) (m_var 1) [1]) (m_lst (m_nil))))
def g__law_name : List D → PR := runP 2 b__law_name
include Fx in
theorem ok__law_name  (F : FunD K "_law_name" "_law_name" (defArgs st__law_name) (defBody st__law_name) (defScope st__law_name) dl [] f fd) : FnG P w K mg base 1 f fd ["_law_word"] (spP K 1 g__law_name) := fnP F sc__law_name fun cdv A outer s H E gu room => by
  have h : Here (cxB P w K mg base N__law_name "_law_name" (defScope st__law_name) f cdv A outer s H E) (wxE E) 0 := here_of gu room
  unfold b__law_name
  exact mps_cons (mp_if (mt_w (mw_or (t_cmp h.in_ (me_var 0) (me_tup (ma_cons (me_str) (ma_cons (me_str) (ma_cons (me_str) (ma_cons (me_str) (ma_cons (me_str) (ma_nil)))))))) (mw_or1 (mt_not (t_chain h.lt h.lt (me_int) (me_bin c_len b_len rfl Fx.f_len (ma_cons (me_var 0) (ma_nil))) (me_int)))))) (mps_one (mp_retP (me_bl))) (mps_nil)) (mps_one (mp_retP (e_cmp h.eq (me_lc (own := [("_law_sign", 1)]) (t := (.nm 1)) rfl nd__law_name (mi_val (me_var 0)) (blkOk_by (N := N__law_name) (sc := defScope st__law_name) (by decide +kernel)) (by decide) (fun _ _ _ _ _ => mg_name (i := 1) nd__law_name rfl (by first | exact Or.inl rfl | exact Or.inr rfl)) (fun _ _ _ _ _ => mts_one (t_cmp (h.blk _ _ _ _ _).nin (me_var 1) (me_str))) (fun _ _ _ _ _ => me_var 1)) (me_lst (ma_nil)))))
/-! ### _law_is_row -/
abbrev st__law_is_row : Stmt := top 26
def N__law_is_row : List Str := ["_law_text", "_law_words"]
theorem nd__law_is_row : N__law_is_row.Nodup := by decide +kernel
theorem sc__law_is_row : FnScope N__law_is_row ["_law_text"] (defScope st__law_is_row) := ⟨rfl, rfl, rfl, nd__law_is_row, rfl, by decide +kernel, by decide +kernel⟩
def b__law_is_row : MS := s_seq (s_set 1 (m_sm1 g_split (m_var 0) (m_c (.str " ")))) (s_seq (s_if (m_tb (m_op2 eqD (m_ix (m_var 1) (m_c (.int 0))) (m_c (.str "give")))) (s_seq (s_if (m_orb (m_tb (m_op2 neD (m_call lenF (m_cons (m_var 1) (m_nil))) (m_c (.int 5)))) (m_tb (m_op2 ninD (m_ix (m_var 1) (m_c (.int 2))) (m_tup (m_cons (m_c (.str "take")) (m_cons (m_c (.str "keep")) (m_nil))))))) (s_retP (m_c (.bl false))) (s_nil)) (s_set 1 (m_op2 addD (m_slice (m_var 1) (m_no) (m_part (m_c (.int 2)))) (m_slice (m_var 1) (m_part (m_c (.int 3))) (m_no))))) (s_nil)) (s_seq (s_if (m_orb (m_tb (m_op2 neD (m_call lenF (m_cons (m_var 1) (m_nil))) (m_c (.int 4)))) (m_orb (m_tb (m_op2 ninD (m_ix (m_var 1) (m_c (.int 0))) (m_tup (m_cons (m_c (.str "give")) (m_cons (m_c (.str "carry")) (m_cons (m_c (.str "drop")) (m_cons (m_c (.str "back")) (m_cons (m_c (.str "right")) (m_cons (m_c (.str "wrong")) (m_nil)))))))))) (m_tb (m_op2 neD (m_ix (m_var 1) (m_c (.int 2))) (m_c (.str "to")))))) (s_retP (m_c (.bl false))) (s_nil)) (s_retP (m_and (m_or (m_call (arity 1 (withD [] (callP g__law_name))) (m_cons (m_ix (m_var 1) (m_c (.int 1))) (m_nil))) (m_op2 eqD (m_ix (m_var 1) (m_c (.int 1))) (m_c (.str "any")))) (m_or (m_call (arity 1 (withD [] (callP g__law_name))) (m_cons (m_ix (m_var 1) (m_c (.int 3))) (m_nil))) (m_op2 eqD (m_ix (m_var 1) (m_c (.int 3))) (m_c (.str "same"))))))))
def g__law_is_row : List D → PR := runP 2 b__law_is_row
include Fx in
theorem ok__law_is_row (K__law_name : Kept P w K mg base 1 (He.ga K "_law_name") (spP K 1 g__law_name)) (F : FunD K "_law_is_row" "_law_is_row" (defArgs st__law_is_row) (defBody st__law_is_row) (defScope st__law_is_row) dl [] f fd) : FnG P w K mg base 2 f fd ["_law_text"] (spP K 1 g__law_is_row) := fnP F sc__law_is_row fun cdv A outer s H E gu room => by
  have h : Here (cxB P w K mg base N__law_is_row "_law_is_row" (defScope st__law_is_row) f cdv A outer s H E) (wxE E) 1 := here_of gu room
  unfold b__law_is_row
  exact mps_cons (mp_set (i := 1) nd__law_is_row rfl (by first | exact Or.inl rfl | exact Or.inr rfl) (me_split (me_var 0) (me_str))) (mps_cons (mp_if (t_cmp h.eq (me_ix (me_var 1) (me_int)) (me_str)) (mps_cons (mp_if (mt_w (mw_or (t_cmp h.ne (me_bin c_len b_len rfl Fx.f_len (ma_cons (me_var 1) (ma_nil))) (me_int)) (mw_or1 (t_cmp h.nin (me_ix (me_var 1) (me_int)) (me_tup (ma_cons (me_str) (ma_cons (me_str) (ma_nil)))))))) (mps_one (mp_retP (me_bl))) (mps_nil)) (mps_one (mp_set (i := 1) nd__law_is_row rfl (by first | exact Or.inl rfl | exact Or.inr rfl) (e_op h.add (me_slice (me_var 1) (mo_none) (mo_some (me_int))) (me_slice (me_var 1) (mo_some (me_int)) (mo_none)))))) (mps_nil)) (mps_cons (mp_if (mt_w (mw_or (t_cmp h.ne (me_bin c_len b_len rfl Fx.f_len (ma_cons (me_var 1) (ma_nil))) (me_int)) (mw_or (t_cmp h.nin (me_ix (me_var 1) (me_int)) (me_tup (ma_cons (me_str) (ma_cons (me_str) (ma_cons (me_str) (ma_cons (me_str) (ma_cons (me_str) (ma_cons (me_str) (ma_nil))))))))) (mw_or1 (t_cmp h.ne (me_ix (me_var 1) (me_int)) (me_str)))))) (mps_one (mp_retP (me_bl))) (mps_nil)) (mps_one (mp_retP (me_and (me_or (me_call (h.callP K__law_name (by decide)) rfl Fx.g__law_name K__law_name.kp (ma_cons (me_ix (me_var 1) (me_int)) (ma_nil))) (me_one (e_cmp h.eq (me_ix (me_var 1) (me_int)) (me_str)))) (me_one (me_or (me_call (h.callP K__law_name (by decide)) rfl Fx.g__law_name K__law_name.kp (ma_cons (me_ix (me_var 1) (me_int)) (ma_nil))) (me_one (e_cmp h.eq (me_ix (me_var 1) (me_int)) (me_str))))))))))
/-! ### law -/
abbrev st_law : Stmt := top 28
def N_law : List Str := ["_law_script", "_law_k", "_law_box", "_law_turn", "_law_row_here", "_law_text", "_law_words", "_law_made", "_law_again", "_law_at", "_law_form", "_law_more", "_law_bent", "_law_due"]
theorem nd_law : N_law.Nodup := by decide +kernel
theorem sc_law : FnScope N_law ["_law_script"] (defScope st_law) := ⟨rfl, rfl, rfl, nd_law, rfl, by decide +kernel, by decide +kernel⟩
def b_law : MS := s_seq (s_for (.nm 1) (i_rng1 (m_cons (m_call (intsF maxI) (m_cons (m_c (.int 1)) (m_cons (m_call (intsF minI) (m_cons (m_c (.int 4)) (m_cons (m_call lenF (m_cons (m_var 0) (m_nil))) (m_nil)))) (m_nil)))) (m_nil))) (s_seq (s_set 2 (m_call (arity 2 (withD [] g__law_seed)) (m_cons (m_var 0) (m_cons (m_var 1) (m_nil))))) (s_for (.nm 3) (i_rng1 (m_cons (m_c (.int 8)) (m_nil))) (s_seq (s_set 4 (m_call (arity 2 (withD [] g__law_row)) (m_cons (m_var 2) (m_cons (m_call (arity 1 (withD [] g__law_marks)) (m_cons (m_var 2) (m_nil))) (m_nil))))) (s_seq (s_set 5 (m_call (arity 1 (withD [] (callP g__law_row_text))) (m_cons (m_var 4) (m_nil)))) (s_seq (s_set 6 (m_sm1 g_split (m_var 5) (m_c (.str " ")))) (s_seq (s_set 7 (m_call (arity 4 (withD [] (made "Row" mkF g_Row_init))) (m_cons (m_ix (m_var 4) (m_c (.int 0))) (m_cons (m_ix (m_var 4) (m_c (.int 1))) (m_cons (m_ix (m_var 4) (m_c (.int 2))) (m_cons (m_ix (m_var 4) (m_c (.int 3))) (m_nil))))))) (s_seq (s_if (m_orb (m_tb (m_op2 neD (m_call (arity 1 (withD [] (callP g__law_read))) (m_cons (m_var 5) (m_nil))) (m_var 5))) (m_tb (m_op2 (eqO "Row" g_Row_eq true) (m_cmeth "Row" (arity 2 (withD [] (callP g_Row_read))) (m_c (.gl "Row")) (m_cons (m_var 5) (m_nil))) (m_var 7)))) (s_retP (m_c (.bl false))) (s_nil)) (s_for (.nm 8) (i_rng1 (m_cons (m_c (.int 5)) (m_nil))) (s_seq (s_par 9 10 (m_cons (m_call (arity 2 (withD [] g__law_choose)) (m_cons (m_var 2) (m_cons (m_op2 addD (m_call lenF (m_cons (m_var 6) (m_nil))) (m_c (.int 1))) (m_nil)))) (m_cons (m_call (arity 2 (withD [] g__law_choose)) (m_cons (m_var 2) (m_cons (m_c (.int 4)) (m_nil)))) (m_nil)))) (s_seq (s_set 11 (m_lst (m_cons (m_c (.str "any")) (m_cons (m_c (.str "to")) (m_cons (m_c (.str "take")) (m_cons (m_c (.str "keep")) (m_cons (m_c (.str "same")) (m_cons (m_c (.str "give")) (m_cons (m_c (.str "")) (m_cons (m_c (.str "good")) (m_cons (m_c (.str "toolong")) (m_cons (m_c (.str "Drop")) (m_cons (m_c (.str "drop")) (m_nil)))))))))))))) (s_seq (s_set 11 (m_call (arity 2 (withD [] g__law_one_of)) (m_cons (m_var 2) (m_cons (m_var 11) (m_nil))))) (s_seq (s_set 12 (m_op2 addD (m_op2 addD (m_slice (m_var 6) (m_no) (m_part (m_var 9))) (m_lst (m_cons (m_var 11) (m_nil)))) (m_slice (m_var 6) (m_part (m_op2 addD (m_var 9) (m_call intF (m_cons (m_op2 gtD (m_var 10) (m_c (.int 1))) (m_nil))))) (m_no)))) (s_seq (s_if (m_tb (m_op2 eqD (m_var 10) (m_c (.int 0)))) (s_set 12 (m_op2 addD (m_slice (m_var 6) (m_no) (m_part (m_var 9))) (m_slice (m_var 6) (m_part (m_op2 addD (m_var 9) (m_c (.int 1)))) (m_no)))) (s_nil)) (s_seq (s_set 12 (m_sm1 g_join (m_c (.str " ")) (m_var 12))) (s_seq (s_set 13 (m_if (m_truth (m_call (arity 1 (withD [] (callP g__law_is_row))) (m_cons (m_var 12) (m_nil)))) (m_var 12) (m_tup (m_cons (m_c (.int 0)) (m_cons (m_c (.bl true)) (m_nil)))))) (s_if (m_tb (m_op2 neD (m_call (arity 1 (withD [] (callP g__law_read))) (m_cons (m_var 12) (m_nil))) (m_var 13))) (s_retP (m_c (.bl false))) (s_nil)))))))))))))))))) (s_retP (m_and (m_op2 eqD (m_call (arity 1 (withD [] (callP g__law_read))) (m_cons (m_c (.str "")) (m_nil))) (m_tup (m_cons (m_c (.int 0)) (m_cons (m_c (.bl true)) (m_nil))))) (m_op2 eqD (m_call (arity 1 (withD [] (callP g__law_read))) (m_cons (m_c (.str "drop any to a\n")) (m_nil))) (m_tup (m_cons (m_c (.int 0)) (m_cons (m_c (.bl true)) (m_nil)))))))
def g_law : List D → PR := runP 14 b_law
include Fx in
theorem ok_law (K__law_seed : Kept P w K mg base 1 (He.ga K "_law_seed") (spE K 2 g__law_seed)) (K__law_row : Kept P w K mg base 3 (He.ga K "_law_row") (spE K 2 g__law_row)) (K__law_marks : Kept P w K mg base 3 (He.ga K "_law_marks") (spE K 1 g__law_marks)) (K__law_row_text : Kept P w K mg base 1 (He.ga K "_law_row_text") (spP K 1 g__law_row_text)) (K_Row_init : Kept P w K mg base 2 (He.ma K (He.ga K "Row") "__init__") (spE K 5 g_Row_init)) (K__law_read : Kept P w K mg base 5 (He.ga K "_law_read") (spP K 1 g__law_read)) (K_Row_eq : Kept P w K mg base 4 (He.ma K (He.ga K "Row") "__eq__") (spP K 2 g_Row_eq)) (K_Row_read : Kept P w K mg base 4 (cmAd "Row" "read" K) (spP K 2 g_Row_read)) (K__law_choose : Kept P w K mg base 1 (He.ga K "_law_choose") (spE K 2 g__law_choose)) (K__law_one_of : Kept P w K mg base 2 (He.ga K "_law_one_of") (spE K 2 g__law_one_of)) (K__law_is_row : Kept P w K mg base 2 (He.ga K "_law_is_row") (spP K 1 g__law_is_row)) (F : FunD K "law" "law" (defArgs st_law) (defBody st_law) (defScope st_law) dl [] f fd) : FnG P w K mg base 6 f fd ["_law_script"] (spP K 1 g_law) := fnP F sc_law fun cdv A outer s H E gu room => by
  have h : Here (cxB P w K mg base N_law "law" (defScope st_law) f cdv A outer s H E) (wxE E) 5 := here_of gu room
  unfold b_law
  exact mps_cons (mp_for own_of rfl (mi_rng1 rfl Fx.f_range (ma_cons (me_bin (call_max2 rfl) b_max rfl Fx.f_max (ma_cons (me_int) (ma_cons (me_bin (call_min2 rfl) b_min rfl Fx.f_min (ma_cons (me_int) (ma_cons (me_bin c_len b_len rfl Fx.f_len (ma_cons (me_var 0) (ma_nil))) (ma_nil)))) (ma_nil)))) (ma_nil))) (mg_name (i := 1) nd_law rfl (by first | exact Or.inl rfl | exact Or.inr rfl)) (mps_cons (mp_set (i := 2) nd_law rfl (by first | exact Or.inl rfl | exact Or.inr rfl) (me_call (h.callE K__law_seed (by decide)) rfl Fx.g__law_seed K__law_seed.kp (ma_cons (me_var 0) (ma_cons (me_var 1) (ma_nil))))) (mps_one (mp_for own_of rfl (mi_rng1 rfl Fx.f_range (ma_cons (me_int) (ma_nil))) (mg_name (i := 3) nd_law rfl (by first | exact Or.inl rfl | exact Or.inr rfl)) (mps_cons (mp_set (i := 4) nd_law rfl (by first | exact Or.inl rfl | exact Or.inr rfl) (me_call (h.callE K__law_row (by decide)) rfl Fx.g__law_row K__law_row.kp (ma_cons (me_var 2) (ma_cons (me_call (h.callE K__law_marks (by decide)) rfl Fx.g__law_marks K__law_marks.kp (ma_cons (me_var 2) (ma_nil))) (ma_nil))))) (mps_cons (mp_set (i := 5) nd_law rfl (by first | exact Or.inl rfl | exact Or.inr rfl) (me_call (h.callP K__law_row_text (by decide)) rfl Fx.g__law_row_text K__law_row_text.kp (ma_cons (me_var 4) (ma_nil)))) (mps_cons (mp_set (i := 6) nd_law rfl (by first | exact Or.inl rfl | exact Or.inr rfl) (me_split (me_var 5) (me_str))) (mps_cons (mp_set (i := 7) nd_law rfl (by first | exact Or.inl rfl | exact Or.inr rfl) (me_call (h.make mks_F (n := 4) Fx.M_Row K_Row_init (by decide)) rfl Fx.g_Row Fx.M_Row.kp (ma_cons (me_ix (me_var 4) (me_int)) (ma_cons (me_ix (me_var 4) (me_int)) (ma_cons (me_ix (me_var 4) (me_int)) (ma_cons (me_ix (me_var 4) (me_int)) (ma_nil))))))) (mps_cons (mp_if (mt_w (mw_or (t_cmp h.ne (me_call (h.callP K__law_read (by decide)) rfl Fx.g__law_read K__law_read.kp (ma_cons (me_var 5) (ma_nil))) (me_var 5)) (mw_or1 (t_cmp (h.neO K_Row_eq Fx.eq_Row (by decide)) (me_cm (h.callP K_Row_read (by decide)) Fx.cm_Row_read (e_gcls rfl Fx.g_Row) (ma_cons (me_var 5) (ma_nil))) (me_var 7))))) (mps_one (mp_retP (me_bl))) (mps_nil)) (mps_one (mp_for own_of rfl (mi_rng1 rfl Fx.f_range (ma_cons (me_int) (ma_nil))) (mg_name (i := 8) nd_law rfl (by first | exact Or.inl rfl | exact Or.inr rfl)) (mps_cons (mp_par rfl nd_law (i := 9) (j := 10) rfl rfl (by decide) rfl rfl (ma_cons (me_call (h.callE K__law_choose (by decide)) rfl Fx.g__law_choose K__law_choose.kp (ma_cons (me_var 2) (ma_cons (e_op h.add (me_bin c_len b_len rfl Fx.f_len (ma_cons (me_var 6) (ma_nil))) (me_int)) (ma_nil)))) (ma_cons (me_call (h.callE K__law_choose (by decide)) rfl Fx.g__law_choose K__law_choose.kp (ma_cons (me_var 2) (ma_cons (me_int) (ma_nil)))) (ma_nil)))) (mps_cons (mp_set (i := 11) nd_law rfl (by first | exact Or.inl rfl | exact Or.inr rfl) (me_lst (ma_cons (me_str) (ma_cons (me_str) (ma_cons (me_str) (ma_cons (me_str) (ma_cons (me_str) (ma_cons (me_str) (ma_cons (me_str) (ma_cons (me_str) (ma_cons (me_str) (ma_cons (me_str) (ma_cons (me_str) (ma_nil)))))))))))))) (mps_cons (mp_set (i := 11) nd_law rfl (by first | exact Or.inl rfl | exact Or.inr rfl) (me_call (h.callE K__law_one_of (by decide)) rfl Fx.g__law_one_of K__law_one_of.kp (ma_cons (me_var 2) (ma_cons (me_var 11) (ma_nil))))) (mps_cons (mp_set (i := 12) nd_law rfl (by first | exact Or.inl rfl | exact Or.inr rfl) (e_op h.add (e_op h.add (me_slice (me_var 6) (mo_none) (mo_some (me_var 9))) (me_lst (ma_cons (me_var 11) (ma_nil)))) (me_slice (me_var 6) (mo_some (e_op h.add (me_var 9) (me_bty call_int1 b_int rfl Fx.f_int (ma_cons (e_cmp h.gt (me_var 10) (me_int)) (ma_nil))))) (mo_none)))) (mps_cons (mp_if (t_cmp h.eq (me_var 10) (me_int)) (mps_one (mp_set (i := 12) nd_law rfl (by first | exact Or.inl rfl | exact Or.inr rfl) (e_op h.add (me_slice (me_var 6) (mo_none) (mo_some (me_var 9))) (me_slice (me_var 6) (mo_some (e_op h.add (me_var 9) (me_int))) (mo_none))))) (mps_nil)) (mps_cons (mp_set (i := 12) nd_law rfl (by first | exact Or.inl rfl | exact Or.inr rfl) (me_join (me_str) (me_var 12))) (mps_cons (mp_set (i := 13) nd_law rfl (by first | exact Or.inl rfl | exact Or.inr rfl) (me_if (mt_truth (me_call (h.callP K__law_is_row (by decide)) rfl Fx.g__law_is_row K__law_is_row.kp (ma_cons (me_var 12) (ma_nil)))) (me_var 12) (me_tup (ma_cons (me_int) (ma_cons (me_bl) (ma_nil)))))) (mps_one (mp_if (t_cmp h.ne (me_call (h.callP K__law_read (by decide)) rfl Fx.g__law_read K__law_read.kp (ma_cons (me_var 12) (ma_nil))) (me_var 13)) (mps_one (mp_retP (me_bl))) (mps_nil))))))))))))))))))))) (mps_one (mp_retP (me_and (e_cmp h.eq (me_call (h.callP K__law_read (by decide)) rfl Fx.g__law_read K__law_read.kp (ma_cons (me_str) (ma_nil))) (me_tup (ma_cons (me_int) (ma_cons (me_bl) (ma_nil))))) (me_one (e_cmp h.eq (me_call (h.callP K__law_read (by decide)) rfl Fx.g__law_read K__law_read.kp (ma_cons (me_str) (ma_nil))) (me_tup (ma_cons (me_int) (ma_cons (me_bl) (ma_nil)))))))))
end
end Lw
set_option Elab.async false
set_option linter.all false
set_option maxRecDepth 100000
set_option maxHeartbeats 4000000
namespace Lw
open PySem PySem.Spec L2 Bv
open PyProof.Rows hiding St
variable [HasW]
/-- a box of draws -/
def box (g n : Int) : O := .lst [.d (.int g), .d (.int n)]
def BoxAt (S : Sto) (b : Nat) : Prop := ∃ g n : Int, S[b]? = some (box g n) ∧ 0 ≤ g ∧ 0 ≤ n
theorem BoxAt.lt {S : Sto} {b : Nat} (h : BoxAt S b) : b < S.length := by
  obtain ⟨g, n, e, _⟩ := h
  exact (List.getElem?_eq_some_iff.mp e).1
theorem BoxAt.set {S : Sto} {b : Nat} (h : BoxAt S b) {g n : Int} (hg : 0 ≤ g) (hn : 0 ≤ n) : BoxAt (S.set b (box g n)) b := ⟨g, n, by rw [List.getElem?_set_self h.lt], hg, hn⟩
/-- S2 is S with another box at b -/
def Drew (S : Sto) (b : Nat) (S2 : Sto) : Prop := ∃ g n : Int, S2 = S.set b (box g n) ∧ 0 ≤ g ∧ 0 ≤ n
theorem Drew.at_ {S S2 : Sto} {b : Nat} (d : Drew S b S2) (h : b < S.length) : BoxAt S2 b := by
  obtain ⟨g, n, rfl, hg, hn⟩ := d
  exact ⟨g, n, by rw [List.getElem?_set_self h], hg, hn⟩
theorem Drew.len {S S2 : Sto} {b : Nat} (d : Drew S b S2) : S2.length = S.length := by
  obtain ⟨g, n, rfl, hg, hn⟩ := d
  simp
theorem Drew.ok {S S2 : Sto} {b : Nat} (d : Drew S b S2) (h : OkS S) : OkS S2 := by
  obtain ⟨g, n, rfl, hg, hn⟩ := d
  exact h.set rfl
theorem Drew.trans {S S2 S3 : Sto} {b : Nat} (d : Drew S b S2) (d2 : Drew S2 b S3) : Drew S b S3 := by
  obtain ⟨g, n, rfl, hg, hn⟩ := d
  obtain ⟨g2, n2, rfl, hg2, hn2⟩ := d2
  exact ⟨g2, n2, by rw [List.set_set], hg2, hn2⟩
theorem choose_ok {S : Sto} {b : Nat} {m : Int} (hS : OkS S) (hb : BoxAt S b) (hm : 0 < m ∧ m < 1073741824) : ∃ (d : Int) (S2 : Sto), g__law_choose [.r b, .d (.int m)] S = .ok (.d (.int d)) S2 ∧ 0 ≤ d ∧ d < m ∧ Drew S b S2 := by
  obtain ⟨g, n, e, hg, hn⟩ := id hb
  have hl := hb.lt
  unfold box at e
  have hc : ∀ g n : Int, cut S.length (S.set b (.lst [.d (.int g), .d (.int n)])) = some (S.set b (box g n)) := fun g n => by
    have := (hS.set (b := b) (o := box g n) rfl).cut0
    rw [List.length_set] at this
    exact this
  unfold g__law_choose runE b__law_choose
  by_cases hp : 0 < g
  · refine ⟨g % m, _, ?_, Int.emod_nonneg _ (by omega), Int.emod_lt_of_pos _ hm.1, g / m, n, rfl, Int.ediv_nonneg hg (by omega), hn⟩
    simp [ev0, s_seq, s_if, s_nil, s_expr, s_set, s_ret, s_retP, s_retN, s_retNP, s_retT, s_asg, s_par, s_sub, s_fld, m_tb, m_op2, m_ix, m_var, m_c, m_call, m_cons, m_nil, m_star, m_tup, m_lst, m_lstN, m_attr, m_bm, m_slice, m_part, m_no, m_if, m_andb, m_orb, m_notb, m_and, m_or, m_not, m_bl, m_truth, m_chain, R.bind, R.so, RO.then, items, ixO, ixD, intX, optR, op2, X.get, tb, dispT, dispL, dispN, attrO, slX, truthX, truthD, arity, withD, endE, endP, keepX, setO, fldO, putX, intF, lenF, lenS, lenD, intsF, ints?, absI, minI, maxI, ds?, gets, callP, X.isD, D.noL, D.noLs, D.noLf, isLst, lstOf, add_r, sub_r, gt_r, ge_r, lt_r, le_r, atI, ixN, e, hp, mod_r hm.1, fdiv_r hm, trunc, hc]
  · refine ⟨((n * 40014 + 31) % 2147483563 * 2147483647 + (((n * 40014 + 31) % 2147483563 * 40692 + 2777) % 2147483629 + 1)) / 8191 % m, _, ?_, Int.emod_nonneg _ (by omega), Int.emod_lt_of_pos _ hm.1, g, ((n * 40014 + 31) % 2147483563 * 40692 + 2777) % 2147483629 + 1, rfl, hg, by omega⟩
    have h1 : ∀ i : Int, modD (.int i) (.int 2147483563) = some (.int (i % 2147483563)) := fun i => mod_r (by decide)
    have h2 : ∀ i : Int, modD (.int i) (.int 2147483629) = some (.int (i % 2147483629)) := fun i => mod_r (by decide)
    have h3 : ∀ i : Int, mulD (.int i) (.int 40014) = some (.int (i * 40014)) := fun i => mul_r (by decide)
    have h4 : ∀ i : Int, mulD (.int i) (.int 40692) = some (.int (i * 40692)) := fun i => mul_r (by decide)
    have h5 : ∀ i : Int, mulD (.int i) (.int 2147483647) = some (.int (i * 2147483647)) := fun i => mul_r (by decide)
    have h6 : ∀ i : Int, fdivD (.int i) (.int 8191) = some (.int (i / 8191)) := fun i => fdiv_r (by decide)
    have hs : ∀ o : O, (S.set b o)[b]? = some o := fun o => List.getElem?_set_self hl
    simp [ev0, s_seq, s_if, s_nil, s_expr, s_set, s_ret, s_retP, s_retN, s_retNP, s_retT, s_asg, s_par, s_sub, s_fld, m_tb, m_op2, m_ix, m_var, m_c, m_call, m_cons, m_nil, m_star, m_tup, m_lst, m_lstN, m_attr, m_bm, m_slice, m_part, m_no, m_if, m_andb, m_orb, m_notb, m_and, m_or, m_not, m_bl, m_truth, m_chain, R.bind, R.so, RO.then, items, ixO, ixD, intX, optR, op2, X.get, tb, dispT, dispL, dispN, attrO, slX, truthX, truthD, arity, withD, endE, endP, keepX, setO, fldO, putX, intF, lenF, lenS, lenD, intsF, ints?, absI, minI, maxI, ds?, gets, callP, X.isD, D.noL, D.noLs, D.noLf, isLst, lstOf, add_r, sub_r, gt_r, ge_r, lt_r, le_r, atI, ixN, e, hp, mod_r hm.1, h1, h2, h3, h4, h5, h6, hs, trunc, hc]
theorem one_of_ok {S : Sto} {b : Nat} {ds : List D} (hS : OkS S) (hb : BoxAt S b) (h0 : ds ≠ []) (hl : ds.length < 1073741824) : ∃ (d : D) (S2 : Sto), g__law_one_of [.r b, .d (.lst ds)] S = .ok (.d d) S2 ∧ d ∈ ds ∧ Drew S b S2 := by
  have h1 : 0 < ds.length := List.length_pos_iff.mpr h0
  obtain ⟨i, S2, e, i0, i1, dr⟩ := choose_ok (m := ds.length) hS hb (by omega)
  obtain ⟨d, q, hm⟩ := atI_in (l := ds.map X.d) i0 (by rw [List.length_map]; exact i1)
  obtain ⟨d', hm', rfl⟩ := List.mem_map.mp hm
  have hc := (dr.ok hS).cut0
  rw [dr.len] at hc
  refine ⟨d', S2, ?_, hm', dr⟩
  unfold g__law_one_of runE b__law_one_of
  simp [ev0, s_seq, s_if, s_nil, s_expr, s_set, s_ret, s_retP, s_retN, s_retNP, s_retT, s_asg, s_par, s_sub, s_fld, m_tb, m_op2, m_ix, m_var, m_c, m_call, m_cons, m_nil, m_star, m_tup, m_lst, m_lstN, m_attr, m_bm, m_slice, m_part, m_no, m_if, m_andb, m_orb, m_notb, m_and, m_or, m_not, m_bl, m_truth, m_chain, R.bind, R.so, RO.then, items, ixO, ixD, intX, optR, op2, X.get, tb, dispT, dispL, dispN, attrO, slX, truthX, truthD, arity, withD, endE, endP, keepX, setO, fldO, putX, intF, lenF, lenS, lenD, intsF, ints?, absI, minI, maxI, ds?, gets, callP, X.isD, D.noL, D.noLs, D.noLf, isLst, lstOf, add_r, sub_r, gt_r, ge_r, lt_r, le_r, e, q, trunc, hc]
end Lw
set_option Elab.async false
set_option linter.all false
set_option maxRecDepth 100000
set_option maxHeartbeats 4000000
namespace Lw
open PySem PySem.Spec L2 Bv
open PyProof.Rows hiding St
variable [HasW]
theorem Drew.refl {S : Sto} {b : Nat} (h : BoxAt S b) : Drew S b S := by
  obtain ⟨g, n, e, hg, hn⟩ := h
  refine ⟨g, n, ?_, hg, hn⟩
  obtain ⟨h1, h2⟩ := List.getElem?_eq_some_iff.mp e
  rw [← h2, List.set_getElem_self]
theorem two0 {S : Sto} {A B : O} : (S ++ [A, B])[S.length]? = some A := by rw [List.getElem?_append_right (Nat.le_refl _), Nat.sub_self]; rfl
theorem two1 {S : Sto} {A B : O} : (S ++ [A, B])[S.length + 1]? = some B := by simp
theorem two0s {S : Sto} {A B A' : O} : (S ++ [A, B]).set S.length A' = S ++ [A', B] := by rw [List.set_append_right _ _ (Nat.le_refl _), Nat.sub_self]; rfl
theorem two1s {S : Sto} {A B B' : O} : (S ++ [A, B]).set (S.length + 1) B' = S ++ [A, B'] := by simp
theorem erase_map {α β : Type} (f : α → β) : ∀ (l : List α) (i : Nat), (l.map f).eraseIdx i = (l.eraseIdx i).map f
  | [], _ => rfl
  | _ :: _, 0 => rfl
  | a :: l, i + 1 => by simp [List.eraseIdx, erase_map f l i]
theorem erase_perm {α : Type} : ∀ (l : List α) (i : Nat) (h : i < l.length), (l.eraseIdx i ++ [l[i]]).Perm l
  | a :: l, 0, _ => by simpa using (List.perm_append_comm (l₁ := l) (l₂ := [a]))
  | a :: l, i + 1, h => by
    have := erase_perm l i (by simpa using h)
    simpa using this.cons a
theorem okO_data {k : Nat} (ds : List D) : okO k (.lst (ds.map X.d)) = true := by
  show (ds.map X.d).all (okX k) = true
  rw [List.all_map]
  exact List.all_eq_true.mpr fun _ _ => rfl
theorem OkS.two {S : Sto} (h : OkS S) (l r : List D) : OkS (S ++ [.lst (l.map X.d), .lst (r.map X.d)]) := by
  have := (h.push (o := .lst (l.map X.d)) (okO_data l)).push (o := .lst (r.map X.d)) (okO_data r)
  rwa [List.append_assoc] at this
def MixI (S : Sto) (b : Nat) (ds : List D) (k : Nat) (e : Ev) (T : Sto) : Prop := ∃ (left found : List D) (S1 : Sto) (o : Option X), e = [some (.r b), some (.d (.lst ds)), some (.r S.length), some (.r (S.length + 1)), o] ∧ T = S1 ++ [.lst (left.map X.d), .lst (found.map X.d)] ∧
    Drew S b S1 ∧ left.length + k = ds.length ∧ found.length = k ∧ (left ++ found).Perm ds
def mixB : MS := s_expr (m_bm isLst g_append (m_var 3) (m_cons (m_bm isLst g_popAt (m_var 2) (m_cons (m_call (arity 2 (withD [] g__law_choose)) (m_cons (m_var 0) (m_cons (m_call lenF (m_cons (m_var 2) (m_nil))) (m_nil)))) (m_nil))) (m_nil)))
theorem pop_in {d : Int} {n : Nat} (d0 : 0 ≤ d) (d1 : d < n) (hn : n < 1000) : (-9223372036854775808 : Int) ≤ d ∧ d < 9223372036854775808 := by omega
theorem mix_step {S : Sto} {b : Nat} {ds : List D} (hS : OkS S) (hb : BoxAt S b) (hl : ds.length < 1000) {i : Nat} {x : X} {e : Ev} {T : Sto} (hi : i < ds.length) (hI : MixI S b ds i e T) : ∃ e1 e2 S2, Tg.asg T (.nm 4) x e = some e1 ∧ mixB e1 T = .go (.nx e2) S2 ∧ MixI S b ds (i + 1) e2 S2 := by
    obtain ⟨left, found, S1, o, he, hT, dr, hlen, hf, hp⟩ := hI
    have hS1 : OkS S1 := dr.ok hS
    have hb1 := dr.at_ hb.lt
    have hn : S1.length = S.length := dr.len
    have hTb : BoxAt T b := by
      obtain ⟨g, n, e1, hg, hn1⟩ := hb1
      exact ⟨g, n, by rw [hT, List.getElem?_append_left (List.getElem?_eq_some_iff.mp e1).1, e1], hg, hn1⟩
    have hTok : OkS T := by rw [hT]; exact OkS.two hS1 left found
    obtain ⟨d, S2, ec, d0, d1, dr2⟩ := choose_ok (m := left.length) hTok hTb (by omega)
    obtain ⟨g2, n2, e2, hg2, hn2⟩ := dr2
    rw [hT, List.set_append_left _ _ hb1.lt] at e2
    have hlt : d.toNat < left.length := by omega
    have hix : seqIndex? d left.length = some d.toNat := by
      unfold seqIndex?
      simp [show ¬ d < 0 by omega, d0, d1]
    have lk2 : ∀ (A B : O), (S1.set b (box g2 n2) ++ [A, B])[S.length]? = some A := fun A B => by
      have := two0 (S := S1.set b (box g2 n2)) (A := A) (B := B)
      rwa [List.length_set, hn] at this
    have lk3 : ∀ (A B : O), (S1.set b (box g2 n2) ++ [A, B])[S.length + 1]? = some B := fun A B => by
      have := two1 (S := S1.set b (box g2 n2)) (A := A) (B := B)
      rwa [List.length_set, hn] at this
    have st2 : ∀ (A B A' : O), (S1.set b (box g2 n2) ++ [A, B]).set S.length A' = S1.set b (box g2 n2) ++ [A', B] := fun A B A' => by
      have := two0s (S := S1.set b (box g2 n2)) (A := A) (B := B) (A' := A')
      rwa [List.length_set, hn] at this
    have st3 : ∀ (A B A' : O), (S1.set b (box g2 n2) ++ [A, B]).set (S.length + 1) A' = S1.set b (box g2 n2) ++ [A, A'] := fun A B A' => by
      have := two1s (S := S1.set b (box g2 n2)) (A := A) (B := B) (B' := A')
      rwa [List.length_set, hn] at this
    have lk0 : T[S.length]? = some (.lst (left.map X.d)) := by rw [hT, ← hn]; exact two0
    have lk1 : T[S.length + 1]? = some (.lst (found.map X.d)) := by rw [hT, ← hn]; exact two1
    have hget : left[d.toNat]? = some left[d.toNat] := List.getElem?_eq_getElem hlt
    subst he e2
    refine ⟨[some (.r b), some (.d (.lst ds)), some (.r S.length), some (.r (S.length + 1)), some x], [some (.r b), some (.d (.lst ds)), some (.r S.length), some (.r (S.length + 1)), some x], S1.set b (box g2 n2) ++ [.lst ((left.eraseIdx d.toNat).map X.d), .lst ((found ++ [left[d.toNat]]).map X.d)], rfl, ?_, left.eraseIdx d.toNat, found ++ [left[d.toNat]], S1.set b (box g2 n2), some x, rfl, rfl, dr.trans ⟨g2, n2, rfl, hg2, hn2⟩, ?_, ?_, ?_⟩
    · have hfl : (found.map X.d).length < sizeLine := by rw [List.length_map, sizeLine_eq]; omega
      have h63 := pop_in d0 d1 (by omega)
      have em : List.map X.d (left.eraseIdx d.toNat) = (left.map X.d).eraseIdx d.toNat := (erase_map X.d left d.toNat).symm
      rw [em, List.map_append]
      rw [List.length_map] at hfl
      unfold mixB
      simp [ev0, s_seq, s_if, s_nil, s_expr, s_set, s_ret, s_retP, s_retN, s_retNP, s_retT, s_asg, s_par, s_sub, s_fld, m_tb, m_op2, m_ix, m_var, m_c, m_call, m_cons, m_nil, m_star, m_tup, m_lst, m_lstN, m_attr, m_bm, m_slice, m_part, m_no, m_if, m_andb, m_orb, m_notb, m_and, m_or, m_not, m_bl, m_truth, m_chain, R.bind, R.so, RO.then, items, ixO, ixD, intX, optR, op2, X.get, tb, dispT, dispL, dispN, attrO, slX, truthX, truthD, arity, withD, endE, endP, keepX, setO, fldO, putX, intF, lenF, lenS, lenD, intsF, ints?, absI, minI, maxI, ds?, gets, callP, X.isD, D.noL, D.noLs, D.noLf, isLst, lstOf, add_r, sub_r, gt_r, ge_r, lt_r, le_r, lk0, lk1, ec, g_popAt, g_append, lk2, lk3, st2, st3, hix, hget, h63, hfl]
    · rw [List.length_eraseIdx_of_lt hlt]; omega
    · simp [hf]
    · refine List.Perm.trans ?_ hp
      have h1 := erase_perm left d.toNat hlt
      have h2 : (left.eraseIdx d.toNat ++ (found ++ [left[d.toNat]])).Perm (left.eraseIdx d.toNat ++ ([left[d.toNat]] ++ found)) := List.Perm.append_left _ List.perm_append_comm
      rw [← List.append_assoc _ [left[d.toNat]]] at h2
      exact h2.trans (h1.append_right found)
theorem mixed_ok {S : Sto} {b : Nat} {ds : List D} (hS : OkS S) (hb : BoxAt S b) (hl : ds.length < 1000) : ∃ (r : List D) (S2 : Sto), g__law_mixed [.r b, .d (.lst ds)] S = .ok (.d (.lst r)) S2 ∧ r.Perm ds ∧ Drew S b S2 := by
  have start : MixI S b ds 0 [some (.r b), some (.d (.lst ds)), some (.r S.length), some (.r (S.length + 1)), none] (S ++ [.lst (ds.map X.d), .lst []]) := ⟨ds, [], S, none, rfl, rfl, Drew.refl hb, rfl, rfl, by simp⟩
  have loop := forL_nat (t := .nm 4) (body := mixB) (MixI S b ds) (xs := Bv.upTo 0 ds.length) (k := 0) start fun i x hx e T hI => by
    have hi : i < ds.length := by
      have := (List.getElem?_eq_some_iff.mp hx).1
      simpa [Bv.upTo] using this
    rw [Nat.zero_add] at hI ⊢
    exact mix_step hS hb hl hi hI
  obtain ⟨e2, T, hl2, left, found, S1, o, he, hT, dr, hlen, hf, hp⟩ := loop
  have hu : (Bv.upTo 0 ds.length).length = ds.length := by simp [Bv.upTo]
  rw [hu, Nat.zero_add] at hlen
  have h0 : left = [] := List.length_eq_zero_iff.mp (by omega)
  subst h0
  refine ⟨found, S1, ?_, by simpa using hp, dr⟩
  have hn : S1.length = S.length := dr.len
  have hc : cut S.length T = some S1 := by rw [hT, ← hn]; exact (dr.ok hS).cut
  have lk1 : T[S.length + 1]? = some (.lst (found.map X.d)) := by rw [hT, ← hn]; exact two1
  have hsm : smallI ds.length = true := smallI_nat hl
  have hd : ds.length ≤ sizeLine := by rw [sizeLine_eq]; omega
  have p1 : s_par 2 3 (m_cons (m_call listN (m_cons (m_var 1) (m_nil))) (m_cons (m_lstN (m_nil)) (m_nil))) (ev0 5 [.r b, .d (.lst ds)]) S = .go (.nx [some (.r b), some (.d (.lst ds)), some (.r S.length), some (.r (S.length + 1)), none]) (S ++ [.lst (ds.map X.d), .lst []]) := by
    simp [ev0, s_seq, s_if, s_nil, s_expr, s_set, s_ret, s_retP, s_retN, s_retNP, s_retT, s_asg, s_par, s_sub, s_fld, m_tb, m_op2, m_ix, m_var, m_c, m_call, m_cons, m_nil, m_star, m_tup, m_lst, m_lstN, m_attr, m_bm, m_slice, m_part, m_no, m_if, m_andb, m_orb, m_notb, m_and, m_or, m_not, m_bl, m_truth, m_chain, R.bind, R.so, RO.then, items, ixO, ixD, intX, optR, op2, X.get, tb, dispT, dispL, dispN, attrO, slX, truthX, truthD, arity, withD, endE, endP, keepX, setO, fldO, putX, intF, lenF, lenS, lenD, intsF, ints?, absI, minI, maxI, ds?, gets, callP, X.isD, D.noL, D.noLs, D.noLf, isLst, lstOf, add_r, sub_r, gt_r, ge_r, lt_r, le_r, listN]
  have p2 : i_rng1 (m_cons (m_call lenF (m_cons (m_var 1) (m_nil))) (m_nil)) [some (.r b), some (.d (.lst ds)), some (.r S.length), some (.r (S.length + 1)), none] (S ++ [.lst (ds.map X.d), .lst []]) = .ok (Bv.upTo 0 ds.length, .free) (S ++ [.lst (ds.map X.d), .lst []]) := by
    refine i_rng1_ok (n := ds.length) ?_ hsm
    simp [ev0, s_seq, s_if, s_nil, s_expr, s_set, s_ret, s_retP, s_retN, s_retNP, s_retT, s_asg, s_par, s_sub, s_fld, m_tb, m_op2, m_ix, m_var, m_c, m_call, m_cons, m_nil, m_star, m_tup, m_lst, m_lstN, m_attr, m_bm, m_slice, m_part, m_no, m_if, m_andb, m_orb, m_notb, m_and, m_or, m_not, m_bl, m_truth, m_chain, R.bind, R.so, RO.then, items, ixO, ixD, intX, optR, op2, X.get, tb, dispT, dispL, dispN, attrO, slX, truthX, truthD, arity, withD, endE, endP, keepX, setO, fldO, putX, intF, lenF, lenS, lenD, intsF, ints?, absI, minI, maxI, ds?, gets, callP, X.isD, D.noL, D.noLs, D.noLf, isLst, lstOf, add_r, sub_r, gt_r, ge_r, lt_r, le_r]
  have p3 := (s_for_ok (t := .nm 4) (body := mixB) p2).trans hl2
  have p4 : s_ret (m_var 3) e2 T = .go (.rt (.r (S.length + 1))) T := by rw [he]; rfl
  have p6 : keepX S.length T (.r (S.length + 1)) = some (.d (.lst found)) := by
    simp [keepX, X.get, lk1, dsmap, show ¬ (S.length + 1 < S.length) by omega]
  exact runE_ok ((s_seq_ok p1).trans ((s_seq_ok p3).trans p4)) p6 hc
end Lw
set_option Elab.async false
set_option linter.all false
set_option maxRecDepth 100000
set_option maxHeartbeats 4000000
namespace Lw
open PySem PySem.Spec L2 Bv
open PyProof.Rows hiding St
variable [HasW]
theorem pow18 : powD (.int 10) (.int 18) = some (.int 1000000000000000000) := by
  show (if CPow 10 18 then some (D.int (10 ^ (18 : Int).toNat)) else none) = _
  rw [if_pos (by unfold CPow; decide)]
  rfl
theorem abs_r {i : Int} : absI [i] = some (if i < 0 then -i else i) := rfl
theorem seed_ok {S : Sto} {ns : List Int} {k : Nat} (hS : OkS S) (hk : k < 4) (hk2 : k < ns.length ∨ k = 0) : ∃ S2, g__law_seed [.d (.scr ns), .d (.int k)] S = .ok (.r S.length) S2 ∧ OkS S2 ∧ S2.length = S.length + 1 ∧ BoxAt S2 S.length := by
  have hp : ∀ g n : Int, 0 ≤ g → 0 ≤ n → ∃ S2, S2 = S ++ [box g n] ∧ OkS S2 ∧ S2.length = S.length + 1 ∧ BoxAt S2 S.length := fun g n hg hn =>
    ⟨_, rfl, hS.push rfl, by simp, g, n, by simp, hg, hn⟩
  have h1 : ∀ i : Int, mulD (.int 7411) (.int i) = some (.int (7411 * i)) := fun i => mul_l (by decide)
  have h3 : ∀ i : Int, modD (.int i) (.int 2147483629) = some (.int (i % 2147483629)) := fun i => mod_r (by decide)
  have h4 : ∀ i : Int, mulD (.int i) (.int 48271) = some (.int (i * 48271)) := fun i => mul_r (by decide)
  have h5 : ∀ i : Int, mulD (.int 31013) (.int i) = some (.int (31013 * i)) := fun i => mul_l (by decide)
  have h2 : (2 : Nat) ≤ sizeLine := by decide
  by_cases hl : k < ns.length
  · have hv : atI ns (k : Int) = some ns[k] := by
      unfold atI ixN
      rw [if_pos (by omega), if_pos (by omega)]
      simp [hl]
    by_cases hg : (1000000000000000000 : Int) ≤ (if ns[k] < 0 then -ns[k] else ns[k])
    · obtain ⟨S2, rfl, r⟩ := hp (if ns[k] < 0 then -ns[k] else ns[k]) (((if ns[k] < 0 then -ns[k] else ns[k]) % 2147483629 * 48271 + 31013 * k) % 2147483629 + 1) (by omega) (by omega)
      refine ⟨_, ?_, r⟩
      unfold g__law_seed runR b__law_seed
      simp [ev0, s_seq, s_if, s_nil, s_expr, s_set, s_ret, s_retP, s_retN, s_retNP, s_retT, s_asg, s_par, s_sub, s_fld, m_tb, m_op2, m_ix, m_var, m_c, m_call, m_cons, m_nil, m_star, m_tup, m_lst, m_lstN, m_attr, m_bm, m_slice, m_part, m_no, m_if, m_andb, m_orb, m_notb, m_and, m_or, m_not, m_bl, m_truth, m_chain, R.bind, R.so, RO.then, items, ixO, ixD, intX, optR, op2, X.get, tb, dispT, dispL, dispN, attrO, slX, truthX, truthD, arity, withD, endE, endP, keepX, setO, fldO, putX, intF, lenF, lenS, lenD, intsF, ints?, absI, minI, maxI, ds?, gets, callP, X.isD, D.noL, D.noLs, D.noLf, isLst, lstOf, add_r, sub_r, gt_r, ge_r, lt_r, le_r, h1, hl, hv, pow18, hg, h3, h4, h5, h2, box]
    · obtain ⟨S2, rfl, r⟩ := hp 0 (((if ns[k] < 0 then -ns[k] else ns[k]) % 2147483629 * 48271 + 31013 * k) % 2147483629 + 1) (by decide) (by omega)
      refine ⟨_, ?_, r⟩
      unfold g__law_seed runR b__law_seed
      simp [ev0, s_seq, s_if, s_nil, s_expr, s_set, s_ret, s_retP, s_retN, s_retNP, s_retT, s_asg, s_par, s_sub, s_fld, m_tb, m_op2, m_ix, m_var, m_c, m_call, m_cons, m_nil, m_star, m_tup, m_lst, m_lstN, m_attr, m_bm, m_slice, m_part, m_no, m_if, m_andb, m_orb, m_notb, m_and, m_or, m_not, m_bl, m_truth, m_chain, R.bind, R.so, RO.then, items, ixO, ixD, intX, optR, op2, X.get, tb, dispT, dispL, dispN, attrO, slX, truthX, truthD, arity, withD, endE, endP, keepX, setO, fldO, putX, intF, lenF, lenS, lenD, intsF, ints?, absI, minI, maxI, ds?, gets, callP, X.isD, D.noL, D.noLs, D.noLf, isLst, lstOf, add_r, sub_r, gt_r, ge_r, lt_r, le_r, h1, hl, hv, pow18, hg, h3, h4, h5, h2, box]
  · have hk0 : k = 0 := by omega
    have hn : ns = [] := List.length_eq_zero_iff.mp (by omega)
    subst hk0 hn
    obtain ⟨S2, rfl, r⟩ := hp 0 ((37 % 2147483629 * 48271 + 31013 * 0) % 2147483629 + 1) (by decide) (by decide)
    refine ⟨_, ?_, r⟩
    unfold g__law_seed runR b__law_seed
    simp [ev0, s_seq, s_if, s_nil, s_expr, s_set, s_ret, s_retP, s_retN, s_retNP, s_retT, s_asg, s_par, s_sub, s_fld, m_tb, m_op2, m_ix, m_var, m_c, m_call, m_cons, m_nil, m_star, m_tup, m_lst, m_lstN, m_attr, m_bm, m_slice, m_part, m_no, m_if, m_andb, m_orb, m_notb, m_and, m_or, m_not, m_bl, m_truth, m_chain, R.bind, R.so, RO.then, items, ixO, ixD, intX, optR, op2, X.get, tb, dispT, dispL, dispN, attrO, slX, truthX, truthD, arity, withD, endE, endP, keepX, setO, fldO, putX, intF, lenF, lenS, lenD, intsF, ints?, absI, minI, maxI, ds?, gets, callP, X.isD, D.noL, D.noLs, D.noLf, isLst, lstOf, add_r, sub_r, gt_r, ge_r, lt_r, le_r, h1, pow18, h3, h4, h5, h2, box]
end Lw
set_option Elab.async false
set_option linter.all false
set_option maxRecDepth 100000
set_option maxHeartbeats 4000000
namespace Lw
open PySem PySem.Spec L2 Bv
open PyProof.Rows hiding St
variable [HasW]
theorem cutL_to {α : Type} (xs : List α) {h : Int} (h0 : 0 ≤ h) (h1 : h ≤ xs.length) : cutL xs none (some h) = xs.take h.toNat := by
  have e : HT.sIx xs.length xs.length (some h) = h.toNat := by
    show (if h < 0 then (h + (xs.length : Int)).toNat else min h.toNat xs.length) = h.toNat
    rw [if_neg (by omega)]
    omega
  unfold cutL
  rw [e]
  simp [HT.sIx]
theorem cutL_one {α : Type} (x : α) (xs : List α) : cutL (x :: xs) (some 1) none = xs := by
  unfold cutL
  simp [HT.sIx]
def NAMES : List Str := ["none", "doubt", "good", "old", "a", "ab", "bad", "zzzzz", "give", "marks", "shown", "kept"]
theorem marks_ok {S : Sto} {b : Nat} (hS : OkS S) (hb : BoxAt S b) : ∃ (m0 : Str) (ms : List Str) (S2 : Sto), g__law_marks [.r b] S = .ok (.d (.lst ((m0 :: ms).map D.str))) S2 ∧ (∀ x ∈ m0 :: ms, x ∈ NAMES) ∧ ms.length < 4 ∧ 0 < ms.length ∧ (m0 :: ms).Nodup ∧ Drew S b S2 := by
  obtain ⟨r, S1, e1, hp, d1⟩ := mixed_ok (ds := NAMES.map D.str) hS hb (by decide)
  obtain ⟨d, S2, e2, d0, dm, d2⟩ := choose_ok (m := 3) (d1.ok hS) (d1.at_ hb.lt) (by decide)
  have hl : r.length = 12 := by rw [hp.length_eq]; rfl
  have ht := cutL_to r (h := 2 + d) (by omega) (by omega)
  have hm : ∀ x ∈ r, ∃ s ∈ NAMES, x = D.str s := fun x hx => by
    obtain ⟨s, h1, h2⟩ := List.mem_map.mp (hp.mem_iff.mp hx)
    exact ⟨s, h1, h2.symm⟩
  have hstr : ∀ l : List D, (∀ x ∈ l, ∃ s ∈ NAMES, x = D.str s) → ∃ ss : List Str, l = ss.map D.str ∧ ∀ x ∈ ss, x ∈ NAMES := fun l => by
    induction l with
    | nil => exact fun _ => ⟨[], rfl, by simp⟩
    | cons x l ih =>
      intro h
      obtain ⟨s, h1, rfl⟩ := h x (by simp)
      obtain ⟨ss, rfl, h2⟩ := ih fun y hy => h y (List.mem_cons_of_mem _ hy)
      exact ⟨s :: ss, rfl, fun y hy => (List.mem_cons.mp hy).elim (fun e => e ▸ h1) (h2 y)⟩
  obtain ⟨ss, hss, hsm⟩ := hstr (r.take (2 + d).toNat) fun x hx => hm x (List.mem_of_mem_take hx)
  have hsl : ss.length = (2 + d).toNat := by
    have := congrArg List.length hss
    rw [List.length_take, List.length_map] at this
    omega
  cases ss with
  | nil => simp at hsl; omega
  | cons m0 ms =>
    have hnd : ((m0 :: ms).map D.str).Nodup := by
      rw [← hss]
      have hN : (NAMES.map D.str).Nodup := by
        refine List.Pairwise.map D.str (fun a b h e => h (by cases e; rfl)) (show NAMES.Nodup by decide +kernel)
      exact ((hp.nodup_iff).mpr hN).sublist (List.take_sublist _ _)
    refine ⟨m0, ms, S2, ?_, hsm, ?_, ?_, List.Pairwise.of_map D.str (fun a b h e => h (by rw [e])) hnd, d1.trans d2⟩
    · have hc := (d2.ok (d1.ok hS)).cut0
      rw [d2.len, d1.len] at hc
      have hd : (NAMES.map D.str).length ≤ sizeLine := by decide
      have e1' : g__law_mixed [.r b, .d (.lst [.str "none", .str "doubt", .str "good", .str "old", .str "a", .str "ab", .str "bad", .str "zzzzz", .str "give", .str "marks", .str "shown", .str "kept"])] S = .ok (.d (.lst r)) S1 := e1
      rw [hss] at ht
      refine runE_ok (S1 := S2) (x := .d (.lst ((m0 :: ms).map D.str))) ?_ rfl hc
      have hd' : (12 : Nat) ≤ sizeLine := by decide
      unfold b__law_marks
      simp [ev0, s_seq, s_if, s_nil, s_expr, s_set, s_ret, s_retP, s_retN, s_retNP, s_retT, s_asg, s_par, s_sub, s_fld, m_tb, m_op2, m_ix, m_var, m_c, m_call, m_cons, m_nil, m_star, m_tup, m_lst, m_lstN, m_attr, m_bm, m_slice, m_part, m_no, m_if, m_andb, m_orb, m_notb, m_and, m_or, m_not, m_bl, m_truth, m_chain, R.bind, R.so, RO.then, items, ixO, ixD, intX, optR, op2, X.get, tb, dispT, dispL, dispN, attrO, slX, truthX, truthD, arity, withD, endE, endP, keepX, setO, fldO, putX, intF, lenF, lenS, lenD, intsF, ints?, absI, minI, maxI, ds?, gets, callP, X.isD, D.noL, D.noLs, D.noLf, isLst, lstOf, add_r, sub_r, gt_r, ge_r, lt_r, le_r, e1', e2, ht, hd']
    · simp at hsl; omega
    · simp at hsl; omega
def HAPS : List Str := ["give", "give", "carry", "carry", "drop", "back", "right", "wrong"]
def tupR (w o t : Str) (k : Bool) : D := .tup [.str w, .str o, .str t, .bl k]
def RowOk (w o t : Str) (k : Bool) : Prop := w ∈ HAPS ∧ o ∈ ("any" : Str) :: NAMES ∧ t ∈ ("same" : Str) :: NAMES ∧ (w ≠ "give" → k = true)
/-- .. of a tool of these marks -/
def RowIn (m0 : Str) (ms : List Str) (w o t : Str) (k : Bool) : Prop := w ∈ HAPS ∧ o ∈ ("any" : Str) :: m0 :: ms ∧ t ∈ ("same" : Str) :: m0 :: ms ∧ (w ≠ "give" → k = true ∧ o ∈ ("any" : Str) :: ms)
theorem RowIn.ok {m0 : Str} {ms : List Str} {w o t : Str} {k : Bool} (hm : ∀ x ∈ m0 :: ms, x ∈ NAMES) (h : RowIn m0 ms w o t k) : RowOk w o t k :=
  ⟨h.1, (List.mem_cons.mp h.2.1).elim (fun e => by rw [e]; simp) (fun e => List.mem_cons_of_mem _ (hm o e)), (List.mem_cons.mp h.2.2.1).elim (fun e => by rw [e]; simp) (fun e => List.mem_cons_of_mem _ (hm t e)), fun e => (h.2.2.2 e).1⟩
theorem row_ok {S : Sto} {b : Nat} {m0 : Str} {ms : List Str} (hS : OkS S) (hb : BoxAt S b) (hm : ∀ x ∈ m0 :: ms, x ∈ NAMES) (hl : ms.length < 4) (hl0 : 0 < ms.length) : ∃ (w o t : Str) (k : Bool) (S2 : Sto), g__law_row [.r b, .d (.lst ((m0 :: ms).map D.str))] S = .ok (.d (tupR w o t k)) S2 ∧ RowIn m0 ms w o t k ∧ Drew S b S2 := by
  -- the happening
  obtain ⟨dw, S1, e1, hwD, d1⟩ := one_of_ok (ds := HAPS.map D.str) hS hb (by decide) (by decide)
  obtain ⟨w, hw, rfl⟩ := List.mem_map.mp hwD
  have hS1 : OkS S1 := d1.ok hS
  have hb1 := d1.at_ hb.lt
  -- the mark
  obtain ⟨dO, S2, e2, hoD, d2⟩ := one_of_ok (ds := ms.map D.str ++ [.str "any", .str "any"]) hS1 hb1 (by simp) (by simp; omega)
  have hoE : ∃ o, dO = .str o ∧ o ∈ ("any" : Str) :: ms := by
    rcases List.mem_append.mp hoD with h | h
    · obtain ⟨o, h1, rfl⟩ := List.mem_map.mp h
      exact ⟨o, rfl, List.mem_cons_of_mem _ h1⟩
    · exact ⟨"any", by simpa using h, by simp⟩
  obtain ⟨o, rfl, ho⟩ := hoE
  have hS2 : OkS S2 := d2.ok hS1
  have hb2 := d2.at_ hb1.lt
  have hz : ∀ n : Nat, n < 1000 → n ≤ sizeLine := fun n h => by rw [sizeLine_eq]; omega
  have hz1 : (ms.map D.str).length + 2 ≤ sizeLine := hz _ (by simp; omega)
  have hz2 : (ms.map D.str).length + 1 + 1 ≤ sizeLine := hz _ (by simp; omega)
  have e1' : g__law_one_of [.r b, .d (.lst [.str "give", .str "give", .str "carry", .str "carry", .str "drop", .str "back", .str "right", .str "wrong"])] S = .ok (.d (.str w)) S1 := e1
  have h8 : (8 : Nat) ≤ sizeLine := hz _ (by decide)
  have h2 : (2 : Nat) ≤ sizeLine := hz _ (by decide)
  have h1 : (1 : Nat) ≤ sizeLine := hz _ (by decide)
  have h4 : (4 : Nat) ≤ sizeLine := hz _ (by decide)
  have ha1 : addD (.lst (ms.map D.str)) (.lst [.str "any", .str "any"]) = some (.lst (ms.map D.str ++ [.str "any", .str "any"])) := if_pos hz1
  have ha2 : addD (.lst (D.str m0 :: ms.map D.str)) (.lst [.str "same"]) = some (.lst (D.str m0 :: (ms.map D.str ++ [.str "same"]))) := if_pos hz2
  have hcut : cutL (D.str m0 :: ms.map D.str) (some 1) none = ms.map D.str := cutL_one _ _
  -- what follows: the new mark, from any state of draws
  have last : ∀ (T : Sto) (o : Str) (k : Bool), OkS T → BoxAt T b → Drew S b T → o ∈ ("any" : Str) :: m0 :: ms → (w ≠ "give" → k = true ∧ o ∈ ("any" : Str) :: ms) → ∃ (t : Str) (T2 : Sto), g__law_one_of [.r b, .d (.lst (D.str m0 :: (ms.map D.str ++ [.str "same"])))] T = .ok (.d (.str t)) T2 ∧ RowIn m0 ms w o t k ∧ Drew S b T2 := fun T o k hT hbT dT ho hk => by
    obtain ⟨dt, T2, e5, htD, d5⟩ := one_of_ok (ds := D.str m0 :: ms.map D.str ++ [.str "same"]) hT hbT (by simp) (by simp; omega)
    have htE : ∃ t, dt = .str t ∧ t ∈ ("same" : Str) :: m0 :: ms := by
      rcases List.mem_append.mp htD with h | h
      · obtain ⟨t, h1, rfl⟩ := List.mem_map.mp (show dt ∈ (m0 :: ms).map D.str from h)
        exact ⟨t, rfl, List.mem_cons_of_mem _ h1⟩
      · exact ⟨"same", by simpa using h, by simp⟩
    obtain ⟨t, rfl, ht⟩ := htE
    exact ⟨t, T2, e5, ⟨hw, ho, ht, hk⟩, dT.trans d5⟩
  have dS2 : Drew S b S2 := d1.trans d2
  by_cases hg : w = "give"
  · obtain ⟨c, S3, e3, c0, c1, d3⟩ := choose_ok (m := 4) hS2 hb2 (by decide)
    have hS3 : OkS S3 := d3.ok hS2
    have hb3 := d3.at_ hb2.lt
    obtain ⟨c2, S4, e4, c20, c21, d4⟩ := choose_ok (m := 4) hS3 hb3 (by decide)
    have hS4 : OkS S4 := d4.ok hS3
    have hb4 := d4.at_ hb3.lt
    have dS4 : Drew S b S4 := (dS2.trans d3).trans d4
    obtain ⟨t, T2, e5, hr, d5⟩ := last S4 (if c = 0 then m0 else o) (decide (0 < c2)) hS4 hb4 dS4 (by
      split
      · simp
      · exact (List.mem_cons.mp ho).elim (fun e => by rw [e]; simp) fun e => List.mem_cons_of_mem _ (List.mem_cons_of_mem _ e)) (fun h => absurd hg h)
    refine ⟨w, _, t, _, T2, ?_, hr, d5⟩
    have hc := (d5.ok hS).cut0
    rw [d5.len] at hc
    subst hg
    refine runE_ok (S1 := T2) (x := .d (tupR "give" (if c = 0 then m0 else o) t (decide (0 < c2)))) ?_ rfl hc
    have q0 : eqD (.int c) (.int 0) = some (.bl (decide (c = 0))) := eqi_r
    unfold b__law_row
    by_cases hc0 : c = 0
    · simp [ev0, s_seq, s_if, s_nil, s_expr, s_set, s_ret, s_retP, s_retN, s_retNP, s_retT, s_asg, s_par, s_sub, s_fld, m_tb, m_op2, m_ix, m_var, m_c, m_call, m_cons, m_nil, m_star, m_tup, m_lst, m_lstN, m_attr, m_bm, m_slice, m_part, m_no, m_if, m_andb, m_orb, m_notb, m_and, m_or, m_not, m_bl, m_truth, m_chain, R.bind, R.so, RO.then, items, ixO, ixD, intX, optR, op2, X.get, tb, dispT, dispL, dispN, attrO, slX, truthX, truthD, arity, withD, endE, endP, keepX, setO, fldO, putX, intF, lenF, lenS, lenD, intsF, ints?, absI, minI, maxI, ds?, gets, callP, X.isD, D.noL, D.noLs, D.noLf, isLst, lstOf, add_r, sub_r, gt_r, ge_r, lt_r, le_r, e1', e2, e3, e4, h8, h2, h1, h4, ha1, ha2, hcut, eqs_r, nes_r, eqi_r, hc0, tupR, atI, ixN, e5]
    · simp [ev0, s_seq, s_if, s_nil, s_expr, s_set, s_ret, s_retP, s_retN, s_retNP, s_retT, s_asg, s_par, s_sub, s_fld, m_tb, m_op2, m_ix, m_var, m_c, m_call, m_cons, m_nil, m_star, m_tup, m_lst, m_lstN, m_attr, m_bm, m_slice, m_part, m_no, m_if, m_andb, m_orb, m_notb, m_and, m_or, m_not, m_bl, m_truth, m_chain, R.bind, R.so, RO.then, items, ixO, ixD, intX, optR, op2, X.get, tb, dispT, dispL, dispN, attrO, slX, truthX, truthD, arity, withD, endE, endP, keepX, setO, fldO, putX, intF, lenF, lenS, lenD, intsF, ints?, absI, minI, maxI, ds?, gets, callP, X.isD, D.noL, D.noLs, D.noLf, isLst, lstOf, add_r, sub_r, gt_r, ge_r, lt_r, le_r, e1', e2, e3, e4, h8, h2, h1, h4, ha1, ha2, hcut, eqs_r, nes_r, eqi_r, hc0, tupR, atI, ixN, e5]
  · obtain ⟨t, T2, e5, hr, d5⟩ := last S2 o true hS2 hb2 dS2 ((List.mem_cons.mp ho).elim (fun e => by rw [e]; simp) fun e => List.mem_cons_of_mem _ (List.mem_cons_of_mem _ e)) (fun _ => ⟨rfl, ho⟩)
    refine ⟨w, o, t, true, T2, ?_, hr, d5⟩
    have hc := (d5.ok hS).cut0
    rw [d5.len] at hc
    refine runE_ok (S1 := T2) (x := .d (tupR w o t true)) ?_ rfl hc
    unfold b__law_row
    simp [ev0, s_seq, s_if, s_nil, s_expr, s_set, s_ret, s_retP, s_retN, s_retNP, s_retT, s_asg, s_par, s_sub, s_fld, m_tb, m_op2, m_ix, m_var, m_c, m_call, m_cons, m_nil, m_star, m_tup, m_lst, m_lstN, m_attr, m_bm, m_slice, m_part, m_no, m_if, m_andb, m_orb, m_notb, m_and, m_or, m_not, m_bl, m_truth, m_chain, R.bind, R.so, RO.then, items, ixO, ixD, intX, optR, op2, X.get, tb, dispT, dispL, dispN, attrO, slX, truthX, truthD, arity, withD, endE, endP, keepX, setO, fldO, putX, intF, lenF, lenS, lenD, intsF, ints?, absI, minI, maxI, ds?, gets, callP, X.isD, D.noL, D.noLs, D.noLf, isLst, lstOf, add_r, sub_r, gt_r, ge_r, lt_r, le_r, e1', e2, h8, h2, h1, h4, ha1, ha2, hcut, eqs_r, nes_r, hg, tupR, e5]
end Lw
set_option Elab.async false
set_option linter.all false
set_option maxRecDepth 100000
set_option maxHeartbeats 4000000
/-! Words of a row, and what a list of words tells. -/
namespace Lw
open PySem PySem.Spec L2 Bv
open PyProof.Rows hiding St
variable [HasW]
abbrev SIX : List Str := ["give", "carry", "drop", "back", "right", "wrong"]
abbrev HAPT : D := .tup (SIX.map D.str)
abbrev TAKT : D := .tup [.str "keep", .str "take"]
def MORE : List Str := ["any", "to", "take", "keep", "same", "give", "", "good", "toolong", "Drop", "drop"]
def BW : List Str := HAPS ++ ("any" : Str) :: NAMES ++ ("same" : Str) :: NAMES ++ MORE ++ (["a\n"] : List Str)
def okPR : PR → D → Bool
  | .ok d, e => decide (d = e)
  | _, _ => false
theorem okPR_ok {p : PR} {d : D} (h : okPR p d = true) : p = .ok d := by
  cases p with
  | ok e => rw [of_decide_eq_true h]
  | _ => cases h
theorem hz4 {n : Nat} (h : n < 2000) : n ≤ sizeLine := by rw [sizeLine_eq]; omega
def nm (s : Str) : Bool := okPR (g_is_name [.str s]) (.bl true)
theorem words_tab : (BW.all fun s => okPR (g_is_word [.str s, HAPT]) (.bl (decide (s ∈ SIX))) && (decide (ninD (.str s) HAPT = some (.bl (!decide (s ∈ SIX)))) && decide (inD (.str s) TAKT = some (.bl (decide (s = "take" ∨ s = "keep")))) && decide (ninD (.str s) (.tup [.str "take", .str "keep"]) = some (.bl (!decide (s = "take" ∨ s = "keep")))))) = true := by kernel_rfl
theorem names_tab : (BW.all fun s => okPR (g_is_name [.str s]) (.bl (nm s)) && okPR (g__law_name [.str s]) (.bl (nm s))) = true := by kernel_rfl
theorem plain_tab : (BW.all fun x => decide (x.length ≤ 7) && (decide ((32 : Nat) ∉ x.cps.toList) && PyData.strOk x)) = true := by kernel_rfl
section
variable {s : Str} (h : s ∈ BW)
include h
theorem bw_word : g_is_word [.str s, HAPT] = .ok (.bl (decide (s ∈ SIX))) := okPR_ok (Bool.and_eq_true_iff.mp (List.all_eq_true.mp words_tab s h)).1
theorem bw_nin : ninD (.str s) HAPT = some (.bl (!decide (s ∈ SIX))) := of_decide_eq_true (Bool.and_eq_true_iff.mp (Bool.and_eq_true_iff.mp (Bool.and_eq_true_iff.mp (List.all_eq_true.mp words_tab s h)).2).1).1
theorem bw_tak : inD (.str s) TAKT = some (.bl (decide (s = "take" ∨ s = "keep"))) := of_decide_eq_true (Bool.and_eq_true_iff.mp (Bool.and_eq_true_iff.mp (Bool.and_eq_true_iff.mp (List.all_eq_true.mp words_tab s h)).2).1).2
theorem bw_ntak : ninD (.str s) (.tup [.str "take", .str "keep"]) = some (.bl (!decide (s = "take" ∨ s = "keep"))) := of_decide_eq_true (Bool.and_eq_true_iff.mp (Bool.and_eq_true_iff.mp (List.all_eq_true.mp words_tab s h)).2).2
theorem bw_name : g_is_name [.str s] = .ok (.bl (nm s)) := okPR_ok (Bool.and_eq_true_iff.mp (List.all_eq_true.mp names_tab s h)).1
theorem bw_lname : g__law_name [.str s] = .ok (.bl (nm s)) := okPR_ok (Bool.and_eq_true_iff.mp (List.all_eq_true.mp names_tab s h)).2
theorem bw_plain : s.length ≤ 7 ∧ (32 : Nat) ∉ s.cps.toList ∧ PyData.strOk s = true := by
  have q := List.all_eq_true.mp plain_tab s h
  simp only [Bool.and_eq_true, decide_eq_true_eq] at q
  exact q
end
/-- a list of words that may stand in a text -/
structure Ws (ws : List Str) : Prop where
  ne : ws ≠ []
  len : ws.length ≤ 6
  mem : ∀ z ∈ ws, z ∈ BW
def txt (ws : List Str) : Str := Str.join " " ws
def tls (l : List Str) : D := .lst (l.map D.str)
theorem join_le {a : Str} {k : Nat} : ∀ {l : List Str}, (∀ z ∈ l, z.length ≤ k) → (Str.join a l).length ≤ l.length * (k + a.length)
  | [], _ => by
    have e : (Str.join a []).length = 0 := by first | rfl | (unfold Str.join; decide +kernel)
    rw [e]; exact Nat.zero_le _
  | [x], h => by
    have := h x (by simp)
    show x.length ≤ 1 * _
    omega
  | x :: y :: r, h => by
    have ih := join_le (a := a) (k := k) (l := y :: r) fun z hz => h z (List.mem_cons_of_mem _ hz)
    have hx := h x (by simp)
    have e : Str.join a (x :: y :: r) = x ++ a ++ Str.join a (y :: r) := rfl
    have l2 : ∀ a b : Str, (a ++ b).length = a.length + b.length := fun a b => by
      show (a.cps ++ b.cps).size = _
      rw [Array.size_append]
      rfl
    rw [e, l2, l2]
    simp only [List.length_cons] at ih ⊢
    have : (r.length + 1 + 1) * (k + a.length) = (r.length + 1) * (k + a.length) + (k + a.length) := by rw [Nat.succ_mul]
    omega
theorem sp1 : (" " : Str).length = 1 := by decide +kernel
section
variable {ws : List Str} {T : Sto}
theorem Ws.txtLen (h : Ws ws) : (txt ws).length ≤ 48 := by
  have q := join_le (a := " ") (k := 7) (l := ws) fun z hz => (bw_plain (h.mem z hz)).1
  rw [sp1] at q
  have := h.len
  show (Str.join " " ws).length ≤ 48
  omega
theorem Ws.split (h : Ws ws) : Txt.split (txt ws) " " = ws := by
  have hj : txt ws = Txt.join " " ws := (StrLaws.glued_eq_join ..).symm
  rw [hj]
  exact TL.split_join (s := 32) (S := []) (by decide +kernel) (by decide +kernel) h.ne fun p hp => (bw_plain (h.mem p hp)).2.1
theorem Ws.gsplit (h : Ws ws) : g_split (txt ws) (.d (.str " ")) T = .ok (.d (tls ws)) T := by
  have b1 : ((" " : Str).length == 0) = false := by decide +kernel
  have b2 : decide ((txt ws).length + 2 ≤ sizeLine) = true := decide_eq_true (by have := h.txtLen; rw [sizeLine_eq]; omega)
  have b3 : okStrs ws = true := List.all_eq_true.mpr fun z hz => (bw_plain (h.mem z hz)).2.2
  unfold g_split
  show (if !((" " : Str).length == 0) && decide ((txt ws).length + 2 ≤ sizeLine) && okStrs (Txt.split (txt ws) " ") then R.ok (X.d (.lst ((Txt.split (txt ws) " ").map .str))) T else .bad) = _
  rw [h.split, b1, b2, b3]
  rfl
theorem strOk_txt (h : Ws ws) : PyData.strOk (txt ws) = true := strOk_join (by decide +kernel) fun z hz => (bw_plain (h.mem z hz)).2.2
end
/-- what four words tell -/
def tailQ : List Str → Bool
  | [a, b, c, d] => decide (c = "to") && (decide (a ∈ SIX) && ((nm b || decide (b = "any")) && (nm d || decide (d = "same"))))
  | _ => false
def rowB (a : Str) : List Str → Bool
  | [b, c, d, e] => decide (c = "take" ∨ c = "keep") && tailQ [a, b, d, e]
  | _ => false
def rowQ : List Str → Bool
  | [] => false
  | a :: l => if a = "give" then rowB a l else tailQ (a :: l)
theorem rowB_no {a : Str} {l : List Str} (h : l.length ≠ 4) : rowB a l = false := by
  match l with
  | [] => rfl
  | [_] => rfl
  | [_, _] => rfl
  | [_, _, _] => rfl
  | [_, _, _, _] => exact absurd rfl h
  | _ :: _ :: _ :: _ :: _ :: _ => rfl
end Lw
set_option Elab.async false
set_option linter.all false
set_option maxRecDepth 100000
set_option maxHeartbeats 4000000
/-! The law's own reader. -/
namespace Lw
open PySem PySem.Spec L2 Bv
open PyProof.Rows hiding St
variable [HasW]
def lr_0 : MS := (s_set 1 (m_sm1 g_split (m_var 0) (m_c (.str " "))))
def lr_1C : MG Bool := (m_tb (m_op2 eqD (m_ix (m_var 1) (m_c (.int 0))) (m_c (.str "give"))))
def lr_1T_0C : MG Bool := (m_orb (m_tb (m_op2 neD (m_call lenF (m_cons (m_var 1) (m_nil))) (m_c (.int 5)))) (m_tb (m_op2 ninD (m_ix (m_var 1) (m_c (.int 2))) (m_tup (m_cons (m_c (.str "take")) (m_cons (m_c (.str "keep")) (m_nil)))))))
def lr_1T_0T : MS := (s_retP (m_c (.bl false)))
def lr_1T_0 : MS := (s_if lr_1T_0C lr_1T_0T s_nil)
def lr_1T_1 : MS := (s_set 1 (m_op2 addD (m_slice (m_var 1) (m_no) (m_part (m_c (.int 2)))) (m_slice (m_var 1) (m_part (m_c (.int 3))) (m_no))))
def lr_1T : MS := (s_seq lr_1T_0 lr_1T_1)
def lr_1 : MS := (s_if lr_1C lr_1T s_nil)
def lr_2C : MG Bool := (m_orb (m_tb (m_op2 neD (m_call lenF (m_cons (m_var 1) (m_nil))) (m_c (.int 4)))) (m_orb (m_tb (m_op2 ninD (m_ix (m_var 1) (m_c (.int 0))) (m_tup (m_cons (m_c (.str "give")) (m_cons (m_c (.str "carry")) (m_cons (m_c (.str "drop")) (m_cons (m_c (.str "back")) (m_cons (m_c (.str "right")) (m_cons (m_c (.str "wrong")) (m_nil)))))))))) (m_tb (m_op2 neD (m_ix (m_var 1) (m_c (.int 2))) (m_c (.str "to"))))))
def lr_2T : MS := (s_retP (m_c (.bl false)))
def lr_2 : MS := (s_if lr_2C lr_2T s_nil)
def lr_3 : MS := (s_retP (m_and (m_or (m_call (arity 1 (withD [] (callP g__law_name))) (m_cons (m_ix (m_var 1) (m_c (.int 1))) (m_nil))) (m_op2 eqD (m_ix (m_var 1) (m_c (.int 1))) (m_c (.str "any")))) (m_or (m_call (arity 1 (withD [] (callP g__law_name))) (m_cons (m_ix (m_var 1) (m_c (.int 3))) (m_nil))) (m_op2 eqD (m_ix (m_var 1) (m_c (.int 3))) (m_c (.str "same"))))))
def lr : MS := (s_seq lr_0 (s_seq lr_1 (s_seq lr_2 lr_3)))
theorem lr_is : b__law_is_row = lr := by kernel_rfl
section
variable {ws l : List Str} {S T : Sto} {t : D}
theorem four {l : List Str} (h : l.length = 4) : ∃ a b c d, l = [a, b, c, d] := by
  match l, h with
  | [a, b, c, d], _ => exact ⟨a, b, c, d, rfl⟩
theorem tailQ_no {l : List Str} (h : l.length ≠ 4) : tailQ l = false := by
  match l with
  | [] => rfl
  | [_] => rfl
  | [_, _] => rfl
  | [_, _, _] => rfl
  | [_, _, _, _] => exact absurd rfl h
  | _ :: _ :: _ :: _ :: _ :: _ => rfl
theorem len_tls {l : List Str} : lenF [.d (tls l)] T = .ok (.d (.int l.length)) T := by
  show lenF [.d (.lst (l.map D.str))] T = _
  simp [lenF, lenS, items]
theorem nei_t {i j : Int} (h : i ≠ j) : neD (.int i) (.int j) = some (.bl true) := by
  have e : neD (.int i) (.int j) = some (.bl (!(i == j))) := by
    show some (D.bl (!PyData.eqv (.int i) (.int j))) = _
    simp [PyData.eqv]
  rw [e, beq_false_of_ne h]
  rfl
theorem nei_f {i : Int} : neD (.int i) (.int i) = some (.bl false) := by
  have e : neD (.int i) (.int i) = some (.bl (!(i == i))) := by
    show some (D.bl (!PyData.eqv (.int i) (.int i))) = _
    simp [PyData.eqv]
  rw [e, beq_self_eq_true]
  rfl
abbrev evL (t : D) (l : List Str) : Ev := [some (.d t), some (.d (tls l))]
theorem tail_law (hm : ∀ z ∈ l, z ∈ BW) (hl : l.length ≤ 6) : s_seq lr_2 lr_3 (evL t l) S = .go (.rp (.bl (tailQ l))) S := by
  by_cases h4 : l.length = 4
  · obtain ⟨a, b, c, d, rfl⟩ := four h4
    have ma := hm a (by simp)
    have n0 := bw_nin ma
    have n1 := bw_lname (hm b (by simp))
    have n3 := bw_lname (hm d (by simp))
    have eto : neD (.str c) (.str "to") = some (.bl (!decide (c = "to"))) := nes_r
    have eany : eqD (.str b) (.str "any") = some (.bl (decide (b = "any"))) := eqs_r
    have esame : eqD (.str d) (.str "same") = some (.bl (decide (d = "same"))) := eqs_r
    have l4 : neD (.int 4) (.int 4) = some (.bl false) := nei_f
    show _ = RO.go (.rp (.bl (decide (c = "to") && (decide (a ∈ SIX) && ((nm b || decide (b = "any")) && (nm d || decide (d = "same"))))))) S
    by_cases h0 : a ∈ SIX
    · rw [decide_eq_true h0] at n0 ⊢
      by_cases h2 : c = "to"
      · rw [decide_eq_true h2] at eto ⊢
        have p2 : lr_2 (evL t [a, b, c, d]) S = .go (.nx (evL t [a, b, c, d])) S := by
          exact (st_iff (ev_orf (ev_tb (ev_op2 (ev_call (ev_cons (ev_var rfl) ev_nil) (rfl)) ev_c (get_d) (get_d) (l4))) (ev_orf (ev_tb (ev_op2 (ev_ix (ev_var rfl) ev_c (rfl)) (ev_tup (ev_cons ev_c (ev_cons ev_c (ev_cons ev_c (ev_cons ev_c (ev_cons ev_c (ev_cons ev_c ev_nil)))))) (rfl) (hz4 (by decide))) (get_d) (get_d) (n0))) (ev_tb (ev_op2 (ev_ix (ev_var rfl) ev_c (rfl)) ev_c (get_d) (get_d) (eto))))) st_nil)
        refine st_seq p2 ?_
        exact (st_retP (ev_andbl (ev_orbl (ev_call (ev_cons (ev_ix (ev_var rfl) ev_c (rfl)) ev_nil) (ev_def rfl (ev_P1 (n1)))) (ev_op2 (ev_ix (ev_var rfl) ev_c (rfl)) ev_c (get_d) (get_d) (eany))) (ev_orbl (ev_call (ev_cons (ev_ix (ev_var rfl) ev_c (rfl)) ev_nil) (ev_def rfl (ev_P1 (n3)))) (ev_op2 (ev_ix (ev_var rfl) ev_c (rfl)) ev_c (get_d) (get_d) (esame)))) (get_d))
      · rw [decide_eq_false h2] at eto ⊢
        exact st_seqP (st_ift (ev_orf (ev_tb (ev_op2 (ev_call (ev_cons (ev_var rfl) ev_nil) (rfl)) ev_c (get_d) (get_d) (l4))) (ev_orf (ev_tb (ev_op2 (ev_ix (ev_var rfl) ev_c (rfl)) (ev_tup (ev_cons ev_c (ev_cons ev_c (ev_cons ev_c (ev_cons ev_c (ev_cons ev_c (ev_cons ev_c ev_nil)))))) (rfl) (hz4 (by decide))) (get_d) (get_d) (n0))) (ev_tb (ev_op2 (ev_ix (ev_var rfl) ev_c (rfl)) ev_c (get_d) (get_d) (eto))))) (st_retP ev_c (get_d)))
    · rw [decide_eq_false h0] at n0 ⊢
      simp only [Bool.false_and, Bool.and_false]
      exact st_seqP (st_ift (ev_orf (ev_tb (ev_op2 (ev_call (ev_cons (ev_var rfl) ev_nil) (rfl)) ev_c (get_d) (get_d) (l4))) (ev_ort (ev_tb (ev_op2 (ev_ix (ev_var rfl) ev_c (rfl)) (ev_tup (ev_cons ev_c (ev_cons ev_c (ev_cons ev_c (ev_cons ev_c (ev_cons ev_c (ev_cons ev_c ev_nil)))))) (rfl) (hz4 (by decide))) (get_d) (get_d) (n0))))) (st_retP ev_c (get_d)))
  · rw [tailQ_no h4]
    have l4 : neD (.int l.length) (.int 4) = some (.bl true) := nei_t (by omega)
    exact st_seqP (st_ift (ev_ort (ev_tb (ev_op2 (ev_call (ev_cons (ev_var rfl) ev_nil) (len_tls)) ev_c (get_d) (get_d) (l4)))) (st_retP ev_c (get_d)))
theorem is_row_ok (h : Ws ws) : g__law_is_row [.str (txt ws)] = .ok (.bl (rowQ ws)) := by
  have sp := h.gsplit (T := [])
  have p0 : lr_0 [some (.d (.str (txt ws))), none] [] = .go (.nx (evL (.str (txt ws)) ws)) [] := by
    exact (st_set (ev_sm1 (ev_var rfl) ev_c (sp)))
  have hm := h.mem
  have hl := h.len
  have hne := h.ne
  unfold g__law_is_row
  rw [lr_is]
  refine runP_rp (S := []) (st_seq p0 ?_)
  match ws with
  | a :: l =>
    have eg : eqD (.str a) (.str "give") = some (.bl (decide (a = "give"))) := eqs_r
    have i0 : ixO ([] : Sto) (.d (tls (a :: l))) 0 = some (.d (.str a)) := by simp [tls, ixO, ixD, items, atI, ixN]
    by_cases hg : a = "give"
    · rw [decide_eq_true hg] at eg
      by_cases h5 : l.length = 4
      · obtain ⟨b, c, d, e, rfl⟩ := four h5
        have nt := bw_ntak (hm c (by simp))
        have l5 : neD (.int 5) (.int 5) = some (.bl false) := nei_f
        show _ = RO.go (.rp (.bl (rowQ [a, b, c, d, e]))) []
        have eq1 : rowQ [a, b, c, d, e] = (decide (c = "take" ∨ c = "keep") && tailQ [a, b, d, e]) := if_pos hg
        rw [eq1]
        by_cases ht : c = "take" ∨ c = "keep"
        · rw [decide_eq_true ht] at nt ⊢
          have ad0 : ∀ xs ys : List D, xs.length + ys.length ≤ sizeLine → addD (.lst xs) (.lst ys) = some (.lst (xs ++ ys)) := fun xs ys h => if_pos h
          have ad := ad0 [.str a, .str b] [.str d, .str e] (hz4 (by simp))
          have p1 : lr_1 (evL (.str (txt [a, b, c, d, e])) [a, b, c, d, e]) [] = .go (.nx (evL (.str (txt [a, b, c, d, e])) [a, b, d, e])) [] := by
            exact (st_ift (ev_tb (ev_op2 (ev_ix (ev_var rfl) ev_c (i0)) ev_c (get_d) (get_d) (eg))) (st_seq (st_iff (ev_orf (ev_tb (ev_op2 (ev_call (ev_cons (ev_var rfl) ev_nil) (rfl)) ev_c (get_d) (get_d) (l5))) (ev_tb (ev_op2 (ev_ix (ev_var rfl) ev_c (rfl)) (ev_tup (ev_cons ev_c (ev_cons ev_c ev_nil)) (rfl) (hz4 (by decide))) (get_d) (get_d) (nt)))) st_nil) (st_set (ev_op2 (ev_slice (ev_var rfl) ev_no (ev_part ev_c) (rfl)) (ev_slice (ev_var rfl) (ev_part ev_c) ev_no (rfl)) (get_d) (get_d) (ad)))))
          rw [Bool.true_and]
          exact st_seq p1 (tail_law (fun z hz => hm z (by simp only [List.mem_cons, List.not_mem_nil, or_false] at hz ⊢; rcases hz with h | h | h | h <;> simp [h])) (by simp))
        · rw [decide_eq_false ht] at nt ⊢
          exact st_seqP (st_ift (ev_tb (ev_op2 (ev_ix (ev_var rfl) ev_c (i0)) ev_c (get_d) (get_d) (eg))) (st_seqP (st_ift (ev_orf (ev_tb (ev_op2 (ev_call (ev_cons (ev_var rfl) ev_nil) (rfl)) ev_c (get_d) (get_d) (l5))) (ev_tb (ev_op2 (ev_ix (ev_var rfl) ev_c (rfl)) (ev_tup (ev_cons ev_c (ev_cons ev_c ev_nil)) (rfl) (hz4 (by decide))) (get_d) (get_d) (nt)))) (st_retP ev_c (get_d)))))
      · have eq1 : rowQ (a :: l) = false := (if_pos hg).trans (rowB_no h5)
        have l5 : neD (.int (a :: l).length) (.int 5) = some (.bl true) := nei_t (by simp only [List.length_cons]; omega)
        rw [eq1]
        exact st_seqP (st_ift (ev_tb (ev_op2 (ev_ix (ev_var rfl) ev_c (i0)) ev_c (get_d) (get_d) (eg))) (st_seqP (st_ift (ev_ort (ev_tb (ev_op2 (ev_call (ev_cons (ev_var rfl) ev_nil) (len_tls)) ev_c (get_d) (get_d) (l5)))) (st_retP ev_c (get_d)))))
    · rw [decide_eq_false hg] at eg
      have eq1 : rowQ (a :: l) = tailQ (a :: l) := if_neg hg
      have p1 : lr_1 (evL (.str (txt (a :: l))) (a :: l)) [] = .go (.nx (evL (.str (txt (a :: l))) (a :: l))) [] := by
        exact (st_iff (ev_tb (ev_op2 (ev_ix (ev_var rfl) ev_c (i0)) ev_c (get_d) (get_d) (eg))) st_nil)
      rw [eq1]
      exact st_seq p1 (tail_law hm hl)
end
end Lw
set_option Elab.async false
set_option linter.all false
set_option maxRecDepth 100000
set_option maxHeartbeats 4000000
/-! The program's reader. -/
namespace Lw
open PySem PySem.Spec L2 Bv
open PyProof.Rows hiding St
variable [HasW]
def ri_0C : MG Bool := (m_notb (m_truth (m_call (arity 2 (withD [] (callP g_is_word))) (m_cons (m_var 1) (m_cons (m_c (.tup ((["give", "carry", "drop", "back", "right", "wrong"] : List Str).map D.str))) (m_nil))))))
def ri_0T : MS := (s_raise "InvalidRow" "word" (m_cons (m_c (.str "word")) (m_nil)))
def ri_0 : MS := (s_if ri_0C ri_0T s_nil)
def ri_1C : MG Bool := (m_andb (m_tb (m_op2 neD (m_var 2) (m_c (.str "any")))) (m_notb (m_truth (m_call (arity 1 (withD [] (callP g_is_name))) (m_cons (m_var 2) (m_nil))))))
def ri_1T : MS := (s_raise "InvalidRow" "word" (m_cons (m_c (.str "old")) (m_nil)))
def ri_1 : MS := (s_if ri_1C ri_1T s_nil)
def ri_2C : MG Bool := (m_andb (m_tb (m_op2 neD (m_var 3) (m_c (.str "same")))) (m_notb (m_truth (m_call (arity 1 (withD [] (callP g_is_name))) (m_cons (m_var 3) (m_nil))))))
def ri_2T : MS := (s_raise "InvalidRow" "word" (m_cons (m_c (.str "then")) (m_nil)))
def ri_2 : MS := (s_if ri_2C ri_2T s_nil)
def ri_3C : MG Bool := (m_orb (m_notb (m_truth (m_isi (tabOf "bool") [("Row" , false)] (m_var 4)))) (m_andb (m_tb (m_op2 neD (m_var 1) (m_c (.str "give")))) (m_notb (m_truth (m_var 4)))))
def ri_3T : MS := (s_raise "InvalidRow" "word" (m_cons (m_c (.str "take")) (m_nil)))
def ri_3 : MS := (s_if ri_3C ri_3T s_nil)
def ri_4 : MS := (s_fld ["Row"] "word" (m_var 0) (m_var 1))
def ri_5 : MS := (s_fld ["Row"] "old" (m_var 0) (m_var 2))
def ri_6 : MS := (s_fld ["Row"] "then" (m_var 0) (m_var 3))
def ri_7 : MS := (s_fld ["Row"] "take" (m_var 0) (m_var 4))
def ri : MS := (s_seq ri_0 (s_seq ri_1 (s_seq ri_2 (s_seq ri_3 (s_seq ri_4 (s_seq ri_5 (s_seq ri_6 ri_7)))))))
theorem ri_is : b_Row_init = ri := by kernel_rfl
def rd_0 : MS := (s_set 2 (m_sm1 g_split (m_var 1) (m_c (.str " "))))
def rd_1 : MS := (s_set 3 (m_c (.bl true)))
def rd_2C : MG Bool := (m_andb (m_tb (m_op2 eqD (m_ix (m_var 2) (m_c (.int 0))) (m_c (.str "give")))) (m_andb (m_tb (m_op2 eqD (m_call lenF (m_cons (m_var 2) (m_nil))) (m_c (.int 5)))) (m_tb (m_op2 inD (m_ix (m_var 2) (m_c (.int 2))) (m_c (.tup ((["keep", "take"] : List Str).map D.str)))))))
def rd_2T_0 : MS := (s_set 3 (m_op2 eqD (m_ix (m_var 2) (m_c (.int 2))) (m_c (.str "take"))))
def rd_2T_1 : MS := (s_set 2 (m_lst (m_star (m_slice (m_var 2) (m_no) (m_part (m_c (.int 2)))) (m_star (m_slice (m_var 2) (m_part (m_c (.int 3))) (m_no)) (m_nil)))))
def rd_2T : MS := (s_seq rd_2T_0 rd_2T_1)
def rd_2EC : MG Bool := (m_tb (m_op2 eqD (m_ix (m_var 2) (m_c (.int 0))) (m_c (.str "give"))))
def rd_2ET : MS := (s_raise "InvalidText" "at" (m_cons (m_c (.int 0)) (m_nil)))
def rd_2E : MS := (s_if rd_2EC rd_2ET s_nil)
def rd_2 : MS := (s_if rd_2C rd_2T rd_2E)
def rd_3C : MG Bool := (m_orb (m_tb (m_op2 neD (m_call lenF (m_cons (m_var 2) (m_nil))) (m_c (.int 4)))) (m_tb (m_op2 neD (m_ix (m_var 2) (m_c (.int 2))) (m_c (.str "to")))))
def rd_3T : MS := (s_raise "InvalidText" "at" (m_cons (m_c (.int 0)) (m_nil)))
def rd_3 : MS := (s_if rd_3C rd_3T s_nil)
def rd_4B : MS := (s_retP (m_callV 0 "Row" (arity 4 (withD [] (made "Row" mkF g_Row_init))) (m_cons (m_ix (m_var 2) (m_c (.int 0))) (m_cons (m_ix (m_var 2) (m_c (.int 1))) (m_cons (m_ix (m_var 2) (m_c (.int 3))) (m_cons (m_var 3) (m_nil)))))))
def rd_4 : MS := (s_tryX [("InvalidRow" , true), ("InvalidText" , false)] rd_4B 4 "InvalidText" "at" (fun lv => x_c (.int 0)))
def rd : MS := (s_seq rd_0 (s_seq rd_1 (s_seq rd_2 (s_seq rd_3 rd_4))))
theorem rd_is : b_Row_read = rd := by kernel_rfl
section
variable {a b c d : Str} {k : Bool} {S T : Sto} {n : Nat}
abbrev evI (n : Nat) (v0 v1 v2 : Str) (v3 : Bool) : Ev := [some (.r n), some (.d (.str v0)), some (.d (.str v1)), some (.d (.str v2)), some (.d (.bl v3))]
abbrev rowE (z : Str) (e : Ev) (T : Sto) : RO := .err "InvalidRow" [("word", .str z)] e T
abbrev rowD (v0 v1 v2 : Str) (v3 : Bool) : D := .obj "Row" [("word", .str v0), ("old", .str v1), ("then", .str v2), ("take", .bl v3)]
def fourQ (a b d : Str) : Bool := decide (a ∈ SIX) && ((nm b || decide (b = "any")) && (nm d || decide (d = "same")))
theorem isx_bl : isX (tabOf "bool") [("Row", false)] T (.d (.bl k)) = some true := by
  show (tabOf "bool").lookup "bool" = some true
  decide +kernel
theorem fld_ok {f : Str} {y : X} {fs : List (Str × X)} (h : fs.length < 1000) : fldO ["Row"] f (S ++ [.ins "Row" fs]) (.r S.length) y = some (S ++ [.ins "Row" (putX f y fs)]) := by
  have c : (["Row"] : List Str).contains ("Row" : Str) = true := by rfl
  have g : (S ++ [O.ins "Row" fs])[S.length]? = some (.ins "Row" fs) := by simp
  unfold fldO
  simp only [g]
  simp [c, hz4 (show fs.length < 2000 by omega)]
  omega
theorem made_err {C D : Str} {g : List X → Sto → R X} {xs : List X} {S S1 T : Sto} {fs : List (Str × Bv.D)} (h : g (.r S.length :: xs) (S ++ [.ins C []]) = .err D fs S1) (h2 : cut S.length S1 = some T) : made C mkF g xs S = .err D fs T := by
  unfold made
  rw [h]
  show (match cut S.length S1 with
    | some T => R.err D fs T
    | none => .err D fs S1) = _
  rw [h2]
theorem runE_err {N : Nat} {mb : MS} {xs : List X} {S S1 T : Sto} {e : Ev} {C : Str} {fs : List (Str × D)} (h : mb (ev0 N xs) S = .err C fs e S1) (h2 : cut S.length S1 = some T) : runE N mb xs S = .err C fs T := by
  unfold runE
  rw [h]
  show (match cut S.length S1 with
    | some T => R.err C fs T
    | none => .err C fs S1) = _
  rw [h2]
/-- Row(a, b, d, k), the texts of BW -/
theorem init_ok (ma : a ∈ BW) (mb : b ∈ BW) (md : d ∈ BW) (hk : a = "give" ∨ k = true) : b_Row_init (evI S.length a b d k) (S ++ [.ins "Row" []]) = if fourQ a b d then .go (.nx (evI S.length a b d k)) (S ++ [.ins "Row" [("word", .d (.str a)), ("old", .d (.str b)), ("then", .d (.str d)), ("take", .d (.bl k))]])
    else rowE (if a ∈ SIX then if nm b || decide (b = "any") then "then" else "old" else "word") (evI S.length a b d k) (S ++ [.ins "Row" []]) := by
  have w := bw_word ma
  have n1 := bw_name mb
  have n2 := bw_name md
  have e1 : neD (.str b) (.str "any") = some (.bl (!decide (b = "any"))) := nes_r
  have e2 : neD (.str d) (.str "same") = some (.bl (!decide (d = "same"))) := nes_r
  have eg : neD (.str a) (.str "give") = some (.bl (!decide (a = "give"))) := nes_r
  have bl := isx_bl (k := k) (T := S ++ [.ins "Row" []])
  rw [ri_is]
  unfold fourQ
  by_cases h0 : a ∈ SIX
  · rw [if_pos h0, decide_eq_true h0]
    rw [decide_eq_true h0] at w
    have p0 : ri_0 (evI S.length a b d k) (S ++ [.ins "Row" []]) = .go (.nx (evI S.length a b d k)) (S ++ [.ins "Row" []]) := by
      exact (st_iff (ev_nott (ev_truth (ev_call (ev_cons (ev_var rfl) (ev_cons ev_c ev_nil)) (ev_def rfl (ev_P2 (w)))) (rfl))) st_nil)
    refine st_seq p0 ?_
    cases h1 : nm b || decide (b = "any") with
    | false =>
      obtain ⟨q1, q2⟩ := Bool.or_eq_false_iff.mp h1
      rw [q1] at n1
      rw [q2] at e1
      exact st_seqE (st_ift (ev_andt (ev_tb (ev_op2 (ev_var rfl) ev_c (get_d) (get_d) (e1))) (ev_notf (ev_truth (ev_call (ev_cons (ev_var rfl) ev_nil) (ev_def rfl (ev_P1 (n1)))) (rfl)))) (st_raise (ev_cons ev_c ev_nil)))
    | true =>
      have p1 : ri_1 (evI S.length a b d k) (S ++ [.ins "Row" []]) = .go (.nx (evI S.length a b d k)) (S ++ [.ins "Row" []]) := by
        cases q : decide (b = "any") with
        | true =>
          rw [q] at e1
          exact (st_iff (ev_andf (ev_tb (ev_op2 (ev_var rfl) ev_c (get_d) (get_d) (e1)))) st_nil)
        | false =>
          rw [q] at h1 e1
          have q2 : nm b = true := by simpa using h1
          rw [q2] at n1
          exact (st_iff (ev_andt (ev_tb (ev_op2 (ev_var rfl) ev_c (get_d) (get_d) (e1))) (ev_nott (ev_truth (ev_call (ev_cons (ev_var rfl) ev_nil) (ev_def rfl (ev_P1 (n1)))) (rfl)))) st_nil)
      refine st_seq p1 ?_
      cases h2 : nm d || decide (d = "same") with
      | false =>
        obtain ⟨q1, q2⟩ := Bool.or_eq_false_iff.mp h2
        rw [q1] at n2
        rw [q2] at e2
        exact st_seqE (st_ift (ev_andt (ev_tb (ev_op2 (ev_var rfl) ev_c (get_d) (get_d) (e2))) (ev_notf (ev_truth (ev_call (ev_cons (ev_var rfl) ev_nil) (ev_def rfl (ev_P1 (n2)))) (rfl)))) (st_raise (ev_cons ev_c ev_nil)))
      | true =>
        have p2 : ri_2 (evI S.length a b d k) (S ++ [.ins "Row" []]) = .go (.nx (evI S.length a b d k)) (S ++ [.ins "Row" []]) := by
          cases q : decide (d = "same") with
          | true =>
            rw [q] at e2
            exact (st_iff (ev_andf (ev_tb (ev_op2 (ev_var rfl) ev_c (get_d) (get_d) (e2)))) st_nil)
          | false =>
            rw [q] at h2 e2
            have q2 : nm d = true := by simpa using h2
            rw [q2] at n2
            exact (st_iff (ev_andt (ev_tb (ev_op2 (ev_var rfl) ev_c (get_d) (get_d) (e2))) (ev_nott (ev_truth (ev_call (ev_cons (ev_var rfl) ev_nil) (ev_def rfl (ev_P1 (n2)))) (rfl)))) st_nil)
        have p3 : ri_3 (evI S.length a b d k) (S ++ [.ins "Row" []]) = .go (.nx (evI S.length a b d k)) (S ++ [.ins "Row" []]) := by
          by_cases g : a = "give"
          · rw [decide_eq_true g] at eg
            exact (st_iff (ev_orf (ev_nott (ev_truth (ev_isi (ev_var rfl) (bl)) (rfl))) (ev_andf (ev_tb (ev_op2 (ev_var rfl) ev_c (get_d) (get_d) (eg))))) st_nil)
          · rw [decide_eq_false g] at eg
            have hk2 : k = true := hk.resolve_left g
            subst hk2
            exact (st_iff (ev_orf (ev_nott (ev_truth (ev_isi (ev_var rfl) (bl)) (rfl))) (ev_andt (ev_tb (ev_op2 (ev_var rfl) ev_c (get_d) (get_d) (eg))) (ev_nott (ev_truth (ev_var rfl) (rfl))))) st_nil)
        have f0 : ri_4 (evI S.length a b d k) (S ++ [.ins "Row" []]) = .go (.nx (evI S.length a b d k)) (S ++ [.ins "Row" [("word", .d (.str a))]]) := (st_fld (ev_var rfl) (ev_var rfl) (fld_ok (by simp)))
        have f1 : ri_5 (evI S.length a b d k) (S ++ [.ins "Row" [("word", .d (.str a))]]) = .go (.nx (evI S.length a b d k)) (S ++ [.ins "Row" [("word", .d (.str a)), ("old", .d (.str b))]]) := (st_fld (ev_var rfl) (ev_var rfl) (fld_ok (by simp)))
        have f2 : ri_6 (evI S.length a b d k) (S ++ [.ins "Row" [("word", .d (.str a)), ("old", .d (.str b))]]) = .go (.nx (evI S.length a b d k)) (S ++ [.ins "Row" [("word", .d (.str a)), ("old", .d (.str b)), ("then", .d (.str d))]]) := (st_fld (ev_var rfl) (ev_var rfl) (fld_ok (by simp)))
        have f3 : ri_7 (evI S.length a b d k) (S ++ [.ins "Row" [("word", .d (.str a)), ("old", .d (.str b)), ("then", .d (.str d))]]) = .go (.nx (evI S.length a b d k)) (S ++ [.ins "Row" [("word", .d (.str a)), ("old", .d (.str b)), ("then", .d (.str d)), ("take", .d (.bl k))]]) := (st_fld (ev_var rfl) (ev_var rfl) (fld_ok (by simp)))
        exact st_seq p2 (st_seq p3 (st_seq f0 (st_seq f1 (st_seq f2 f3))))
  · rw [if_neg h0, decide_eq_false h0]
    rw [decide_eq_false h0] at w
    exact st_seqE (st_ift (ev_notf (ev_truth (ev_call (ev_cons (ev_var rfl) (ev_cons ev_c ev_nil)) (ev_def rfl (ev_P2 (w)))) (rfl))) (st_raise (ev_cons ev_c ev_nil)))
theorem made_row (hS : OkS S) (ma : a ∈ BW) (mb : b ∈ BW) (md : d ∈ BW) (hk : a = "give" ∨ k = true) (hq : fourQ a b d = true) : made "Row" mkF g_Row_init [.d (.str a), .d (.str b), .d (.str d), .d (.bl k)] S = .ok (.d (rowD a b d k)) S := by
  have all := init_ok (S := S) ma mb md hk
  rw [hq, if_pos rfl] at all
  have l0 : (S ++ [O.ins "Row" []]).length = S.length + 1 := by simp
  have c2 : cut (S ++ [O.ins "Row" []]).length (S ++ [.ins "Row" [("word", .d (.str a)), ("old", .d (.str b)), ("then", .d (.str d)), ("take", .d (.bl k))]]) = some (S ++ [.ins "Row" [("word", .d (.str a)), ("old", .d (.str b)), ("then", .d (.str d)), ("take", .d (.bl k))]]) := by
    have := (hS.push (o := .ins "Row" [("word", .d (.str a)), ("old", .d (.str b)), ("then", .d (.str d)), ("take", .d (.bl k))]) rfl).cut0
    rw [List.length_append] at this
    rw [l0]
    exact this
  have run : g_Row_init [.r S.length, .d (.str a), .d (.str b), .d (.str d), .d (.bl k)] (S ++ [.ins "Row" []]) = .ok (.d .non) (S ++ [.ins "Row" [("word", .d (.str a)), ("old", .d (.str b)), ("then", .d (.str d)), ("take", .d (.bl k))]]) := runE_nx all c2
  have fz : frz (S ++ [.ins "Row" [("word", .d (.str a)), ("old", .d (.str b)), ("then", .d (.str d)), ("take", .d (.bl k))]]) S.length = some (rowD a b d k) := by
    have g : (S ++ [O.ins "Row" [("word", .d (.str a)), ("old", .d (.str b)), ("then", .d (.str d)), ("take", .d (.bl k))]])[S.length]? = some (.ins "Row" [("word", .d (.str a)), ("old", .d (.str b)), ("then", .d (.str d)), ("take", .d (.bl k))]) := by simp
    unfold frz
    rw [g]
    rfl
  exact made_F run fz hS.cut
theorem made_no (hS : OkS S) (ma : a ∈ BW) (mb : b ∈ BW) (md : d ∈ BW) (hk : a = "give" ∨ k = true) (hq : fourQ a b d = false) : ∃ z, made "Row" mkF g_Row_init [.d (.str a), .d (.str b), .d (.str d), .d (.bl k)] S = .err "InvalidRow" [("word", .str z)] S := by
  have all := init_ok (S := S) ma mb md hk
  rw [hq] at all
  refine ⟨_, made_err (runE_err all (T := S ++ [.ins "Row" []]) ?_) hS.cut⟩
  exact (hS.push (o := .ins "Row" []) rfl).cut0
end
end Lw
set_option Elab.async false
set_option linter.all false
set_option maxRecDepth 100000
set_option maxHeartbeats 4000000
/-! The program's reader, its text again. -/
namespace Lw
open PySem PySem.Spec L2 Bv
open PyProof.Rows hiding St
variable [HasW]
section
variable {a b c d e : Str} {k : Bool} {ws l : List Str} {S T : Sto} {t : D}
abbrev evR (t : D) (l : List Str) (k : Bool) : Ev := [some (.d (.gl "Row")), some (.d t), some (.d (tls l)), some (.d (.bl k)), none]
abbrev badT (e : Ev) (S : Sto) : RO := .err "InvalidText" [("at", .int 0)] e S
/-- what is read -/
def readQ (l : List Str) (k : Bool) : PR := if tailQ l then (match l with
  | [a, b, _, d] => .ok (rowD a b d k)
  | _ => .bad) else .err "InvalidText" [("at", .int 0)]
theorem tail_read (hm : ∀ z ∈ l, z ∈ BW) (hk : ∀ a r, l = a :: r → a = "give" ∨ k = true) : ∃ ev T2, s_seq rd_3 rd_4 (evR t l k) [] = (match readQ l k with
    | .ok x => .go (.rp x) T2
    | .err C fs => .err C fs ev T2
    | .bad => .bad) := by
  by_cases h4 : l.length = 4
  · obtain ⟨a, b, c, d, rfl⟩ := four h4
    have ma := hm a (by simp)
    have mb := hm b (by simp)
    have md := hm d (by simp)
    have hk := hk a _ rfl
    have eto : neD (.str c) (.str "to") = some (.bl (!decide (c = "to"))) := nes_r
    have l4 : neD (.int 4) (.int 4) = some (.bl false) := nei_f
    have eq1 : readQ [a, b, c, d] k = if decide (c = "to") && fourQ a b d then .ok (rowD a b d k) else .err "InvalidText" [("at", .int 0)] := rfl
    rw [eq1]
    by_cases h2 : c = "to"
    · rw [decide_eq_true h2] at eto ⊢
      have p3 : rd_3 (evR t [a, b, c, d] k) [] = .go (.nx (evR t [a, b, c, d] k)) [] := by
        exact (st_iff (ev_orf (ev_tb (ev_op2 (ev_call (ev_cons (ev_var rfl) ev_nil) (rfl)) ev_c (get_d) (get_d) (l4))) (ev_tb (ev_op2 (ev_ix (ev_var rfl) ev_c (rfl)) ev_c (get_d) (get_d) (eto)))) st_nil)
      cases hq : fourQ a b d with
      | true =>
        have mk := made_row okS_nil ma mb md hk hq
        have body : rd_4B (evR t [a, b, c, d] k) [] = .go (.rp (rowD a b d k)) [] := by
          exact (st_retP (ev_callV (ev_cons (ev_ix (ev_var rfl) ev_c (rfl)) (ev_cons (ev_ix (ev_var rfl) ev_c (rfl)) (ev_cons (ev_ix (ev_var rfl) ev_c (rfl)) (ev_cons (ev_var rfl) ev_nil)))) (ev_def rfl (mk))) (get_d))
        exact ⟨[], [], st_seq p3 (st_tryXG body)⟩
      | false =>
        obtain ⟨z, mk⟩ := made_no okS_nil ma mb md hk hq
        have body : rd_4B (evR t [a, b, c, d] k) [] = .err "InvalidRow" [("word", .str z)] (evR t [a, b, c, d] k) [] := by
          exact st_retPE (ev_callV (ev_cons (ev_ix (ev_var rfl) ev_c rfl) (ev_cons (ev_ix (ev_var rfl) ev_c rfl) (ev_cons (ev_ix (ev_var rfl) ev_c rfl) (ev_cons (ev_var rfl) ev_nil)))) (ev_def rfl mk))
        exact ⟨_, [], st_seq p3 (st_tryXC body rfl rfl (by show 4 < 5; decide))⟩
    · rw [decide_eq_false h2] at eto ⊢
      exact ⟨_, [], st_seqE (st_ift (ev_orf (ev_tb (ev_op2 (ev_call (ev_cons (ev_var rfl) ev_nil) (rfl)) ev_c (get_d) (get_d) (l4))) (ev_tb (ev_op2 (ev_ix (ev_var rfl) ev_c (rfl)) ev_c (get_d) (get_d) (eto)))) (st_raise (ev_cons ev_c ev_nil)))⟩
  · have l4 : neD (.int l.length) (.int 4) = some (.bl true) := nei_t (by omega)
    have eq1 : readQ l k = .err "InvalidText" [("at", .int 0)] := by
      unfold readQ
      rw [tailQ_no h4]
      rfl
    rw [eq1]
    exact ⟨_, [], st_seqE (st_ift (ev_ort (ev_tb (ev_op2 (ev_call (ev_cons (ev_var rfl) ev_nil) (len_tls)) ev_c (get_d) (get_d) (l4)))) (st_raise (ev_cons ev_c ev_nil)))⟩
/-- what comes of a text -/
def outQ (ws : List Str) : PR := if rowQ ws then (match ws with
  | [a, b, c, _, d] => .ok (rowD a b d (decide (c = "take")))
  | [a, b, _, d] => .ok (rowD a b d true)
  | _ => .bad) else .err "InvalidText" [("at", .int 0)]
theorem runP_of {N : Nat} {mb : MS} {ds : List D} {p : PR} {ev : Ev} {T2 : Sto} (h : mb (ev0 N (ds.map .d)) [] = (match p with
    | .ok x => .go (.rp x) T2
    | .err C fs => .err C fs ev T2
    | .bad => .bad)) (hb : p ≠ .bad) : runP N mb ds = p := by
  cases p with
  | ok x => exact runP_rp h
  | err C fs => exact runP_err h
  | bad => exact absurd rfl hb
theorem read_ok (h : Ws ws) : g_Row_read [.gl "Row", .str (txt ws)] = outQ ws ∧ outQ ws ≠ .bad := by
  have sp := h.gsplit (T := [])
  have hm := h.mem
  have hne := h.ne
  have p0 : rd_0 (ev0 5 ([D.gl "Row", .str (txt ws)].map .d)) [] = .go (.nx [some (.d (.gl "Row")), some (.d (.str (txt ws))), some (.d (tls ws)), none, none]) [] := by
    exact (st_set (ev_sm1 (ev_var rfl) ev_c (sp)))
  have p1 : rd_1 [some (.d (.gl "Row")), some (.d (.str (txt ws))), some (.d (tls ws)), none, none] [] = .go (.nx (evR (.str (txt ws)) ws true)) [] := by
    exact (st_set ev_c)
  have nb : ∀ {l k}, readQ l k ≠ .bad := fun {l k} => by
    unfold readQ
    split
    · rename_i q
      split
      · exact fun z => nomatch z
      · rename_i no
        by_cases h4 : l.length = 4
        · obtain ⟨a, b, c, d, rfl⟩ := four h4
          exact absurd rfl (no a b c d)
        · rw [tailQ_no h4] at q; cases q
    · exact fun z => nomatch z
  unfold g_Row_read
  rw [rd_is]
  match ws with
  | a :: l =>
    have eg : eqD (.str a) (.str "give") = some (.bl (decide (a = "give"))) := eqs_r
    have i0 : ixO ([] : Sto) (.d (tls (a :: l))) 0 = some (.d (.str a)) := by simp [tls, ixO, ixD, items, atI, ixN]
    by_cases hg : a = "give"
    · rw [decide_eq_true hg] at eg
      by_cases h5 : l.length = 4
      · obtain ⟨b, c, d, e, rfl⟩ := four h5
        have nt := bw_tak (hm c (by simp))
        have l5 : eqD (.int 5) (.int 5) = some (.bl true) := by rw [eqi_r]; rfl
        have eq2 : rowQ [a, b, c, d, e] = (decide (c = "take" ∨ c = "keep") && tailQ [a, b, d, e]) := if_pos hg
        by_cases ht : c = "take" ∨ c = "keep"
        · rw [decide_eq_true ht] at nt eq2
          rw [Bool.true_and] at eq2
          have ek : eqD (.str c) (.str "take") = some (.bl (decide (c = "take"))) := eqs_r
          have p2 : rd_2 (evR (.str (txt [a, b, c, d, e])) [a, b, c, d, e] true) [] = .go (.nx (evR (.str (txt [a, b, c, d, e])) [a, b, d, e] (decide (c = "take")))) [] := by
            exact (st_ift (ev_andt (ev_tb (ev_op2 (ev_ix (ev_var rfl) ev_c (i0)) ev_c (get_d) (get_d) (eg))) (ev_andt (ev_tb (ev_op2 (ev_call (ev_cons (ev_var rfl) ev_nil) (rfl)) ev_c (get_d) (get_d) (l5))) (ev_tb (ev_op2 (ev_ix (ev_var rfl) ev_c (rfl)) ev_c (get_d) (get_d) (nt))))) (st_seq (st_set (ev_op2 (ev_ix (ev_var rfl) ev_c (rfl)) ev_c (get_d) (get_d) (ek))) (st_set (ev_lst (ev_star (ev_slice (ev_var rfl) ev_no (ev_part ev_c) (rfl)) (rfl) (ev_star (ev_slice (ev_var rfl) (ev_part ev_c) ev_no (rfl)) (rfl) ev_nil)) (rfl) (hz4 (by simp))))))
          obtain ⟨ev, T2, q⟩ := tail_read (t := .str (txt [a, b, c, d, e])) (l := [a, b, d, e]) (k := decide (c = "take")) (fun z hz => hm z (by simp only [List.mem_cons, List.not_mem_nil, or_false] at hz ⊢; rcases hz with h | h | h | h <;> simp [h])) fun x r z => by cases z; exact .inl hg
          have eo : outQ [a, b, c, d, e] = readQ [a, b, d, e] (decide (c = "take")) := by
            unfold outQ readQ
            rw [eq2]
          rw [eo]
          exact ⟨runP_of (st_seq p0 (st_seq p1 (st_seq p2 q))) nb, nb⟩
        · rw [decide_eq_false ht] at nt eq2
          have eo : outQ [a, b, c, d, e] = .err "InvalidText" [("at", .int 0)] := by
            unfold outQ
            rw [eq2]
            rfl
          rw [eo]
          have c1 : rd_2C (evR (.str (txt [a, b, c, d, e])) [a, b, c, d, e] true) [] = .ok false [] := by
            exact (ev_andt (ev_tb (ev_op2 (ev_ix (ev_var rfl) ev_c (i0)) ev_c (get_d) (get_d) (eg))) (ev_andt (ev_tb (ev_op2 (ev_call (ev_cons (ev_var rfl) ev_nil) (rfl)) ev_c (get_d) (get_d) (l5))) (ev_tb (ev_op2 (ev_ix (ev_var rfl) ev_c (rfl)) ev_c (get_d) (get_d) (nt)))))
          exact ⟨runP_err (st_seq p0 (st_seq p1 (st_seqE (st_iff c1 (st_ift (ev_tb (ev_op2 (ev_ix (ev_var rfl) ev_c (i0)) ev_c (get_d) (get_d) (eg))) (st_raise (ev_cons ev_c ev_nil))))))), fun z => nomatch z⟩
      · have eq1 : rowQ (a :: l) = false := (if_pos hg).trans (rowB_no h5)
        have eo : outQ (a :: l) = .err "InvalidText" [("at", .int 0)] := by
          unfold outQ
          rw [eq1]
          rfl
        have l5 : eqD (.int (a :: l).length) (.int 5) = some (.bl false) := by
          rw [eqi_r, decide_eq_false (by simp only [List.length_cons]; omega)]
        rw [eo]
        have c1 : rd_2C (evR (.str (txt (a :: l))) (a :: l) true) [] = .ok false [] := by
          exact (ev_andt (ev_tb (ev_op2 (ev_ix (ev_var rfl) ev_c (i0)) ev_c (get_d) (get_d) (eg))) (ev_andf (ev_tb (ev_op2 (ev_call (ev_cons (ev_var rfl) ev_nil) (len_tls)) ev_c (get_d) (get_d) (l5)))))
        exact ⟨runP_err (st_seq p0 (st_seq p1 (st_seqE (st_iff c1 (st_ift (ev_tb (ev_op2 (ev_ix (ev_var rfl) ev_c (i0)) ev_c (get_d) (get_d) (eg))) (st_raise (ev_cons ev_c ev_nil))))))), fun z => nomatch z⟩
    · rw [decide_eq_false hg] at eg
      have eq1 : rowQ (a :: l) = tailQ (a :: l) := if_neg hg
      have c1 : rd_2C (evR (.str (txt (a :: l))) (a :: l) true) [] = .ok false [] := by
        exact (ev_andf (ev_tb (ev_op2 (ev_ix (ev_var rfl) ev_c (i0)) ev_c (get_d) (get_d) (eg))))
      have p2 : rd_2 (evR (.str (txt (a :: l))) (a :: l) true) [] = .go (.nx (evR (.str (txt (a :: l))) (a :: l) true)) [] := st_iff c1 (st_iff (ev_tb (ev_op2 (ev_ix (ev_var rfl) ev_c (i0)) ev_c (get_d) (get_d) (eg))) st_nil)
      obtain ⟨ev, T2, q⟩ := tail_read (t := .str (txt (a :: l))) (l := a :: l) (k := true) hm fun x r z => .inr rfl
      have eo : outQ (a :: l) = readQ (a :: l) true := by
        unfold outQ readQ
        rw [eq1]
        by_cases h4 : (a :: l).length = 4
        · obtain ⟨a2, b, c, d, e⟩ := four h4
          rw [e]
        · rw [tailQ_no h4]
          rfl
      rw [eo]
      exact ⟨runP_of (st_seq p0 (st_seq p1 (st_seq p2 q))) nb, nb⟩
end
end Lw
set_option Elab.async false
set_option linter.all false
set_option maxRecDepth 100000
set_option maxHeartbeats 4000000
/-! Texts of rows, what is read of a text. -/
namespace Lw
open PySem PySem.Spec L2 Bv
open PyProof.Rows hiding St
variable [HasW]
def rr_0 : MS := (s_set 1 (m_c .non))
def rr_1B : MS := (s_set 1 (m_call (g_strO "Row" g_Row_str) (m_cons (m_cmeth "Row" (arity 2 (withD [] (callP g_Row_read))) (m_c (.gl "Row")) (m_cons (m_var 0) (m_nil))) (m_nil))))
def rr_1 : MS := (s_tryAs [("InvalidRow" , false), ("InvalidText" , true)] rr_1B 2 1 (x_tup (x_cons (x_fld ["InvalidText"] "at") (x_cons (x_and (x_isi [("InvalidRow" , true), ("InvalidText" , true)]) (x_not (x_isi [("InvalidRow" , true), ("InvalidText" , false)]))) (x_nil)))))
def rr_2 : MS := (s_retP (m_var 1))
def rr : MS := (s_seq rr_0 (s_seq rr_1 rr_2))
theorem rr_is : b__law_read = rr := by kernel_rfl
def wordsR (w o t : Str) (k : Bool) : List Str := if w = "give" then [w, o, if k then "take" else "keep", "to", t] else [w, o, "to", t]
theorem to1 : ("to" : Str).length = 2 ∧ ("take" : Str).length = 4 ∧ ("keep" : Str).length = 4 ∧ ("give" : Str).length = 4 := by decide +kernel
section
variable {a b c d e w o t : Str} {k : Bool} {ws l : List Str} {S T : Sto}
theorem str_row (ma : a ∈ BW) (mb : b ∈ BW) (md : d ∈ BW) : g_Row_str [rowD a b d k] = .ok (.str (txt (wordsR a b d k))) := by
  have a1 := (bw_plain ma).1
  have a2 := (bw_plain mb).1
  have a3 := (bw_plain md).1
  obtain ⟨t1, t2, t3, t4⟩ := to1
  have n1 : (("old" : Str) == "word") = false ∧ (("then" : Str) == "word") = false ∧ (("take" : Str) == "word") = false ∧ (("then" : Str) == "old") = false ∧ (("take" : Str) == "old") = false ∧ (("take" : Str) == "then") = false := by decide +kernel
  obtain ⟨n1, n2, n3, n4, n5, n6⟩ := n1
  have hz : ∀ n : Nat, n < 1000 → n ≤ sizeLine := fun n h => by rw [sizeLine_eq]; omega
  have z2 := hz 2 (by decide)
  have z3 := hz 3 (by decide)
  have z4 := hz 4 (by decide)
  have z5 := hz 5 (by decide)
  have zl : 2 < sizeLine := by have := hz 3 (by decide); omega
  unfold g_Row_str runP b_Row_str rowD
  by_cases c : a = "give"
  · subst c
    cases k
    · have hb : 4 + (b.length + (4 + (2 + d.length))) + 5 ≤ 16777216 := by omega
      simp [ev0, s_seq, s_if, s_nil, s_expr, s_set, s_ret, s_retP, s_retN, s_retNP, s_retT, s_asg, s_par, s_sub, s_fld, m_tb, m_op2, m_ix, m_var, m_c, m_call, m_cons, m_nil, m_star, m_tup, m_lst, m_lstN, m_attr, m_bm, m_slice, m_part, m_no, m_if, m_andb, m_orb, m_notb, m_and, m_or, m_not, m_bl, m_truth, m_chain, R.bind, R.so, RO.then, items, ixO, ixD, intX, optR, op2, X.get, tb, dispT, dispL, dispN, attrO, slX, truthX, truthD, arity, withD, endE, endP, keepX, setO, fldO, putX, intF, lenF, lenS, lenD, intsF, ints?, absI, minI, maxI, ds?, gets, callP, X.isD, D.noL, D.noLs, D.noLf, isLst, lstOf, add_r, sub_r, gt_r, ge_r, lt_r, le_r, eqs_r, n1, n2, n3, n4, n5, n6, z2, z3, z4, z5, zl, g_append, m_sm1, g_join, Bv.strs?, sp1, t1, t2, t3, t4, hb, atI, ixN, txt, wordsR, List.lookup]
    · have hb : 4 + (b.length + (4 + (2 + d.length))) + 5 ≤ 16777216 := by omega
      simp [ev0, s_seq, s_if, s_nil, s_expr, s_set, s_ret, s_retP, s_retN, s_retNP, s_retT, s_asg, s_par, s_sub, s_fld, m_tb, m_op2, m_ix, m_var, m_c, m_call, m_cons, m_nil, m_star, m_tup, m_lst, m_lstN, m_attr, m_bm, m_slice, m_part, m_no, m_if, m_andb, m_orb, m_notb, m_and, m_or, m_not, m_bl, m_truth, m_chain, R.bind, R.so, RO.then, items, ixO, ixD, intX, optR, op2, X.get, tb, dispT, dispL, dispN, attrO, slX, truthX, truthD, arity, withD, endE, endP, keepX, setO, fldO, putX, intF, lenF, lenS, lenD, intsF, ints?, absI, minI, maxI, ds?, gets, callP, X.isD, D.noL, D.noLs, D.noLf, isLst, lstOf, add_r, sub_r, gt_r, ge_r, lt_r, le_r, eqs_r, n1, n2, n3, n4, n5, n6, z2, z3, z4, z5, zl, g_append, m_sm1, g_join, Bv.strs?, sp1, t1, t2, t3, t4, hb, atI, ixN, txt, wordsR, List.lookup]
  · have hb : a.length + (b.length + (2 + d.length)) + 4 ≤ 16777216 := by omega
    simp [ev0, s_seq, s_if, s_nil, s_expr, s_set, s_ret, s_retP, s_retN, s_retNP, s_retT, s_asg, s_par, s_sub, s_fld, m_tb, m_op2, m_ix, m_var, m_c, m_call, m_cons, m_nil, m_star, m_tup, m_lst, m_lstN, m_attr, m_bm, m_slice, m_part, m_no, m_if, m_andb, m_orb, m_notb, m_and, m_or, m_not, m_bl, m_truth, m_chain, R.bind, R.so, RO.then, items, ixO, ixD, intX, optR, op2, X.get, tb, dispT, dispL, dispN, attrO, slX, truthX, truthD, arity, withD, endE, endP, keepX, setO, fldO, putX, intF, lenF, lenS, lenD, intsF, ints?, absI, minI, maxI, ds?, gets, callP, X.isD, D.noL, D.noLs, D.noLf, isLst, lstOf, add_r, sub_r, gt_r, ge_r, lt_r, le_r, eqs_r, n1, n2, n3, n4, n5, n6, z2, z3, z4, z5, zl, c, g_append, m_sm1, g_join, Bv.strs?, sp1, t1, hb, txt, wordsR, List.lookup]
theorem text_row (ma : w ∈ BW) (mb : o ∈ BW) (md : t ∈ BW) : g__law_row_text [tupR w o t k] = .ok (.str (txt (wordsR w o t k))) := by
  have a1 := (bw_plain ma).1
  have a2 := (bw_plain mb).1
  have a3 := (bw_plain md).1
  obtain ⟨t1, t2, t3, t4⟩ := to1
  have hz : ∀ n : Nat, n < 1000 → n ≤ sizeLine := fun n h => by rw [sizeLine_eq]; omega
  have z0 := hz 0 (by decide)
  have z1 := hz 1 (by decide)
  have z2 := hz 2 (by decide)
  have z3 := hz 3 (by decide)
  have z5 := hz 5 (by decide)
  have z4 := hz 4 (by decide)
  have ad : ∀ xs ys : List D, xs.length + ys.length ≤ sizeLine → addD (.lst xs) (.lst ys) = some (.lst (xs ++ ys)) := fun xs ys h => if_pos h
  unfold g__law_row_text runP b__law_row_text tupR
  by_cases c : w = "give"
  · subst c
    cases k
    · have hb : 4 + (o.length + (4 + (2 + t.length))) + 5 ≤ 16777216 := by omega
      simp [ev0, s_seq, s_if, s_nil, s_expr, s_set, s_ret, s_retP, s_retN, s_retNP, s_retT, s_asg, s_par, s_sub, s_fld, m_tb, m_op2, m_ix, m_var, m_c, m_call, m_cons, m_nil, m_star, m_tup, m_lst, m_lstN, m_attr, m_bm, m_slice, m_part, m_no, m_if, m_andb, m_orb, m_notb, m_and, m_or, m_not, m_bl, m_truth, m_chain, R.bind, R.so, RO.then, items, ixO, ixD, intX, optR, op2, X.get, tb, dispT, dispL, dispN, attrO, slX, truthX, truthD, arity, withD, endE, endP, keepX, setO, fldO, putX, intF, lenF, lenS, lenD, intsF, ints?, absI, minI, maxI, ds?, gets, callP, X.isD, D.noL, D.noLs, D.noLf, isLst, lstOf, add_r, sub_r, gt_r, ge_r, lt_r, le_r, eqs_r, z0, z1, z2, z3, z4, z5, ad, m_sm1, g_join, Bv.strs?, sp1, t1, t2, t3, t4, hb, atI, ixN, txt, wordsR]
    · have hb : 4 + (o.length + (4 + (2 + t.length))) + 5 ≤ 16777216 := by omega
      simp [ev0, s_seq, s_if, s_nil, s_expr, s_set, s_ret, s_retP, s_retN, s_retNP, s_retT, s_asg, s_par, s_sub, s_fld, m_tb, m_op2, m_ix, m_var, m_c, m_call, m_cons, m_nil, m_star, m_tup, m_lst, m_lstN, m_attr, m_bm, m_slice, m_part, m_no, m_if, m_andb, m_orb, m_notb, m_and, m_or, m_not, m_bl, m_truth, m_chain, R.bind, R.so, RO.then, items, ixO, ixD, intX, optR, op2, X.get, tb, dispT, dispL, dispN, attrO, slX, truthX, truthD, arity, withD, endE, endP, keepX, setO, fldO, putX, intF, lenF, lenS, lenD, intsF, ints?, absI, minI, maxI, ds?, gets, callP, X.isD, D.noL, D.noLs, D.noLf, isLst, lstOf, add_r, sub_r, gt_r, ge_r, lt_r, le_r, eqs_r, z0, z1, z2, z3, z4, z5, ad, m_sm1, g_join, Bv.strs?, sp1, t1, t2, t3, t4, hb, atI, ixN, txt, wordsR]
  · have hb : w.length + (o.length + (2 + t.length)) + 4 ≤ 16777216 := by omega
    simp [ev0, s_seq, s_if, s_nil, s_expr, s_set, s_ret, s_retP, s_retN, s_retNP, s_retT, s_asg, s_par, s_sub, s_fld, m_tb, m_op2, m_ix, m_var, m_c, m_call, m_cons, m_nil, m_star, m_tup, m_lst, m_lstN, m_attr, m_bm, m_slice, m_part, m_no, m_if, m_andb, m_orb, m_notb, m_and, m_or, m_not, m_bl, m_truth, m_chain, R.bind, R.so, RO.then, items, ixO, ixD, intX, optR, op2, X.get, tb, dispT, dispL, dispN, attrO, slX, truthX, truthD, arity, withD, endE, endP, keepX, setO, fldO, putX, intF, lenF, lenS, lenD, intsF, ints?, absI, minI, maxI, ds?, gets, callP, X.isD, D.noL, D.noLs, D.noLf, isLst, lstOf, add_r, sub_r, gt_r, ge_r, lt_r, le_r, eqs_r, z0, z1, z2, z3, z4, z5, ad, c, m_sm1, g_join, Bv.strs?, sp1, t1, hb, atI, ixN, txt, wordsR]
/-- what is read has its text -/
theorem out_ok (hm : ∀ z ∈ ws, z ∈ BW) (h : rowQ ws = true) : ∃ (a b d : Str) (k : Bool), outQ ws = .ok (rowD a b d k) ∧ ws = wordsR a b d k ∧ a ∈ BW ∧ b ∈ BW ∧ d ∈ BW := by
  match ws with
  | a :: l =>
    by_cases hg : a = "give"
    · have e1 : rowQ (a :: l) = rowB a l := if_pos hg
      by_cases h5 : l.length = 4
      · obtain ⟨b, c, d, e, rfl⟩ := four h5
        have e2 : rowQ [a, b, c, d, e] = (decide (c = "take" ∨ c = "keep") && tailQ [a, b, d, e]) := if_pos hg
        have h' := h
        rw [e2] at h'
        obtain ⟨q1, q2⟩ := Bool.and_eq_true_iff.mp h'
        obtain ⟨q3, q4⟩ := Bool.and_eq_true_iff.mp (show (decide (d = "to") && fourQ a b e) = true from q2)
        have q1 := of_decide_eq_true q1
        have q3 := of_decide_eq_true q3
        refine ⟨a, b, e, decide (c = "take"), ?_, ?_, hm a (by simp), hm b (by simp), hm e (by simp)⟩
        · unfold outQ
          rw [h]
          rfl
        · unfold wordsR
          rw [if_pos hg, q3]
          rcases q1 with q | q
          · rw [q]; rfl
          · have : ¬ (c = "take") := by rw [q]; decide +kernel
            rw [decide_eq_false this, q]; rfl
      · rw [e1, rowB_no h5] at h; cases h
    · have e1 : rowQ (a :: l) = tailQ (a :: l) := if_neg hg
      by_cases h4 : (a :: l).length = 4
      · obtain ⟨a2, b, c, d, e⟩ := four h4
        cases e
        have h' := h
        rw [e1] at h'
        obtain ⟨q3, q4⟩ := Bool.and_eq_true_iff.mp (show (decide (c = "to") && fourQ a b d) = true from h')
        have q3 := of_decide_eq_true q3
        refine ⟨a, b, d, true, ?_, ?_, hm a (by simp), hm b (by simp), hm d (by simp)⟩
        · unfold outQ
          rw [h]
          rfl
        · unfold wordsR
          rw [if_neg hg, q3]
      · rw [e1, tailQ_no h4] at h; cases h
theorem ev_strO {x : D} {fl : List (Str × D)} {z : Str} {ms : MG (List X)} {ev : Ev} (h : ms ev S = .ok [.d (.obj "Row" fl)] T) (hs : g_Row_str [.obj "Row" fl] = .ok (.str z)) : m_call (g_strO "Row" g_Row_str) ms ev S = .ok (.d (.str z)) T := by
  refine ev_call h ?_
  have c : decide (("Row" : Str) = "Row") = true := decide_eq_true rfl
  simp [g_strO, hs, c]
abbrev okT : D := .tup [.int 0, .bl true]
theorem lread_ok (h : Ws ws) : g__law_read [.str (txt ws)] = .ok (if rowQ ws then .str (txt ws) else okT) := by
  obtain ⟨rd, nb⟩ := read_ok h
  unfold g__law_read
  rw [rr_is]
  have p0 : rr_0 [some (.d (.str (txt ws))), none, none] [] = .go (.nx [some (.d (.str (txt ws))), some (.d .non), none]) [] := by
    exact (st_set ev_c)
  cases hq : rowQ ws with
  | true =>
    obtain ⟨a, b, d, k, ho, hw, ma, mb, md⟩ := out_ok h.mem hq
    rw [ho] at rd
    have sr := str_row (k := k) ma mb md
    rw [← hw] at sr
    have body : rr_1B [some (.d (.str (txt ws))), some (.d .non), none] [] = .go (.nx [some (.d (.str (txt ws))), some (.d (.str (txt ws))), none]) [] :=
      st_set (ev_strO (x := .non) (ev_cons (ev_cmeth ev_c (ev_cons (ev_var rfl) ev_nil) (ev_def rfl (ev_P2 rd))) ev_nil) sr)
    exact runP_rp (S := []) (st_seq p0 (st_seq (st_tryG body) (st_retP (ev_var rfl) get_d)))
  | false =>
    have ho : outQ ws = .err "InvalidText" [("at", .int 0)] := by
      unfold outQ
      rw [hq]
      rfl
    rw [ho] at rd
    have body : rr_1B [some (.d (.str (txt ws))), some (.d .non), none] [] = .err "InvalidText" [("at", .int 0)] [some (.d (.str (txt ws))), some (.d .non), none] [] :=
      st_setE (ev_callE (ev_consE (ev_cmeth ev_c (ev_cons (ev_var rfl) ev_nil) (ev_def rfl (ev_Pe (ds := [.gl "Row", .str (txt ws)]) rfl rd rfl)))))
    have cx : (x_tup (x_cons (x_fld ["InvalidText"] "at") (x_cons (x_and (x_isi [("InvalidRow", true), ("InvalidText", true)]) (x_not (x_isi [("InvalidRow", true), ("InvalidText", false)]))) (x_nil)))) "InvalidText" [("at", .int 0)] = some okT := by
      have z : (2 : Nat) ≤ sizeLine := hz4 (by decide)
      have l1 : (["InvalidText"] : List Str).contains ("InvalidText" : Str) = true := by decide +kernel
      have l2 : ([("at", D.int 0)] : List (Str × D)).lookup ("at" : Str) = some (.int 0) := by rfl
      have l3 : ([("InvalidRow", true), ("InvalidText", true)] : List (Str × Bool)).lookup ("InvalidText" : Str) = some true := by decide +kernel
      have l4 : ([("InvalidRow", true), ("InvalidText", false)] : List (Str × Bool)).lookup ("InvalidText" : Str) = some false := by decide +kernel
      simp [x_tup, x_cons, x_fld, x_and, x_isi, x_not, x_nil, l1, l2, l3, l4, z]
    exact runP_rp (S := []) (st_seq p0 (st_seq (st_tryC body (by decide +kernel) cx (by show 2 < 3; decide)) (st_retP (ev_var rfl) get_d)))
end
end Lw
set_option Elab.async false
set_option linter.all false
set_option maxRecDepth 100000
set_option maxHeartbeats 4000000
/-! The law. -/
namespace Lw
open PySem PySem.Spec L2 Bv
open PyProof.Rows hiding St
variable [HasW]
def q_0I : MIt := (i_rng1 (m_cons (m_call (intsF maxI) (m_cons (m_c (.int 1)) (m_cons (m_call (intsF minI) (m_cons (m_c (.int 4)) (m_cons (m_call lenF (m_cons (m_var 0) (m_nil))) (m_nil)))) (m_nil)))) (m_nil)))
def q_0B_0 : MS := (s_set 2 (m_call (arity 2 (withD [] g__law_seed)) (m_cons (m_var 0) (m_cons (m_var 1) (m_nil)))))
def q_0B_1I : MIt := (i_rng1 (m_cons (m_c (.int 8)) (m_nil)))
def q_0B_1B_0 : MS := (s_set 4 (m_call (arity 2 (withD [] g__law_row)) (m_cons (m_var 2) (m_cons (m_call (arity 1 (withD [] g__law_marks)) (m_cons (m_var 2) (m_nil))) (m_nil)))))
def q_0B_1B_1 : MS := (s_set 5 (m_call (arity 1 (withD [] (callP g__law_row_text))) (m_cons (m_var 4) (m_nil))))
def q_0B_1B_2 : MS := (s_set 6 (m_sm1 g_split (m_var 5) (m_c (.str " "))))
def q_0B_1B_3 : MS := (s_set 7 (m_call (arity 4 (withD [] (made "Row" mkF g_Row_init))) (m_cons (m_ix (m_var 4) (m_c (.int 0))) (m_cons (m_ix (m_var 4) (m_c (.int 1))) (m_cons (m_ix (m_var 4) (m_c (.int 2))) (m_cons (m_ix (m_var 4) (m_c (.int 3))) (m_nil)))))))
def q_0B_1B_4C : MG Bool := (m_orb (m_tb (m_op2 neD (m_call (arity 1 (withD [] (callP g__law_read))) (m_cons (m_var 5) (m_nil))) (m_var 5))) (m_tb (m_op2 (eqO "Row" g_Row_eq true) (m_cmeth "Row" (arity 2 (withD [] (callP g_Row_read))) (m_c (.gl "Row")) (m_cons (m_var 5) (m_nil))) (m_var 7))))
def q_0B_1B_4T : MS := (s_retP (m_c (.bl false)))
def q_0B_1B_4 : MS := (s_if q_0B_1B_4C q_0B_1B_4T s_nil)
def q_0B_1B_5I : MIt := (i_rng1 (m_cons (m_c (.int 5)) (m_nil)))
def q_0B_1B_5B_0 : MS := (s_par 9 10 (m_cons (m_call (arity 2 (withD [] g__law_choose)) (m_cons (m_var 2) (m_cons (m_op2 addD (m_call lenF (m_cons (m_var 6) (m_nil))) (m_c (.int 1))) (m_nil)))) (m_cons (m_call (arity 2 (withD [] g__law_choose)) (m_cons (m_var 2) (m_cons (m_c (.int 4)) (m_nil)))) (m_nil))))
def q_0B_1B_5B_1 : MS := (s_set 11 (m_lst (m_cons (m_c (.str "any")) (m_cons (m_c (.str "to")) (m_cons (m_c (.str "take")) (m_cons (m_c (.str "keep")) (m_cons (m_c (.str "same")) (m_cons (m_c (.str "give")) (m_cons (m_c (.str "")) (m_cons (m_c (.str "good")) (m_cons (m_c (.str "toolong")) (m_cons (m_c (.str "Drop")) (m_cons (m_c (.str "drop")) (m_nil))))))))))))))
def q_0B_1B_5B_2 : MS := (s_set 11 (m_call (arity 2 (withD [] g__law_one_of)) (m_cons (m_var 2) (m_cons (m_var 11) (m_nil)))))
def q_0B_1B_5B_3 : MS := (s_set 12 (m_op2 addD (m_op2 addD (m_slice (m_var 6) (m_no) (m_part (m_var 9))) (m_lst (m_cons (m_var 11) (m_nil)))) (m_slice (m_var 6) (m_part (m_op2 addD (m_var 9) (m_call intF (m_cons (m_op2 gtD (m_var 10) (m_c (.int 1))) (m_nil))))) (m_no))))
def q_0B_1B_5B_4C : MG Bool := (m_tb (m_op2 eqD (m_var 10) (m_c (.int 0))))
def q_0B_1B_5B_4T : MS := (s_set 12 (m_op2 addD (m_slice (m_var 6) (m_no) (m_part (m_var 9))) (m_slice (m_var 6) (m_part (m_op2 addD (m_var 9) (m_c (.int 1)))) (m_no))))
def q_0B_1B_5B_4 : MS := (s_if q_0B_1B_5B_4C q_0B_1B_5B_4T s_nil)
def q_0B_1B_5B_5 : MS := (s_set 12 (m_sm1 g_join (m_c (.str " ")) (m_var 12)))
def q_0B_1B_5B_6 : MS := (s_set 13 (m_if (m_truth (m_call (arity 1 (withD [] (callP g__law_is_row))) (m_cons (m_var 12) (m_nil)))) (m_var 12) (m_tup (m_cons (m_c (.int 0)) (m_cons (m_c (.bl true)) (m_nil))))))
def q_0B_1B_5B_7C : MG Bool := (m_tb (m_op2 neD (m_call (arity 1 (withD [] (callP g__law_read))) (m_cons (m_var 12) (m_nil))) (m_var 13)))
def q_0B_1B_5B_7T : MS := (s_retP (m_c (.bl false)))
def q_0B_1B_5B_7 : MS := (s_if q_0B_1B_5B_7C q_0B_1B_5B_7T s_nil)
def q_0B_1B_5B : MS := (s_seq q_0B_1B_5B_0 (s_seq q_0B_1B_5B_1 (s_seq q_0B_1B_5B_2 (s_seq q_0B_1B_5B_3 (s_seq q_0B_1B_5B_4 (s_seq q_0B_1B_5B_5 (s_seq q_0B_1B_5B_6 q_0B_1B_5B_7)))))))
def q_0B_1B_5 : MS := (s_for (.nm 8) q_0B_1B_5I q_0B_1B_5B)
def q_0B_1B : MS := (s_seq q_0B_1B_0 (s_seq q_0B_1B_1 (s_seq q_0B_1B_2 (s_seq q_0B_1B_3 (s_seq q_0B_1B_4 q_0B_1B_5)))))
def q_0B_1 : MS := (s_for (.nm 3) q_0B_1I q_0B_1B)
def q_0B : MS := (s_seq q_0B_0 q_0B_1)
def q_0 : MS := (s_for (.nm 1) q_0I q_0B)
def q_1 : MS := (s_retP (m_and (m_op2 eqD (m_call (arity 1 (withD [] (callP g__law_read))) (m_cons (m_c (.str "")) (m_nil))) (m_tup (m_cons (m_c (.int 0)) (m_cons (m_c (.bl true)) (m_nil))))) (m_op2 eqD (m_call (arity 1 (withD [] (callP g__law_read))) (m_cons (m_c (.str "drop any to a\n")) (m_nil))) (m_tup (m_cons (m_c (.int 0)) (m_cons (m_c (.bl true)) (m_nil)))))))
def q : MS := (s_seq q_0 q_1)
theorem q_is : b_law = q := by kernel_rfl
abbrev ev4 (ns : List Int) (kk b : Nat) (o3 o4 o5 o6 o7 o8 o9 o10 o11 o12 o13 : Option X) : Ev := [some (.d (.scr ns)), some (.d (.int kk)), some (.r b), o3, o4, o5, o6, o7, o8, o9, o10, o11, o12, o13]
theorem cutL_fr {α : Type} (xs : List α) {h : Int} (h0 : 0 ≤ h) : cutL xs (some h) none = xs.drop h.toNat := by
  have e : HT.sIx xs.length 0 (some h) = min h.toNat xs.length := by
    show (if h < 0 then (h + (xs.length : Int)).toNat else min h.toNat xs.length) = _
    rw [if_neg (by omega)]
  have e2 : HT.sIx xs.length xs.length none = xs.length := rfl
  unfold cutL
  rw [e, e2, List.take_of_length_le (by rw [List.length_drop]; exact Nat.le_refl _)]
  by_cases c : h.toNat ≤ xs.length
  · rw [Nat.min_eq_left c]
  · rw [Nat.min_eq_right (by omega), List.drop_eq_nil_of_le (Nat.le_refl _), List.drop_eq_nil_of_le (by omega)]
theorem sl_to {T : Sto} {ws : List Str} {h : Int} (h0 : 0 ≤ h) (h1 : h ≤ ws.length) : slX T (.d (tls ws)) none (some h) = some (.d (tls (ws.take h.toNat))) := by
  show some (X.d (.lst (cutL (ws.map D.str) none (some h)))) = _
  rw [cutL_to _ h0 (by rw [List.length_map]; exact h1), ← List.map_take]
  rfl
theorem sl_fr {T : Sto} {ws : List Str} {h : Int} (h0 : 0 ≤ h) : slX T (.d (tls ws)) (some h) none = some (.d (tls (ws.drop h.toNat))) := by
  show some (X.d (.lst (cutL (ws.map D.str) (some h) none))) = _
  rw [cutL_fr _ h0, ← List.map_drop]
  rfl
theorem add_tls {a b : List Str} (h : a.length + b.length < 2000) : addD (tls a) (tls b) = some (tls (a ++ b)) := by
  have q : addD (.lst (a.map D.str)) (.lst (b.map D.str)) = some (.lst (a.map D.str ++ b.map D.str)) := if_pos (by rw [List.length_map, List.length_map]; exact hz4 h)
  rw [← List.map_append] at q
  exact q
theorem strs_tls : ∀ ws : List Str, Bv.strs? ((ws.map D.str).map X.d) = some ws
  | [] => rfl
  | a :: l => by
    show (Bv.strs? ((l.map D.str).map X.d)).map (a :: ·) = _
    rw [strs_tls l]
    rfl
theorem sum_len {k : Nat} : ∀ {l : List Str}, (∀ z ∈ l, z.length ≤ k) → (l.map (·.length)).sum ≤ l.length * k
  | [], _ => by simp
  | x :: l, h => by
    have := sum_len (k := k) (l := l) fun z hz => h z (List.mem_cons_of_mem _ hz)
    have := h x (by simp)
    simp only [List.map_cons, List.sum_cons, List.length_cons, Nat.succ_mul]
    omega
theorem join_tls {T : Sto} {ws : List Str} (h : Ws ws) : g_join " " (.d (tls ws)) T = .ok (.d (.str (txt ws))) T := by
  have c : (ws.map (·.length)).sum + ws.length * (" " : Str).length ≤ 16777216 := by
    have a := sum_len (k := 7) (l := ws) fun z hz => (bw_plain (h.mem z hz)).1
    have b := h.len
    rw [sp1]
    omega
  have e : (items T (.d (tls ws))).bind Bv.strs? = some ws := strs_tls ws
  unfold g_join
  rw [e]
  exact if_pos (decide_eq_true c)
theorem names_nm : (NAMES.all nm) = true := by kernel_rfl
theorem haps_six : ∀ w ∈ HAPS, w ∈ SIX := by decide +kernel
theorem more_bw : ∀ w ∈ MORE, w ∈ BW := fun w h => by unfold BW; simp [h]
section
variable {w o t : Str} {k : Bool}
theorem row_bw (h : RowOk w o t k) : w ∈ BW ∧ o ∈ BW ∧ t ∈ BW ∧ fourQ w o t = true ∧ (w = "give" ∨ k = true) := by
  obtain ⟨h1, h2, h3, h4⟩ := h
  have n : ∀ z ∈ NAMES, nm z = true := fun z hz => List.all_eq_true.mp names_nm z hz
  refine ⟨?_, ?_, ?_, ?_, ?_⟩
  · unfold BW; simp only [List.mem_append]; exact .inl (.inl (.inl (.inl h1)))
  · unfold BW; simp only [List.mem_append]; exact .inl (.inl (.inl (.inr h2)))
  · unfold BW; simp only [List.mem_append]; exact .inl (.inl (.inr h3))
  · unfold fourQ
    rw [decide_eq_true (haps_six w h1)]
    have a : (nm o || decide (o = "any")) = true := (List.mem_cons.mp h2).elim (fun e => by rw [decide_eq_true e, Bool.or_true]) fun m => by rw [n o m]; rfl
    have b : (nm t || decide (t = "same")) = true := (List.mem_cons.mp h3).elim (fun e => by rw [decide_eq_true e, Bool.or_true]) fun m => by rw [n t m]; rfl
    rw [a, b]; rfl
  · by_cases c : w = "give"
    · exact .inl c
    · exact .inr (h4 c)
theorem tk_bw : ("take" : Str) ∈ BW ∧ ("keep" : Str) ∈ BW ∧ ("to" : Str) ∈ BW := by decide +kernel
theorem row_ws (h : RowOk w o t k) : Ws (wordsR w o t k) ∧ 4 ≤ (wordsR w o t k).length ∧ (wordsR w o t k).length ≤ 5 := by
  obtain ⟨m1, m2, m3, _⟩ := row_bw h
  obtain ⟨t1, t2, t3⟩ := tk_bw
  unfold wordsR
  split
  · refine ⟨⟨by simp, by simp, fun z hz => ?_⟩, by simp, by simp⟩
    simp only [List.mem_cons, List.not_mem_nil, or_false] at hz
    rcases hz with rfl | rfl | rfl | rfl | rfl
    · exact m1
    · exact m2
    · cases k
      · exact t2
      · exact t1
    · exact t3
    · exact m3
  · refine ⟨⟨by simp, by simp, fun z hz => ?_⟩, by simp, by simp⟩
    simp only [List.mem_cons, List.not_mem_nil, or_false] at hz
    rcases hz with rfl | rfl | rfl | rfl
    · exact m1
    · exact m2
    · exact t3
    · exact m3
theorem rowQ_row (h : RowOk w o t k) : rowQ (wordsR w o t k) = true ∧ outQ (wordsR w o t k) = .ok (rowD w o t k) := by
  obtain ⟨m1, m2, m3, hf, hk⟩ := row_bw h
  have d1 : decide (("to" : Str) = "to") = true := decide_eq_true rfl
  unfold wordsR
  by_cases c : w = "give"
  · rw [if_pos c]
    have e1 : rowQ [w, o, if k = true then "take" else "keep", "to", t] = (decide ((if k = true then ("take" : Str) else "keep") = "take" ∨ (if k = true then ("take" : Str) else "keep") = "keep") && (decide (("to" : Str) = "to") && fourQ w o t)) := if_pos c
    have e2 : decide ((if k = true then ("take" : Str) else "keep") = "take" ∨ (if k = true then ("take" : Str) else "keep") = "keep") = true := by cases k <;> simp
    have e3 : rowQ [w, o, if k = true then "take" else "keep", "to", t] = true := by rw [e1, e2, hf, d1]; rfl
    refine ⟨e3, ?_⟩
    have e4 : decide ((if k = true then ("take" : Str) else "keep") = "take") = k := by
      cases k
      · exact decide_eq_false (by decide +kernel)
      · exact decide_eq_true rfl
    unfold outQ
    rw [e3]
    show PR.ok (rowD w o t (decide ((if k = true then ("take" : Str) else "keep") = "take"))) = _
    rw [e4]
  · rw [if_neg c]
    have e1 : rowQ [w, o, "to", t] = (decide (("to" : Str) = "to") && fourQ w o t) := if_neg c
    have e3 : rowQ [w, o, "to", t] = true := by rw [e1, hf, d1]; rfl
    refine ⟨e3, ?_⟩
    unfold outQ
    rw [e3]
    have hk2 := hk.resolve_left c
    subst hk2
    rfl
end
end Lw
set_option Elab.async false
set_option linter.all false
set_option maxRecDepth 100000
set_option maxHeartbeats 4000000
/-! The law's loops. -/
namespace Lw
open PySem PySem.Spec L2 Bv
open PyProof.Rows hiding St
variable [HasW]
theorem small5 : smallI 5 = true := by unfold smallI; simp
theorem small8 : smallI 8 = true := by unfold smallI; simp
section
variable {ns : List Int} {kk b : Nat} {o3 o4 o5 o6 o7 o8 o9 o10 o11 o12 o13 : Option X} {S : Sto} {ws : List Str} {w o t : Str} {k : Bool}
theorem ne_same {z : Str} : neD (.str z) (.str z) = some (.bl false) := by rw [nes_r, decide_eq_true rfl]; rfl
theorem ne_okT : neD okT okT = some (.bl false) := by rfl
/-- one bent text -/
theorem bent_ok (hS : OkS S) (hb : BoxAt S b) (h : Ws ws) (h4 : 4 ≤ ws.length) (h5 : ws.length ≤ 5) : ∃ (p9 p10 p11 p12 p13 : Option X) (S2 : Sto), q_0B_1B_5B (ev4 ns kk b o3 o4 o5 (some (.d (tls ws))) o7 o8 o9 o10 o11 o12 o13) S = .go (.nx (ev4 ns kk b o3 o4 o5 (some (.d (tls ws))) o7 o8 p9 p10 p11 p12 p13)) S2 ∧ OkS S2 ∧ BoxAt S2 b := by
  obtain ⟨a, S1, e1, a0, a1, d1⟩ := choose_ok (m := (ws.length : Int) + 1) hS hb (by omega)
  obtain ⟨f, S2, e2, f0, f1, d2⟩ := choose_ok (m := 4) (d1.ok hS) (d1.at_ hb.lt) (by decide)
  have hS2 := d2.ok (d1.ok hS)
  have hb2 := d2.at_ (d1.at_ hb.lt).lt
  obtain ⟨m, S3, e3, hm, d3⟩ := one_of_ok (ds := MORE.map D.str) hS2 hb2 (by decide) (by decide)
  obtain ⟨z, hz, rfl⟩ := List.mem_map.mp hm
  have p0 : q_0B_1B_5B_0 (ev4 ns kk b o3 o4 o5 (some (.d (tls ws))) o7 o8 o9 o10 o11 o12 o13) S = .go (.nx (ev4 ns kk b o3 o4 o5 (some (.d (tls ws))) o7 o8 (some (.d (.int a))) (some (.d (.int f))) o11 o12 o13)) S2 := by
    exact (st_par (ev_cons (ev_call (ev_cons (ev_var rfl) (ev_cons (ev_op2 (ev_call (ev_cons (ev_var rfl) ev_nil) (len_tls)) ev_c (get_d) (get_d) (add_r)) ev_nil)) (ev_def rfl (e1))) (ev_cons (ev_call (ev_cons (ev_var rfl) (ev_cons ev_c ev_nil)) (ev_def rfl (e2))) ev_nil)))
  have p1 : q_0B_1B_5B_1 (ev4 ns kk b o3 o4 o5 (some (.d (tls ws))) o7 o8 (some (.d (.int a))) (some (.d (.int f))) o11 o12 o13) S2 = .go (.nx (ev4 ns kk b o3 o4 o5 (some (.d (tls ws))) o7 o8 (some (.d (.int a))) (some (.d (.int f))) (some (.d (.lst (MORE.map D.str)))) o12 o13)) S2 := by
    exact (st_set (ev_lst (ev_cons ev_c (ev_cons ev_c (ev_cons ev_c (ev_cons ev_c (ev_cons ev_c (ev_cons ev_c (ev_cons ev_c (ev_cons ev_c (ev_cons ev_c (ev_cons ev_c (ev_cons ev_c ev_nil))))))))))) (rfl) (hz4 (by decide))))
  have p2 : q_0B_1B_5B_2 (ev4 ns kk b o3 o4 o5 (some (.d (tls ws))) o7 o8 (some (.d (.int a))) (some (.d (.int f))) (some (.d (.lst (MORE.map D.str)))) o12 o13) S2 = .go (.nx (ev4 ns kk b o3 o4 o5 (some (.d (tls ws))) o7 o8 (some (.d (.int a))) (some (.d (.int f))) (some (.d (.str z))) o12 o13)) S3 := by
    exact (st_set (ev_call (ev_cons (ev_var rfl) (ev_cons (ev_var rfl) ev_nil)) (ev_def rfl (e3))))
  have s1 := sl_to (T := S3) (ws := ws) (h := a) a0 (by omega)
  have hi : intF [.d (.bl (decide (1 < f)))] S3 = .ok (.d (.int (if 1 < f then 1 else 0))) S3 := by
    by_cases c : 1 < f
    · rw [decide_eq_true c, if_pos c]; rfl
    · rw [decide_eq_false c, if_neg c]; rfl
  have s2 := sl_fr (T := S3) (ws := ws) (h := a + (if 1 < f then 1 else 0)) (by split <;> omega)
  have lt1 : (ws.take a.toNat).length ≤ 5 := by rw [List.length_take]; omega
  have g1 : addD (tls (ws.take a.toNat)) (.lst [.str z]) = some (tls (ws.take a.toNat ++ [z])) := add_tls (b := [z]) (by simp only [List.length_singleton]; omega)
  have g2 : addD (tls (ws.take a.toNat ++ [z])) (tls (ws.drop (a + (if 1 < f then 1 else 0)).toNat)) = some (tls (ws.take a.toNat ++ [z] ++ ws.drop (a + (if 1 < f then 1 else 0)).toNat)) := add_tls (by rw [List.length_append, List.length_drop, List.length_singleton]; omega)
  have p3 : q_0B_1B_5B_3 (ev4 ns kk b o3 o4 o5 (some (.d (tls ws))) o7 o8 (some (.d (.int a))) (some (.d (.int f))) (some (.d (.str z))) o12 o13) S3 = .go (.nx (ev4 ns kk b o3 o4 o5 (some (.d (tls ws))) o7 o8 (some (.d (.int a))) (some (.d (.int f))) (some (.d (.str z))) (some (.d (tls (ws.take a.toNat ++ [z] ++ ws.drop (a + (if 1 < f then 1 else 0)).toNat)))) o13)) S3 := by
    exact (st_set (ev_op2 (ev_op2 (ev_slice (ev_var rfl) ev_no (ev_part (ev_var rfl)) (s1)) (ev_lst (ev_cons (ev_var rfl) ev_nil) (rfl) (hz4 (by simp))) (get_d) (get_d) (g1)) (ev_slice (ev_var rfl) (ev_part (ev_op2 (ev_var rfl) (ev_call (ev_cons (ev_op2 (ev_var rfl) ev_c (get_d) (get_d) (gt_r)) ev_nil) (hi)) (get_d) (get_d) (add_r))) ev_no (s2)) (get_d) (get_d) (g2)))
  have ef : eqD (.int f) (.int 0) = some (.bl (decide (f = 0))) := eqi_r
  have wsB : ∀ z ∈ ws, z ∈ BW := h.mem
  have w1 : Ws (ws.take a.toNat ++ [z] ++ ws.drop (a + (if 1 < f then 1 else 0)).toNat) := by
    refine ⟨by simp, ?_, fun y hy => ?_⟩
    · simp only [List.length_append, List.length_take, List.length_drop, List.length_singleton]
      split <;> omega
    · simp only [List.mem_append, List.mem_singleton] at hy
      rcases hy with (hy | rfl) | hy
      · exact wsB y (List.mem_of_mem_take hy)
      · exact more_bw _ hz
      · exact wsB y (List.mem_of_mem_drop hy)
  have w2 : f = 0 → Ws (ws.take a.toNat ++ ws.drop (a + 1).toNat) := fun _ => by
    refine ⟨fun c => ?_, ?_, fun y hy => ?_⟩
    · have := congrArg List.length c
      simp only [List.length_append, List.length_take, List.length_drop, List.length_nil] at this
      omega
    · simp only [List.length_append, List.length_take, List.length_drop]
      omega
    · rcases List.mem_append.mp hy with hy | hy
      · exact wsB y (List.mem_of_mem_take hy)
      · exact wsB y (List.mem_of_mem_drop hy)
  -- the words that are joined
  have p4 : ∃ vs : List Str, Ws vs ∧ q_0B_1B_5B_4 (ev4 ns kk b o3 o4 o5 (some (.d (tls ws))) o7 o8 (some (.d (.int a))) (some (.d (.int f))) (some (.d (.str z))) (some (.d (tls (ws.take a.toNat ++ [z] ++ ws.drop (a + (if 1 < f then 1 else 0)).toNat)))) o13) S3 = .go (.nx (ev4 ns kk b o3 o4 o5 (some (.d (tls ws))) o7 o8 (some (.d (.int a))) (some (.d (.int f))) (some (.d (.str z))) (some (.d (tls vs))) o13)) S3 := by
    by_cases c : f = 0
    · rw [decide_eq_true c] at ef
      have s3 := sl_fr (T := S3) (ws := ws) (h := a + 1) (by omega)
      have g3 : addD (tls (ws.take a.toNat)) (tls (ws.drop (a + 1).toNat)) = some (tls (ws.take a.toNat ++ ws.drop (a + 1).toNat)) := add_tls (by rw [List.length_drop]; omega)
      refine ⟨_, w2 c, ?_⟩
      exact (st_ift (ev_tb (ev_op2 (ev_var rfl) ev_c (get_d) (get_d) (ef))) (st_set (ev_op2 (ev_slice (ev_var rfl) ev_no (ev_part (ev_var rfl)) (s1)) (ev_slice (ev_var rfl) (ev_part (ev_op2 (ev_var rfl) ev_c (get_d) (get_d) (add_r))) ev_no (s3)) (get_d) (get_d) (g3))))
    · rw [decide_eq_false c] at ef
      refine ⟨_, w1, ?_⟩
      exact (st_iff (ev_tb (ev_op2 (ev_var rfl) ev_c (get_d) (get_d) (ef))) st_nil)
  obtain ⟨vs, hv, p4⟩ := p4
  have jn := join_tls (T := S3) hv
  have ir := is_row_ok hv
  have lr := lread_ok hv
  have p5 : q_0B_1B_5B_5 (ev4 ns kk b o3 o4 o5 (some (.d (tls ws))) o7 o8 (some (.d (.int a))) (some (.d (.int f))) (some (.d (.str z))) (some (.d (tls vs))) o13) S3 = .go (.nx (ev4 ns kk b o3 o4 o5 (some (.d (tls ws))) o7 o8 (some (.d (.int a))) (some (.d (.int f))) (some (.d (.str z))) (some (.d (.str (txt vs)))) o13)) S3 := by
    exact (st_set (ev_sm1 ev_c (ev_var rfl) (jn)))
  have p6 : q_0B_1B_5B_6 (ev4 ns kk b o3 o4 o5 (some (.d (tls ws))) o7 o8 (some (.d (.int a))) (some (.d (.int f))) (some (.d (.str z))) (some (.d (.str (txt vs)))) o13) S3 = .go (.nx (ev4 ns kk b o3 o4 o5 (some (.d (tls ws))) o7 o8 (some (.d (.int a))) (some (.d (.int f))) (some (.d (.str z))) (some (.d (.str (txt vs)))) (some (.d (if rowQ vs then .str (txt vs) else okT))))) S3 := by
    cases hq : rowQ vs with
    | true =>
      rw [hq] at ir
      exact (st_set (ev_ift (ev_truth (ev_call (ev_cons (ev_var rfl) ev_nil) (ev_def rfl (ev_P1 (ir)))) (rfl)) (ev_var rfl)))
    | false =>
      rw [hq] at ir
      exact (st_set (ev_iff (ev_truth (ev_call (ev_cons (ev_var rfl) ev_nil) (ev_def rfl (ev_P1 (ir)))) (rfl)) (ev_tup (ev_cons ev_c (ev_cons ev_c ev_nil)) (rfl) (hz4 (by decide)))))
  have ne : neD (if rowQ vs then .str (txt vs) else okT) (if rowQ vs then .str (txt vs) else okT) = some (.bl false) := by
    split
    · exact ne_same
    · exact ne_okT
  have p7 : q_0B_1B_5B_7 (ev4 ns kk b o3 o4 o5 (some (.d (tls ws))) o7 o8 (some (.d (.int a))) (some (.d (.int f))) (some (.d (.str z))) (some (.d (.str (txt vs)))) (some (.d (if rowQ vs then .str (txt vs) else okT)))) S3 = .go (.nx (ev4 ns kk b o3 o4 o5 (some (.d (tls ws))) o7 o8 (some (.d (.int a))) (some (.d (.int f))) (some (.d (.str z))) (some (.d (.str (txt vs)))) (some (.d (if rowQ vs then .str (txt vs) else okT))))) S3 := by
    exact (st_iff (ev_tb (ev_op2 (ev_call (ev_cons (ev_var rfl) ev_nil) (ev_def rfl (ev_P1 (lr)))) (ev_var rfl) (get_d) (get_d) (ne))) st_nil)
  exact ⟨_, _, _, _, _, S3, st_seq p0 (st_seq p1 (st_seq p2 (st_seq p3 (st_seq p4 (st_seq p5 (st_seq p6 p7)))))), d3.ok hS2, d3.at_ hb2.lt⟩
/-- one row -/
theorem body_ok (hS : OkS S) (hb : BoxAt S b) : ∃ (p4 p5 p6 p7 p8 p9 p10 p11 p12 p13 : Option X) (S2 : Sto), q_0B_1B (ev4 ns kk b o3 o4 o5 o6 o7 o8 o9 o10 o11 o12 o13) S = .go (.nx (ev4 ns kk b o3 p4 p5 p6 p7 p8 p9 p10 p11 p12 p13)) S2 ∧ OkS S2 ∧ BoxAt S2 b := by
  obtain ⟨m0, ms, S1, e1, hm, hl, hl0, hnd, d1⟩ := marks_ok hS hb
  obtain ⟨w, o, t, k, S2, e2, hr, d2⟩ := row_ok (d1.ok hS) (d1.at_ hb.lt) hm hl hl0
  have hr := hr.ok hm
  have hS2 := d2.ok (d1.ok hS)
  have hb2 := d2.at_ (d1.at_ hb.lt).lt
  obtain ⟨m1, m2, m3, hf, hk⟩ := row_bw hr
  obtain ⟨hw, h4, h5⟩ := row_ws hr
  obtain ⟨q1, q2⟩ := rowQ_row hr
  have tx := text_row (k := k) m1 m2 m3
  have sp := hw.gsplit (T := S2)
  have mk := made_row hS2 m1 m2 m3 hk hf
  have lr := lread_ok hw
  have rd := (read_ok hw).1
  rw [q2] at rd
  rw [q1] at lr
  have sr := str_row (k := k) m1 m2 m3
  have p0 : q_0B_1B_0 (ev4 ns kk b o3 o4 o5 o6 o7 o8 o9 o10 o11 o12 o13) S = .go (.nx (ev4 ns kk b o3 (some (.d (tupR w o t k))) o5 o6 o7 o8 o9 o10 o11 o12 o13)) S2 := by
    exact (st_set (ev_call (ev_cons (ev_var rfl) (ev_cons (ev_call (ev_cons (ev_var rfl) ev_nil) (ev_def rfl (e1))) ev_nil)) (ev_def rfl (e2))))
  have p1 : q_0B_1B_1 (ev4 ns kk b o3 (some (.d (tupR w o t k))) o5 o6 o7 o8 o9 o10 o11 o12 o13) S2 = .go (.nx (ev4 ns kk b o3 (some (.d (tupR w o t k))) (some (.d (.str (txt (wordsR w o t k))))) o6 o7 o8 o9 o10 o11 o12 o13)) S2 := by
    exact (st_set (ev_call (ev_cons (ev_var rfl) ev_nil) (ev_def rfl (ev_P1 (tx)))))
  have p2 : q_0B_1B_2 (ev4 ns kk b o3 (some (.d (tupR w o t k))) (some (.d (.str (txt (wordsR w o t k))))) o6 o7 o8 o9 o10 o11 o12 o13) S2 = .go (.nx (ev4 ns kk b o3 (some (.d (tupR w o t k))) (some (.d (.str (txt (wordsR w o t k))))) (some (.d (tls (wordsR w o t k)))) o7 o8 o9 o10 o11 o12 o13)) S2 := by
    exact (st_set (ev_sm1 (ev_var rfl) ev_c (sp)))
  have p3 : q_0B_1B_3 (ev4 ns kk b o3 (some (.d (tupR w o t k))) (some (.d (.str (txt (wordsR w o t k))))) (some (.d (tls (wordsR w o t k)))) o7 o8 o9 o10 o11 o12 o13) S2 = .go (.nx (ev4 ns kk b o3 (some (.d (tupR w o t k))) (some (.d (.str (txt (wordsR w o t k))))) (some (.d (tls (wordsR w o t k)))) (some (.d (rowD w o t k))) o8 o9 o10 o11 o12 o13)) S2 := by
    exact (st_set (ev_call (ev_cons (ev_ix (ev_var rfl) ev_c (rfl)) (ev_cons (ev_ix (ev_var rfl) ev_c (rfl)) (ev_cons (ev_ix (ev_var rfl) ev_c (rfl)) (ev_cons (ev_ix (ev_var rfl) ev_c (rfl)) ev_nil)))) (ev_def rfl (mk))))
  have eqr : g_Row_eq [rowD w o t k, rowD w o t k] = .ok (.bl true) := by
    have c : decide (("Row" : Str) = "Row") = true := decide_eq_true rfl
    have x : isX tabNone [("Row", true)] ([] : Sto) (.d (rowD w o t k)) = some true := by rfl
    unfold g_Row_eq runP b_Row_eq
    unfold rowD at *
    simp [ev0, s_seq, s_if, s_nil, s_expr, s_set, s_ret, s_retP, s_retN, s_retNP, s_retT, s_asg, s_par, s_sub, s_fld, m_tb, m_op2, m_ix, m_var, m_c, m_call, m_cons, m_nil, m_star, m_tup, m_lst, m_lstN, m_attr, m_bm, m_slice, m_part, m_no, m_if, m_andb, m_orb, m_notb, m_and, m_or, m_not, m_bl, m_truth, m_chain, R.bind, R.so, RO.then, items, ixO, ixD, intX, optR, op2, X.get, tb, dispT, dispL, dispN, attrO, slX, truthX, truthD, arity, withD, endE, endP, keepX, setO, fldO, putX, intF, lenF, lenS, lenD, intsF, ints?, absI, minI, maxI, ds?, gets, callP, X.isD, D.noL, D.noLs, D.noLf, isLst, lstOf, add_r, sub_r, gt_r, ge_r, lt_r, le_r, m_isi, x, g_strO, sr, c, eqs_r]
  have ne : eqO "Row" g_Row_eq true (rowD w o t k) (rowD w o t k) = some (.bl false) := by
    have q : eqO "Row" g_Row_eq true (rowD w o t k) (rowD w o t k) = (if decide (("Row" : Str) = "Row") && decide (("Row" : Str) = "Row") then (match g_Row_eq [rowD w o t k, rowD w o t k] with
      | .ok (.bl r) => some (D.bl (r ^^ true))
      | _ => none) else none) := rfl
    rw [q, eqr]
    rfl
  have p4 : q_0B_1B_4 (ev4 ns kk b o3 (some (.d (tupR w o t k))) (some (.d (.str (txt (wordsR w o t k))))) (some (.d (tls (wordsR w o t k)))) (some (.d (rowD w o t k))) o8 o9 o10 o11 o12 o13) S2 = .go (.nx (ev4 ns kk b o3 (some (.d (tupR w o t k))) (some (.d (.str (txt (wordsR w o t k))))) (some (.d (tls (wordsR w o t k)))) (some (.d (rowD w o t k))) o8 o9 o10 o11 o12 o13)) S2 := by
    exact (st_iff (ev_orf (ev_tb (ev_op2 (ev_call (ev_cons (ev_var rfl) ev_nil) (ev_def rfl (ev_P1 (lr)))) (ev_var rfl) (get_d) (get_d) (ne_same))) (ev_tb (ev_op2 (ev_cmeth ev_c (ev_cons (ev_var rfl) ev_nil) (ev_def rfl (ev_P2 (rd)))) (ev_var rfl) (get_d) (get_d) (ne)))) st_nil)
  obtain ⟨e2, S3, qq, ⟨p8, p9, p10, p11, p12, p13, he⟩, h1, h2⟩ := for_inv (t := .nm 8) (body := q_0B_1B_5B) (l := .free) (fun e S => (∃ (p8 p9 p10 p11 p12 p13 : Option X), e = ev4 ns kk b o3 (some (.d (tupR w o t k))) (some (.d (.str (txt (wordsR w o t k))))) (some (.d (tls (wordsR w o t k)))) (some (.d (rowD w o t k))) p8 p9 p10 p11 p12 p13) ∧ OkS S ∧ BoxAt S b) (fun _ _ _ => rfl) (xs := Bv.upTo 0 5) (e := ev4 ns kk b o3 (some (.d (tupR w o t k))) (some (.d (.str (txt (wordsR w o t k))))) (some (.d (tls (wordsR w o t k)))) (some (.d (rowD w o t k))) o8 o9 o10 o11 o12 o13) (S := S2) ⟨⟨_, _, _, _, _, _, rfl⟩, hS2, hb2⟩ fun x _ e T ⟨⟨p8, p9, p10, p11, p12, p13, he⟩, h1, h2⟩ => by
    obtain ⟨r9, r10, r11, r12, r13, T2, q, g1, g2⟩ := bent_ok (ns := ns) (kk := kk) (o3 := o3) (o4 := some (.d (tupR w o t k))) (o5 := some (.d (.str (txt (wordsR w o t k))))) (o7 := some (.d (rowD w o t k))) (o8 := some x) (o9 := p9) (o10 := p10) (o11 := p11) (o12 := p12) (o13 := p13) h1 h2 hw h4 h5
    exact ⟨_, _, T2, by rw [he]; rfl, q, ⟨_, _, _, _, _, _, rfl⟩, g1, g2⟩
  subst he
  have p5 : q_0B_1B_5I (ev4 ns kk b o3 (some (.d (tupR w o t k))) (some (.d (.str (txt (wordsR w o t k))))) (some (.d (tls (wordsR w o t k)))) (some (.d (rowD w o t k))) o8 o9 o10 o11 o12 o13) S2 = .ok (Bv.upTo 0 5, .free) S2 := i_rng1_ok (n := 5) rfl small5
  exact ⟨_, _, _, _, _, _, _, _, _, _, S3, st_seq p0 (st_seq p1 (st_seq p2 (st_seq p3 (st_seq p4 (st_for p5 qq))))), h1, h2⟩
theorem in_loop {xs : List X} (hS : OkS S) (hb : BoxAt S b) : ∃ (e2 : Ev) (S2 : Sto), forL (.nm 3) .free q_0B_1B xs (ev4 ns kk b o3 o4 o5 o6 o7 o8 o9 o10 o11 o12 o13) S = .go (.nx e2) S2 ∧ e2.length = 14 ∧ e2[0]? = some (some (.d (.scr ns))) ∧ OkS S2 := by
  obtain ⟨e2, S2, h, ⟨p3, p4, p5, p6, p7, p8, p9, p10, p11, p12, p13, he⟩, h1, h2⟩ := for_inv (t := .nm 3) (body := q_0B_1B) (l := .free) (fun e S => (∃ (o3 o4 o5 o6 o7 o8 o9 o10 o11 o12 o13 : Option X), e = ev4 ns kk b o3 o4 o5 o6 o7 o8 o9 o10 o11 o12 o13) ∧ OkS S ∧ BoxAt S b) (fun _ _ _ => rfl) (xs := xs) (e := ev4 ns kk b o3 o4 o5 o6 o7 o8 o9 o10 o11 o12 o13) (S := S) ⟨⟨_, _, _, _, _, _, _, _, _, _, _, rfl⟩, hS, hb⟩ fun x _ e T ⟨⟨p3, p4, p5, p6, p7, p8, p9, p10, p11, p12, p13, he⟩, h1, h2⟩ => by
    obtain ⟨r4, r5, r6, r7, r8, r9, r10, r11, r12, r13, T2, q, g1, g2⟩ := body_ok (ns := ns) (kk := kk) (o3 := some x) (o4 := p4) (o5 := p5) (o6 := p6) (o7 := p7) (o8 := p8) (o9 := p9) (o10 := p10) (o11 := p11) (o12 := p12) (o13 := p13) h1 h2
    exact ⟨_, _, T2, by rw [he]; rfl, q, ⟨_, _, _, _, _, _, _, _, _, _, _, rfl⟩, g1, g2⟩
  exact ⟨e2, S2, h, by rw [he]; rfl, by rw [he]; rfl, h1⟩
end
theorem out_ok' {ns : List Int} {i : Nat} {e : Ev} {S : Sto} (he : e.length = 14) (h0 : e[0]? = some (some (.d (.scr ns)))) (h1 : e[1]? = some (some (.d (.int i)))) (hi : i < 4) (hi2 : i < ns.length ∨ i = 0) (hS : OkS S) : ∃ e2 S2, q_0B e S = .go (.nx e2) S2 ∧ e2.length = 14 ∧ e2[0]? = some (some (.d (.scr ns))) ∧ OkS S2 := by
  match e, he with
  | [a0, a1, a2, a3, a4, a5, a6, a7, a8, a9, a10, a11, a12, a13], _ =>
    simp at h0 h1
    subst h0 h1
    obtain ⟨S1, e1, g1, g2, g3⟩ := seed_ok hS hi hi2
    obtain ⟨e2, S2, q, r1, r2, r3⟩ := in_loop (ns := ns) (kk := i) (o3 := a3) (o4 := a4) (o5 := a5) (o6 := a6) (o7 := a7) (o8 := a8) (o9 := a9) (o10 := a10) (o11 := a11) (o12 := a12) (o13 := a13) (xs := Bv.upTo 0 8) g1 g3
    refine ⟨e2, S2, ?_, r1, r2, r3⟩
    have p1 : q_0B_0 [some (.d (.scr ns)), some (.d (.int i)), a2, a3, a4, a5, a6, a7, a8, a9, a10, a11, a12, a13] S = .go (.nx (ev4 ns i S.length a3 a4 a5 a6 a7 a8 a9 a10 a11 a12 a13)) S1 := by
      exact (st_set (ev_call (ev_cons (ev_var rfl) (ev_cons (ev_var rfl) ev_nil)) (ev_def rfl (e1))))
    have p3 : q_0B_1I (ev4 ns i S.length a3 a4 a5 a6 a7 a8 a9 a10 a11 a12 a13) S1 = .ok (Bv.upTo 0 8, .free) S1 := i_rng1_ok (n := 8) rfl small8
    exact st_seq p1 (st_for p3 q)
theorem last_ws : Ws ([""] : List Str) ∧ Ws (["drop", "any", "to", "a\n"] : List Str) := by
  have m : ∀ z ∈ (["", "drop", "any", "to", "a\n"] : List Str), z ∈ BW := by decide +kernel
  refine ⟨⟨by simp, by simp, fun z hz => m z ?_⟩, ⟨by simp, by simp, fun z hz => m z ?_⟩⟩ <;> simp only [List.mem_cons, List.not_mem_nil, or_false] at hz ⊢ <;> simp [hz]
theorem last1 : g__law_read [.str ""] = .ok okT := by
  have e : rowQ ([""] : List Str) = false := by kernel_rfl
  have q := lread_ok last_ws.1
  rw [e] at q
  have t : txt ([""] : List Str) = "" := by kernel_rfl
  rw [t] at q
  exact q
theorem last2 : g__law_read [.str "drop any to a\n"] = .ok okT := by
  have e : rowQ (["drop", "any", "to", "a\n"] : List Str) = false := by kernel_rfl
  have q := lread_ok last_ws.2
  rw [e] at q
  have t : txt (["drop", "any", "to", "a\n"] : List Str) = "drop any to a\n" := by kernel_rfl
  rw [t] at q
  exact q
theorem eq_okT : eqD okT okT = some (.bl true) := by rfl
theorem plain (ns : List Int) (hl : ns.length ≤ 63) : g_law [.scr ns] = .ok (.bl true) := by
  let n : Nat := max 1 (min 4 ns.length)
  have hn : n ≤ 4 ∧ 1 ≤ n ∧ (ns.length ≠ 0 → n ≤ ns.length) ∧ (ns.length = 0 → n = 1) := by omega
  have hit : q_0I (ev0 14 [.d (.scr ns)]) [] = .ok (Bv.upTo 0 n, .free) [] := by
    refine i_rng1_ok (n := n) ?_ (smallI_nat (by omega))
    have hv : (n : Int) = if (if (ns.length : Int) < 4 then (ns.length : Int) else 4) > 1 then (if (ns.length : Int) < 4 then (ns.length : Int) else 4) else 1 := by omega
    rw [hv]
    simp [ev0, s_seq, s_if, s_nil, s_expr, s_set, s_ret, s_retP, s_retN, s_retNP, s_retT, s_asg, s_par, s_sub, s_fld, m_tb, m_op2, m_ix, m_var, m_c, m_call, m_cons, m_nil, m_star, m_tup, m_lst, m_lstN, m_attr, m_bm, m_slice, m_part, m_no, m_if, m_andb, m_orb, m_notb, m_and, m_or, m_not, m_bl, m_truth, m_chain, R.bind, R.so, RO.then, items, ixO, ixD, intX, optR, op2, X.get, tb, dispT, dispL, dispN, attrO, slX, truthX, truthD, arity, withD, endE, endP, keepX, setO, fldO, putX, intF, lenF, lenS, lenD, intsF, ints?, absI, minI, maxI, ds?, gets, callP, X.isD, D.noL, D.noLs, D.noLf, isLst, lstOf, add_r, sub_r, gt_r, ge_r, lt_r, le_r]
  obtain ⟨e2, S2, h, r1, r2, r3⟩ := for_inv (t := .nm 1) (body := q_0B) (l := .free) (fun e S => e.length = 14 ∧ e[0]? = some (some (.d (.scr ns))) ∧ OkS S) (fun _ _ _ => rfl) (xs := Bv.upTo 0 n) (e := ev0 14 [.d (.scr ns)]) (S := []) ⟨rfl, rfl, okS_nil⟩ fun x hx e S ⟨h1, h2, h3⟩ => by
    obtain ⟨i, hi, rfl⟩ := List.mem_map.mp hx
    rw [List.mem_range] at hi
    refine ⟨e.set 1 (some (.d (.int (0 + (i : Int))))), ?_⟩
    have g1 : (e.set 1 (some (X.d (.int (0 + (i : Int))))))[1]? = some (some (.d (.int i))) := by
      rw [List.getElem?_set_self (by omega), Int.zero_add]
    have g0 : (e.set 1 (some (X.d (.int (0 + (i : Int))))))[0]? = some (some (.d (.scr ns))) := by
      rw [List.getElem?_set_ne (by decide)]; exact h2
    obtain ⟨e2, S2, q, r⟩ := out_ok' (by rw [List.length_set]; exact h1) g0 g1 (by omega) (by omega) h3
    exact ⟨e2, S2, rfl, q, r⟩
  have hf : q_1 e2 S2 = .go (.rp (.bl true)) S2 := by
    exact (st_retP (ev_andv (ev_op2 (ev_call (ev_cons ev_c ev_nil) (ev_def rfl (ev_P1 (last1)))) (ev_tup (ev_cons ev_c (ev_cons ev_c ev_nil)) (rfl) (hz4 (by decide))) (get_d) (get_d) (eq_okT)) (rfl) (ev_op2 (ev_call (ev_cons ev_c ev_nil) (ev_def rfl (ev_P1 (last2)))) (ev_tup (ev_cons ev_c (ev_cons ev_c ev_nil)) (rfl) (hz4 (by decide))) (get_d) (get_d) (eq_okT))) (get_d))
  unfold g_law runP
  rw [q_is]
  show endP (q (ev0 14 [.d (.scr ns)]) []) = _
  have z : q (ev0 14 [.d (.scr ns)]) [] = .go (.rp (.bl true)) S2 := st_seq (st_for hit h) hf
  rw [z]
  rfl
end Lw
set_option Elab.async false
set_option linter.all false
set_option maxRecDepth 100000
set_option maxHeartbeats 0
namespace Lw
open PySem PySem.Spec L2 Bv
open PyProof.Rows hiding St
/-! ### the head -/
def x_InvalidRow : ErrB := ⟨"InvalidRow", "InvalidRow.__init__", "word", inClass (top 3) 0⟩
theorem es_InvalidRow : ErrS x_InvalidRow.st x_InvalidRow.par := ⟨_, _, _, _, _, _, _, _, _, _, _, _, rfl, rfl, rfl, fun _ => ⟨_, rfl⟩⟩
def x_InvalidText : ErrB := ⟨"InvalidText", "InvalidText.__init__", "at", inClass (top 4) 0⟩
theorem es_InvalidText : ErrS x_InvalidText.st x_InvalidText.par := ⟨_, _, _, _, _, _, _, _, _, _, _, _, rfl, rfl, rfl, fun _ => ⟨_, rfl⟩⟩
def xsL : List ErrB := [x_InvalidRow, x_InvalidText]
def d_is_name : DefB := ⟨fun K => He.ga K "is_name", "is_name", "is_name", defArgs st_is_name, defBody st_is_name, defScope st_is_name, []⟩
def d_is_word : DefB := ⟨fun K => He.ga K "is_word", "is_word", "is_word", defArgs st_is_word, defBody st_is_word, defScope st_is_word, []⟩
def d_Row_str : DefB := ⟨fun K => He.ma K (He.ga K "Row") "__str__", "__str__", "Row.__str__", defArgs st_Row_str, defBody st_Row_str, defScope st_Row_str, []⟩
def d__law_seed : DefB := ⟨fun K => He.ga K "_law_seed", "_law_seed", "_law_seed", defArgs st__law_seed, defBody st__law_seed, defScope st__law_seed, []⟩
def d__law_choose : DefB := ⟨fun K => He.ga K "_law_choose", "_law_choose", "_law_choose", defArgs st__law_choose, defBody st__law_choose, defScope st__law_choose, []⟩
def d__law_row_text : DefB := ⟨fun K => He.ga K "_law_row_text", "_law_row_text", "_law_row_text", defArgs st__law_row_text, defBody st__law_row_text, defScope st__law_row_text, []⟩
def d__law_name : DefB := ⟨fun K => He.ga K "_law_name", "_law_name", "_law_name", defArgs st__law_name, defBody st__law_name, defScope st__law_name, []⟩
def d_Row_init : DefB := ⟨fun K => He.ma K (He.ga K "Row") "__init__", "__init__", "Row.__init__", defArgs st_Row_init, defBody st_Row_init, defScope st_Row_init, [.bl true]⟩
def d__law_one_of : DefB := ⟨fun K => He.ga K "_law_one_of", "_law_one_of", "_law_one_of", defArgs st__law_one_of, defBody st__law_one_of, defScope st__law_one_of, []⟩
def d__law_mixed : DefB := ⟨fun K => He.ga K "_law_mixed", "_law_mixed", "_law_mixed", defArgs st__law_mixed, defBody st__law_mixed, defScope st__law_mixed, []⟩
def d__law_is_row : DefB := ⟨fun K => He.ga K "_law_is_row", "_law_is_row", "_law_is_row", defArgs st__law_is_row, defBody st__law_is_row, defScope st__law_is_row, []⟩
def d__law_marks : DefB := ⟨fun K => He.ga K "_law_marks", "_law_marks", "_law_marks", defArgs st__law_marks, defBody st__law_marks, defScope st__law_marks, []⟩
def d__law_row : DefB := ⟨fun K => He.ga K "_law_row", "_law_row", "_law_row", defArgs st__law_row, defBody st__law_row, defScope st__law_row, []⟩
def d_Row_read : DefB := ⟨fun K => cmAd "Row" "read" K, "read", "Row.read", defArgs st_Row_read, defBody st_Row_read, defScope st_Row_read, []⟩
def d_Row_eq : DefB := ⟨fun K => He.ma K (He.ga K "Row") "__eq__", "__eq__", "Row.__eq__", defArgs st_Row_eq, defBody st_Row_eq, defScope st_Row_eq, []⟩
def d__law_read : DefB := ⟨fun K => He.ga K "_law_read", "_law_read", "_law_read", defArgs st__law_read, defBody st__law_read, defScope st__law_read, []⟩
def d_law : DefB := ⟨fun K => He.ga K "law", "law", "law", defArgs st_law, defBody st_law, defScope st_law, []⟩
def dsL : List DefB := [d_is_name, d_is_word, d_Row_str, d__law_seed, d__law_choose, d__law_row_text, d__law_name, d_Row_init, d__law_one_of, d__law_mixed, d__law_is_row, d__law_marks, d__law_row, d_Row_read, d_Row_eq, d__law_read, d_law]
def tsL : List (PySem.W.Frag → Bool) := [t_free "len",
  t_free "min",
  t_free "max",
  t_free "range",
  t_free "abs",
  t_free "int",
  t_glo "_law_seed",
  t_glo "_law_choose",
  t_glo "_law_one_of",
  t_free "list",
  t_glo "_law_mixed",
  t_glo "_law_marks",
  t_glo "_law_row",
  t_glo "_law_row_text",
  t_free "isinstance",
  t_isT (fun K => (.type "str")) (tabOf "str") [("Row", false)],
  t_free "str",
  t_tup "HAPPENINGS" ["give", "carry", "drop", "back", "right", "wrong"],
  t_glo "HAPPENINGS",
  t_glo "is_word",
  t_glo "InvalidRow",
  t_tup "BARRED" ["any", "same", "take", "keep", "to"],
  t_glo "BARRED",
  t_int "MOST_LETTERS" 5,
  t_txt "LETTERS" "abcdefghijklmnopqrstuvwxyz",
  t_free "all",
  t_glo "is_name",
  t_isT (fun K => (.type "bool")) (tabOf "bool") [("Row", false)],
  t_free "bool",
  t_attr ["Row"] "word",
  t_attr ["Row"] "old",
  t_attr ["Row"] "then",
  t_attr ["Row"] "take",
  t_mkr "Row",
  t_glo "Row",
  t_catch "InvalidText" [("InvalidRow", false), ("InvalidText", true)],
  t_isx (fun K => (.ref (He.ga K "WordError"))) [("InvalidRow", true), ("InvalidText", true)],
  t_glo "WordError",
  t_isx (fun K => (.ref (He.ga K "InvalidRow"))) [("InvalidRow", true), ("InvalidText", false)],
  t_xf ["InvalidText"] "at",
  t_tup "TAKINGS" ["keep", "take"],
  t_glo "TAKINGS",
  t_glo "InvalidText",
  t_catch "InvalidRow" [("InvalidRow", true), ("InvalidText", false)],
  t_rs [("InvalidRow", true), ("InvalidText", false)],
  t_cm "Row" "read",
  t_str "Row",
  t_glo "_law_read",
  t_isT (fun K => (.ref (He.ga K "Row"))) tabNone [("Row", true)],
  t_eq "Row",
  t_glo "_law_name",
  t_glo "_law_is_row",
  t_glo "law",
  t_err1 "InvalidRow" "word" .ve,
  t_err2 "InvalidRow" .ve,
  t_err3 "InvalidRow" "InvalidRow.__init__" (PySem.Challenge.pw_wordingkept_k04_texts_of_rows.main.file),
  t_err1 "InvalidText" "at" .ve,
  t_err2 "InvalidText" .ve,
  t_err3 "InvalidText" "InvalidText.__init__" (PySem.Challenge.pw_wordingkept_k04_texts_of_rows.main.file)]
theorem facts {K : PySem.W.Frag} {h : Heap} {mg : Str → Option Value} (X : K.In h) (G : h.Ns mainGlobals mg) (c : SaysB tsL dsL K) : Facts K mg := ⟨
  free_ok' X G (c.test 0 rfl),
  free_ok' X G (c.test 1 rfl),
  free_ok' X G (c.test 2 rfl),
  free_ok' X G (c.test 3 rfl),
  free_ok' X G (c.test 4 rfl),
  free_ok' X G (c.test 5 rfl),
  glo_ok' X G (c.test 6 rfl),
  glo_ok' X G (c.test 7 rfl),
  glo_ok' X G (c.test 8 rfl),
  free_ok' X G (c.test 9 rfl),
  glo_ok' X G (c.test 10 rfl),
  glo_ok' X G (c.test 11 rfl),
  glo_ok' X G (c.test 12 rfl),
  glo_ok' X G (c.test 13 rfl),
  free_ok' X G (c.test 14 rfl),
  isT_ok (u := fun K => (.type "str")) (c.test 15 rfl),
  free_ok' X G (c.test 16 rfl),
  c.test 17 rfl,
  glo_ok' X G (c.test 18 rfl),
  glo_ok' X G (c.test 19 rfl),
  glo_ok' X G (c.test 20 rfl),
  c.test 21 rfl,
  glo_ok' X G (c.test 22 rfl),
  int_ok' X G (c.test 23 rfl),
  txt_ok' X G (c.test 24 rfl),
  free_ok' X G (c.test 25 rfl),
  glo_ok' X G (c.test 26 rfl),
  isT_ok (u := fun K => (.type "bool")) (c.test 27 rfl),
  free_ok' X G (c.test 28 rfl),
  attr_ok (c.test 29 rfl),
  attr_ok (c.test 30 rfl),
  attr_ok (c.test 31 rfl),
  attr_ok (c.test 32 rfl),
  mkr_ok' (c.test 33 rfl),
  glo_ok' X G (c.test 34 rfl),
  catch_ok (c.test 35 rfl),
  isx_ok (u := fun K => (.ref (He.ga K "WordError"))) (c.test 36 rfl),
  glo_ok' X G (c.test 37 rfl),
  isx_ok (u := fun K => (.ref (He.ga K "InvalidRow"))) (c.test 38 rfl),
  xf_ok (c.test 39 rfl),
  c.test 40 rfl,
  glo_ok' X G (c.test 41 rfl),
  glo_ok' X G (c.test 42 rfl),
  catch_ok (c.test 43 rfl),
  rs_ok (c.test 44 rfl),
  cm_ok (c.test 45 rfl),
  str_ok (c.test 46 rfl),
  glo_ok' X G (c.test 47 rfl),
  isT_ok (u := fun K => (.ref (He.ga K "Row"))) (c.test 48 rfl),
  eq_ok (c.test 49 rfl),
  glo_ok' X G (c.test 50 rfl),
  glo_ok' X G (c.test 51 rfl),
  glo_ok' X G (c.test 52 rfl)⟩
theorem all [HasW] {P : Program} {w : World} {K : PySem.W.Frag} {h : Heap} {mg : Str → Option Value} {f : Addr} (X : K.In h) (G : h.Ns mainGlobals mg) (cx : SaysX tsL dsL xsL K) (hP : P.main.file = PySem.Challenge.pw_wordingkept_k04_texts_of_rows.main.file) (hT : (P.main.scope.names.lookup ("super" : Str)).isSome = false) (hf : mg "law" = some (.ref f)) :
    ∃ fd : FuncData, (∀ (s : Shared) (v : Value), BindsTo s fd ⟨[v], []⟩ [("_law_script", v)]) ∧ ∀ base : Heap, K.In base → base.Ns mainGlobals mg → FnG P w K mg base 6 f fd ["_law_script"] (spP K 1 g_law) := by
  have c := cx.toB
  have Fx := facts X G c
  have e0 := hf.symm.trans (glo_ok' X G (c.test 52 rfl))
  cases e0
  obtain ⟨fd_is_name, F_is_name⟩ := c.fun 0 (d := d_is_name) rfl
  obtain ⟨fd_is_word, F_is_word⟩ := c.fun 1 (d := d_is_word) rfl
  obtain ⟨fd_Row_str, F_Row_str⟩ := c.fun 2 (d := d_Row_str) rfl
  obtain ⟨fd__law_seed, F__law_seed⟩ := c.fun 3 (d := d__law_seed) rfl
  obtain ⟨fd__law_choose, F__law_choose⟩ := c.fun 4 (d := d__law_choose) rfl
  obtain ⟨fd__law_row_text, F__law_row_text⟩ := c.fun 5 (d := d__law_row_text) rfl
  obtain ⟨fd__law_name, F__law_name⟩ := c.fun 6 (d := d__law_name) rfl
  obtain ⟨fd_Row_init, F_Row_init⟩ := c.fun 7 (d := d_Row_init) rfl
  obtain ⟨fd__law_one_of, F__law_one_of⟩ := c.fun 8 (d := d__law_one_of) rfl
  obtain ⟨fd__law_mixed, F__law_mixed⟩ := c.fun 9 (d := d__law_mixed) rfl
  obtain ⟨fd__law_is_row, F__law_is_row⟩ := c.fun 10 (d := d__law_is_row) rfl
  obtain ⟨fd__law_marks, F__law_marks⟩ := c.fun 11 (d := d__law_marks) rfl
  obtain ⟨fd__law_row, F__law_row⟩ := c.fun 12 (d := d__law_row) rfl
  obtain ⟨fd_Row_read, F_Row_read⟩ := c.fun 13 (d := d_Row_read) rfl
  obtain ⟨fd_Row_eq, F_Row_eq⟩ := c.fun 14 (d := d_Row_eq) rfl
  obtain ⟨fd__law_read, F__law_read⟩ := c.fun 15 (d := d__law_read) rfl
  obtain ⟨fd_law, F_law⟩ := c.fun 16 (d := d_law) rfl
  have b0 := F_law.bindsA (ps := ["_law_script"]) fun _ _ _ _ _ _ us hl => match us, hl with | [_], _ => rfl
  refine ⟨fd_law, fun s v => b0 s [v] rfl, fun base _ _ => ?_⟩
  have X_InvalidRow : Xe.ErrOk P K (He.ga K "InvalidRow") (inAd "InvalidRow" K) "word" := err_ok (d := x_InvalidRow) (b := .ve) es_InvalidRow (.inl rfl) (cx.seen 0 rfl) (c.test 53 rfl) (c.test 54 rfl) (c.test 55 rfl) hP hT
  have X_InvalidText : Xe.ErrOk P K (He.ga K "InvalidText") (inAd "InvalidText" K) "at" := err_ok (d := x_InvalidText) (b := .ve) es_InvalidText (.inr (.inl rfl)) (cx.seen 1 rfl) (c.test 56 rfl) (c.test 57 rfl) (c.test 58 rfl) hP hT
  have K_is_name := kept0 F_is_name (ok_is_name (P := P) (w := w) (base := base) Fx  F_is_name) fun _ _ _ _ _ _ us hl => match us, hl with | [_], _ => rfl
  have K_is_word := kept0 F_is_word (ok_is_word (P := P) (w := w) (base := base) Fx  F_is_word) fun _ _ _ _ _ _ us hl => match us, hl with | [_, _], _ => rfl
  have K_Row_str := kept0 F_Row_str (ok_Row_str (P := P) (w := w) (base := base) Fx  F_Row_str) fun _ _ _ _ _ _ us hl => match us, hl with | [_], _ => rfl
  have K__law_seed := kept0 F__law_seed (ok__law_seed (P := P) (w := w) (base := base) Fx  F__law_seed) fun _ _ _ _ _ _ us hl => match us, hl with | [_, _], _ => rfl
  have K__law_choose := kept0 F__law_choose (ok__law_choose (P := P) (w := w) (base := base) Fx  F__law_choose) fun _ _ _ _ _ _ us hl => match us, hl with | [_, _], _ => rfl
  have K__law_row_text := kept0 F__law_row_text (ok__law_row_text (P := P) (w := w) (base := base) Fx  F__law_row_text) fun _ _ _ _ _ _ us hl => match us, hl with | [_], _ => rfl
  have K__law_name := kept0 F__law_name (ok__law_name (P := P) (w := w) (base := base) Fx  F__law_name) fun _ _ _ _ _ _ us hl => match us, hl with | [_], _ => rfl
  have K_Row_init := keptA F_Row_init (ok_Row_init (P := P) (w := w) (base := base) Fx X_InvalidRow K_is_word K_is_name F_Row_init) (by simp [DefB.dvs, d_Row_init]) fun _ _ _ _ _ _ _ us its hl hi => match us, its, hl, hi with | [_, _, _, _, _], [_], _, _ => ⟨_, rfl, rfl⟩
  have K__law_one_of := kept0 F__law_one_of (ok__law_one_of (P := P) (w := w) (base := base) Fx K__law_choose F__law_one_of) fun _ _ _ _ _ _ us hl => match us, hl with | [_, _], _ => rfl
  have K__law_mixed := kept0 F__law_mixed (ok__law_mixed (P := P) (w := w) (base := base) Fx K__law_choose F__law_mixed) fun _ _ _ _ _ _ us hl => match us, hl with | [_, _], _ => rfl
  have K__law_is_row := kept0 F__law_is_row (ok__law_is_row (P := P) (w := w) (base := base) Fx K__law_name F__law_is_row) fun _ _ _ _ _ _ us hl => match us, hl with | [_], _ => rfl
  have K__law_marks := kept0 F__law_marks (ok__law_marks (P := P) (w := w) (base := base) Fx K__law_mixed K__law_choose F__law_marks) fun _ _ _ _ _ _ us hl => match us, hl with | [_], _ => rfl
  have K__law_row := kept0 F__law_row (ok__law_row (P := P) (w := w) (base := base) Fx K__law_one_of K__law_choose F__law_row) fun _ _ _ _ _ _ us hl => match us, hl with | [_, _], _ => rfl
  have K_Row_read := kept0 F_Row_read (ok_Row_read (P := P) (w := w) (base := base) Fx X_InvalidText K_Row_init F_Row_read) fun _ _ _ _ _ _ us hl => match us, hl with | [_, _], _ => rfl
  have K_Row_eq := kept0 F_Row_eq (ok_Row_eq (P := P) (w := w) (base := base) Fx K_Row_str F_Row_eq) fun _ _ _ _ _ _ us hl => match us, hl with | [_, _], _ => rfl
  have K__law_read := kept0 F__law_read (ok__law_read (P := P) (w := w) (base := base) Fx K_Row_read K_Row_str F__law_read) fun _ _ _ _ _ _ us hl => match us, hl with | [_], _ => rfl
  exact ok_law (P := P) (w := w) (base := base) Fx K__law_seed K__law_row K__law_marks K__law_row_text K_Row_init K__law_read K_Row_eq K_Row_read K__law_choose K__law_one_of K__law_is_row F_law
def loose0 : List PySem.Str := ["_wall", "WordError", "InvalidRow", "InvalidText", "HAPPENINGS", "BARRED", "LETTERS", "MOST_LETTERS", "is_name", "is_word", "TAKINGS", "Row", "_law_seed", "_law_choose", "_law_one_of", "_law_mixed", "_law_marks", "_law_row", "_law_tool", "_law_row_text", "_law_tool_text", "_law_name", "_law_is_row", "_law_read"]
def looseL : List PySem.Str := loose0
abbrev Rw : PySem.W.OpenRow := PySem.W.OpenLaw.row PySem.Challenge.rw_wordingkept_k04_texts_of_rows
abbrev Vw : Program := PySem.W.view Rw.prog [28]
abbrev hkL : PySem.W.Hook := hookX 7 tsL dsL xsL
def obL (s : PySem.W.SharedT) : AlB := obsXG 7 tsL dsL xsL (HandSHeadRun.getT s)
theorem obL_eq (s : PySem.W.SharedT) : obL s = hkL.obs s.abs := obsXG_eq (HandSHeadRun.getT_eq s)
theorem runL (w : World) : HandSHeadRun.RunEq Rw Vw hkL obL 30000 looseL w := by
  intro os
  kernel_rfl
end Lw
set_option Elab.async false
set_option linter.all false
set_option maxRecDepth 100000
set_option maxHeartbeats 0
namespace Lw
end Lw
open PySem PySem.W PySem.Calls PyProof.Rows
theorem PySem.Challenge.cw_wordingkept_k04_texts_of_rows_holds : PySem.Challenge.rw_wordingkept_k04_texts_of_rows.Holds := by
  w_on; o_law
  refine HandSHeadRun.head_any (r := Lw.Rw) (q := Lw.Vw) (H := Lw.hkL) (ob := Lw.obL) (M := 30000) (loose := Lw.looseL) (d := HandSHeadRun.topDef Lw.Rw.prog 28) (kwd := []) Lw.obL_eq
    (by kernel_rfl) (fun s => by kernel_rfl) Lw.runL (by kernel_rfl) (by kernel_rfl) (by kernel_rfl) (by rfl) (by first | assumption | decide +kernel) (by decide +kernel) ⟨rfl, rfl, rfl, rfl, rfl, by decide +kernel⟩ ?hw ?hc
  case hw => w_witness2
  case hc =>
    refine Bv.walk_ofG (l := PySem.Challenge.rw_wordingkept_k04_texts_of_rows) (n := 63) (k := 6) (x := "_law_script") rfl (by decide) (by kernel_rfl) ⟨rfl, by decide, by decide⟩ ?F
    intro w mg fa h Y G hmg0
    obtain ⟨K, KX, c⟩ := Y
    have hmg : mg ("law" : PySem.Str) = some (.ref fa) := by
      have e : (HandSHeadRun.topDef Lw.Rw.prog 28).name = ("law" : PySem.Str) := by kernel_rfl
      rw [← e]
      exact hmg0
    letI : Bv.HasW := ⟨w⟩
    obtain ⟨fd, hb, hF⟩ := Lw.all (P := (PySem.Challenge.rw_wordingkept_k04_texts_of_rows).prog) (w := w) KX G c (by kernel_rfl) (by kernel_rfl) hmg
    exact ⟨K, fd, Bv.spP K 1 Lw.g_law, KX, hb, fun H a ns hl only hS => Bv.law_sp Lw.plain H a ns hl only hS, hF⟩
