import PyProof.Rows.All
import Wide.All
import OpenK.AllK
import Wide.FinOn
import HandS.ForMost
import HandS.Deep
import KE.GoesEnum
import KE.GoesNew
import KE.GoesNewDict
import KE.KDictCopyH
import HandS.Wide
import HandS.TupAny
import HandS.IsInst
import HandS.Conv
import PyProof.Rows.RuleB_pow
import HandS.Style
import HandS.More
import HandS.TupLen
import KE.SortData
import KE.KDictSum
import PyProof.ReprRoads
import PyProof.TupleOfSeq
import PyProof.Rows.InDataRows
import HandS.Ends
import HandS.HeadEnd
import HandS.Star
import HandS.Small
import KE.KEqDict
import HandS.DictComp
import KE.KDictPairs
import KE.KDictKeyed
import KE.KDictDisplayH
import KE.KDictList
import KE.KDictWalk
import HandS.SetFor
import HandS.Strs
import PyProof.FactsAll.subtypes_4
import HandS.Defaults
import PyProof.ListRange
import HandS.Sort
import PyProof.ReprBulk
import PyProof.Rows.ReprOcc
import HandS.Head0
import HandS.Head1
import HandS.Head2
import HandS.HeadHook1
import HandS.HeadHook2
import KE.KStateDown
import PySem.Challenge.RW_nevermisread_k80_whole_yards_by_own_leve
set_option Elab.async false
set_option linter.all false
set_option maxRecDepth 100000
/-! PLCore: pure functions over data that stand for Python's defs. Data, what stands for what, the state. -/
namespace PL
open PySem PySem.Spec L2

/-- data; dk: a dict, keys ints or texts; dt: .. tuples of such -/
inductive D where
  | non | bl (b : Bool) | int (i : Int) | str (x : Str)
  | tup (xs : List D) | lst (xs : List D) | dk (kvs : List (Key × D)) | dt (kvs : List (List Key × D))
  | obj (n : Nat) | fn (x : Str)

/-- what a slot holds, what an expression gives: shared data (unchanging); an owned list or dict; one that is looked at -/
inductive SV where
  | sh (d : D) | ow (d : D) | ro (d : D)
/-- an object of the store -/
inductive Ob where
  | lst (ds : List D)
abbrev Lo := List (Option SV)
abbrev Sto := List Ob

/-- a list of the written part -/
def KL (K : PySem.W.Frag) (a : Addr) (xs : List V) : Prop := ∃ (its : Array Value) (n : Nat), K.lookup a = some { cls := .type "list", data := .seq its n } ∧ its.size ≤ sizeLine ∧ Vals xs its.toList
theorem KL.sq {K : PySem.W.Frag} {H : Hp} {a : Addr} {xs : List V} (h : KL K a xs) : SqL K H a xs :=
  let ⟨its, n, e, z, r⟩ := h
  .inr ⟨_, its, n, e, rfl, rfl, rfl, z, r⟩

section
variable (K : PySem.W.Frag) (mg : Str → Option Value)
mutual
/-- v stands for d: β the store's addresses; lists and dicts avoid M -/
inductive Rp (β : List Addr) (M : Addr → Prop) (H : Hp) : V → D → Prop
  | non : Rp β M H .non .non
  | bl (b : Bool) : Rp β M H (.bl b) (.bl b)
  | int (i : Int) : Rp β M H (.int i) (.int i)
  | str (x : Str) : Rp β M H (.str x) (.str x)
  | tup {a : Addr} {vs : List V} {ds : List D} : H a = some (.tup vs) → RpL β M H vs ds → Rp β M H (.ref a) (.tup ds)
  | lst {a : Addr} {vs : List V} {ds : List D} : Rd H a (.lst vs) → ¬ M a → RpL β M H vs ds → Rp β M H (.ref a) (.lst ds)
  | lstK {a : Addr} {vs : List V} {ds : List D} : KL K a vs → RpL β M H vs ds → Rp β M H (.ref a) (.lst ds)
  | dK {a : Addr} {kvs : List (Key × V)} {es : List (Key × D)} : Rd H a (.dK kvs) → ¬ M a → RpK β M H kvs es → Rp β M H (.ref a) (.dk es)
  | dT {a : Addr} {kvs : List (List Key × V)} {es : List (List Key × D)} : Rd H a (.dT kvs) → ¬ M a → RpT β M H kvs es → Rp β M H (.ref a) (.dt es)
  | obj {a : Addr} {n : Nat} : β[n]? = some a → Rp β M H (.ref a) (.obj n)
  | fn {a : Addr} {x : Str} : mg x = some (.ref a) → PySem.W.keepIn K (.ref a) = true → Rp β M H (.ref a) (.fn x)
inductive RpL (β : List Addr) (M : Addr → Prop) (H : Hp) : List V → List D → Prop
  | nil : RpL β M H [] []
  | cons {v : V} {vs : List V} {d : D} {ds : List D} : Rp β M H v d → RpL β M H vs ds → RpL β M H (v :: vs) (d :: ds)
inductive RpK (β : List Addr) (M : Addr → Prop) (H : Hp) : List (Key × V) → List (Key × D) → Prop
  | nil : RpK β M H [] []
  | cons {k : Key} {v : V} {vs : List (Key × V)} {d : D} {ds : List (Key × D)} : Rp β M H v d → RpK β M H vs ds → RpK β M H ((k, v) :: vs) ((k, d) :: ds)
inductive RpT (β : List Addr) (M : Addr → Prop) (H : Hp) : List (List Key × V) → List (List Key × D) → Prop
  | nil : RpT β M H [] []
  | cons {k : List Key} {v : V} {vs : List (List Key × V)} {d : D} {ds : List (List Key × D)} : Rp β M H v d → RpT β M H vs ds → RpT β M H ((k, v) :: vs) ((k, d) :: ds)
end
end

/-- no lock -/
def Plain : HO → Prop
  | .lst _ => True | .tup _ => True | .dK _ => True | .dT _ => True | _ => False
/-- what is read off H outside of M is read off H' -/
structure Tr (M M' : Addr → Prop) (H H' : Hp) : Prop where
  rd : ∀ a u, Rd H a u → Plain u → ¬ M a → Rd H' a u
  tup : ∀ a xs, H a = some (.tup xs) → H' a = some (.tup xs)
  out : ∀ a, H a ≠ none → ¬ M a → ¬ M' a
theorem rd_ne {H : Hp} {a : Addr} {u : HO} (h : Rd H a u) : H a ≠ none := by
  rcases h with h | ⟨o, h⟩ <;> rw [h] <;> simp

section
variable {K : PySem.W.Frag} {mg : Str → Option Value} {β β' : List Addr} {M M' : Addr → Prop} {H H' : Hp}
theorem pre_get {β β' : List Addr} (h : β <+: β') {n : Nat} {a : Addr} (e : β[n]? = some a) : β'[n]? = some a := by
  obtain ⟨t, rfl⟩ := h
  have hn : n < β.length := by
    rcases Nat.lt_or_ge n β.length with h | h
    · exact h
    · rw [List.getElem?_eq_none h] at e; cases e
  rw [List.getElem?_append_left hn]; exact e
mutual
theorem Rp.tr (t : Tr M M' H H') (hb : β <+: β') : ∀ {v : V} {d : D}, Rp K mg β M H v d → Rp K mg β' M' H' v d
  | _, _, .non => .non
  | _, _, .bl b => .bl b
  | _, _, .int i => .int i
  | _, _, .str x => .str x
  | _, _, .tup h r => .tup (t.tup _ _ h) (RpL.tr t hb r)
  | _, _, .lst h n r => .lst (t.rd _ _ h trivial n) (t.out _ (rd_ne h) n) (RpL.tr t hb r)
  | _, _, .lstK h r => .lstK h (RpL.tr t hb r)
  | _, _, .dK h n r => .dK (t.rd _ _ h trivial n) (t.out _ (rd_ne h) n) (RpK.tr t hb r)
  | _, _, .dT h n r => .dT (t.rd _ _ h trivial n) (t.out _ (rd_ne h) n) (RpT.tr t hb r)
  | _, _, .obj e => .obj (pre_get hb e)
  | _, _, .fn e k => .fn e k
theorem RpL.tr (t : Tr M M' H H') (hb : β <+: β') : ∀ {vs : List V} {ds : List D}, RpL K mg β M H vs ds → RpL K mg β' M' H' vs ds
  | _, _, .nil => .nil
  | _, _, .cons h r => .cons (Rp.tr t hb h) (RpL.tr t hb r)
theorem RpK.tr (t : Tr M M' H H') (hb : β <+: β') : ∀ {vs : List (Key × V)} {ds : List (Key × D)}, RpK K mg β M H vs ds → RpK K mg β' M' H' vs ds
  | _, _, .nil => .nil
  | _, _, .cons h r => .cons (Rp.tr t hb h) (RpK.tr t hb r)
theorem RpT.tr (t : Tr M M' H H') (hb : β <+: β') : ∀ {vs : List (List Key × V)} {ds : List (List Key × D)}, RpT K mg β M H vs ds → RpT K mg β' M' H' vs ds
  | _, _, .nil => .nil
  | _, _, .cons h r => .cons (Rp.tr t hb h) (RpT.tr t hb r)
end
end

/-! ### the state -/
/-- the content of a list or dict -/
def Ct (K : PySem.W.Frag) (mg : Str → Option Value) (β : List Addr) (M : Addr → Prop) (H : Hp) (rd : HO → Prop) (d : D) : Prop :=
  (∃ vs ds, d = .lst ds ∧ rd (.lst vs) ∧ RpL K mg β M H vs ds) ∨ (∃ kvs es, d = .dk es ∧ rd (.dK kvs) ∧ RpK K mg β M H kvs es) ∨ (∃ kvs es, d = .dt es ∧ rd (.dT kvs) ∧ RpT K mg β M H kvs es)
/-- owned: tracked as it is -/
def Owc (K : PySem.W.Frag) (mg : Str → Option Value) (β : List Addr) (M : Addr → Prop) (H : Hp) (a : Addr) (d : D) : Prop := Ct K mg β M H (fun u => H a = some u) d
/-- looked at -/
def Roc (K : PySem.W.Frag) (mg : Str → Option Value) (β : List Addr) (M : Addr → Prop) (H : Hp) (a : Addr) (d : D) : Prop := Ct K mg β M H (fun u => Rd H a u) d

def own (σ : St) (ρ : Lo) (a : Addr) : Prop := ∃ (i : Nat) (d : D), ρ[i]? = some (some (SV.ow d)) ∧ σ[i]? = some (some (V.ref a))
def Ml (β : List Addr) (σ : St) (ρ : Lo) (a : Addr) : Prop := a ∈ β ∨ own σ ρ a
/-- what shared data avoids: B the callers', T temporaries, the store, the owned -/
def Ma (B T : Addr → Prop) (β : List Addr) (σ : St) (ρ : Lo) (a : Addr) : Prop := B a ∨ T a ∨ Ml β σ ρ a

def RO (K : PySem.W.Frag) (mg : Str → Option Value) (β : List Addr) (M : Addr → Prop) (H : Hp) (a : Addr) : Ob → Prop
  | .lst ds => ∃ vs, H a = some (.lst vs) ∧ RpL K mg β M H vs ds

section
variable (K : PySem.W.Frag) (mg : Str → Option Value)
structure SR (B T : Addr → Prop) (β : List Addr) (σ : St) (H : Hp) (ρ : Lo) (st : Sto) : Prop where
  len : σ.length = ρ.length
  sh : ∀ (i : Nat) (d : D), ρ[i]? = some (some (SV.sh d)) → ∃ v, σ[i]? = some (some v) ∧ Rp K mg β (Ma B T β σ ρ) H v d
  ow : ∀ (i : Nat) (d : D), ρ[i]? = some (some (SV.ow d)) → ∃ a, σ[i]? = some (some (V.ref a)) ∧ Owc K mg β (Ma B T β σ ρ) H a d
  ro : ∀ (i : Nat) (d : D), ρ[i]? = some (some (SV.ro d)) → ∃ a, σ[i]? = some (some (V.ref a)) ∧ a ∉ β ∧ ¬ own σ ρ a ∧ ¬ T a ∧ Roc K mg β (Ma B T β σ ρ) H a d
  sep : ∀ (i j : Nat) (d d' : D) (a : Addr), ρ[i]? = some (some (SV.ow d)) → σ[i]? = some (some (V.ref a)) → ρ[j]? = some (some (SV.ow d')) → σ[j]? = some (some (V.ref a)) → i = j
  ownβ : ∀ a, own σ ρ a → a ∉ β
  ownT : ∀ a, own σ ρ a → ¬ T a
  ownB : ∀ a, own σ ρ a → ¬ B a
  βT : ∀ a, a ∈ β → ¬ T a
  βB : ∀ a, a ∈ β → ¬ B a
  stl : β.length = st.length
  sto : ∀ (n : Nat) ob a, st[n]? = some ob → β[n]? = some a → RO K mg β (Ma B T β σ ρ) H a ob
  nd : β.Nodup
  dom : ∀ a, Ma B T β σ ρ a → H a ≠ none ∧ ∀ xs, ¬ Rd H a (.tup xs)
/-- values that stand for what expressions gave; the owned ones' addresses -/
inductive RL (β : List Addr) (M T : Addr → Prop) (H : Hp) : List V → List SV → List Addr → Prop
  | nil : RL β M T H [] [] []
  | sh {v : V} {d : D} {vs : List V} {svs : List SV} {as : List Addr} : Rp K mg β M H v d → RL β M T H vs svs as → RL β M T H (v :: vs) (.sh d :: svs) as
  | ro {a : Addr} {d : D} {vs : List V} {svs : List SV} {as : List Addr} : a ∉ β → ¬ T a → Roc K mg β M H a d → RL β M T H vs svs as → RL β M T H (.ref a :: vs) (.ro d :: svs) as
  | ow {a : Addr} {d : D} {vs : List V} {svs : List SV} {as : List Addr} : Owc K mg β M H a d → RL β M T H vs svs as → RL β M T H (.ref a :: vs) (.ow d :: svs) (a :: as)
/-- T and the new temporaries -/
abbrev Tp (T : Addr → Prop) (as : List Addr) : Addr → Prop := fun a => T a ∨ a ∈ as
/-- behind expressions -/
structure Po (B T : Addr → Prop) (β : List Addr) (σ : St) (H : Hp) (ρ : Lo) (st : Sto) (vs : List V) (svs : List SV) (as : List Addr) : Prop where
  sr : SR K mg B (Tp T as) β σ H ρ st
  nd : as.Nodup
  out : ∀ a ∈ as, ¬ Ma B T β σ ρ a
  rl : RL K mg β (Ma B (Tp T as) β σ ρ) (Tp T as) H vs svs as
end
/-- all but Q is as it was; the store has taken in only what was not there -/
structure Le (Q : Addr → Prop) (β : List Addr) (H : Hp) (β' : List Addr) (H' : Hp) : Prop where
  ex : ∀ a u, H a = some u → ¬ Q a → H' a = some u
  pre : β <+: β'
  out : ∀ a, H a ≠ none → ¬ Q a → a ∉ β' 
theorem Le.refl {Q : Addr → Prop} {β : List Addr} {H : Hp} (h : ∀ a, a ∈ β → Q a) : Le Q β H β H := ⟨fun _ _ e _ => e, List.prefix_refl _, fun a _ n z => n (h a z)⟩
theorem Le.trans {Q Q' : Addr → Prop} {β β1 β2 : List Addr} {H H1 H2 : Hp} (h : Le Q β H β1 H1) (k : Le Q' β1 H1 β2 H2) (hq : ∀ a, H a ≠ none → ¬ Q a → ¬ Q' a) : Le Q β H β2 H2 := by
  refine ⟨fun a u e n => ?_, h.pre.trans k.pre, fun a e n => ?_⟩
  · exact k.ex a u (h.ex a u e n) (hq a (by rw [e]; simp) n)
  · cases q : H a with
    | none => exact absurd q e
    | some u => exact k.out a (by rw [h.ex a u q n]; simp) (hq a e n)
/-- the general carrying-over: Q lies within M -/
theorem Le.tr {Q M M' : Addr → Prop} {β β' : List Addr} {H H' : Hp} (h : Le Q β H β' H') (hq : ∀ a, Q a → M a) (ht : ∀ a, M a → ∀ xs, ¬ Rd H a (.tup xs)) (ho : ∀ a, H a ≠ none → ¬ M a → a ∉ β' → ¬ M' a) : Tr M M' H H' where
  rd := fun a u e _ n => by
    rcases e with e | ⟨o, e⟩
    · exact .inl (h.ex a u e fun z => n (hq a z))
    · exact .inr ⟨o, h.ex a _ e fun z => n (hq a z)⟩
  tup := fun a xs e => h.ex a _ e fun z => ht a (hq a z) xs (.inl e)
  out := fun a e n => ho a e n (h.out a e fun z => n (hq a z))
theorem Tr.sub {M M' : Addr → Prop} {H : Hp} (h : ∀ a, M' a → M a) : Tr M M' H H := ⟨fun _ _ e _ _ => e, fun _ _ e => e, fun a _ n z => n (h a z)⟩

section
variable {K : PySem.W.Frag} {mg : Str → Option Value} {β β' : List Addr} {M M' B T : Addr → Prop} {H H' : Hp} {σ : St} {ρ : Lo} {st : Sto} {a : Addr} {d : D}
theorem Ct.tr {rd rd' : HO → Prop} (t : Tr M M' H H') (hb : β <+: β') (h : Ct K mg β M H rd d) (hr : ∀ u, Plain u → rd u → rd' u) : Ct K mg β' M' H' rd' d := by
  rcases h with ⟨vs, ds, e, r, p⟩ | ⟨kvs, es, e, r, p⟩ | ⟨kvs, es, e, r, p⟩
  · exact .inl ⟨vs, ds, e, hr _ trivial r, p.tr t hb⟩
  · exact .inr (.inl ⟨kvs, es, e, hr _ trivial r, p.tr t hb⟩)
  · exact .inr (.inr ⟨kvs, es, e, hr _ trivial r, p.tr t hb⟩)
theorem RO.tr {ob : Ob} (t : Tr M M' H H') (hb : β <+: β') (h : RO K mg β M H a ob) (hr : ∀ u, H a = some u → H' a = some u) : RO K mg β' M' H' a ob := by
  cases ob with
  | lst ds => obtain ⟨vs, e, p⟩ := h; exact ⟨vs, hr _ e, p.tr t hb⟩
theorem Owc.roc (h : Owc K mg β M H a d) : Roc K mg β M H a d := by
  rcases h with ⟨vs, ds, e, r, p⟩ | ⟨kvs, es, e, r, p⟩ | ⟨kvs, es, e, r, p⟩
  · exact .inl ⟨vs, ds, e, .inl r, p⟩
  · exact .inr (.inl ⟨kvs, es, e, .inl r, p⟩)
  · exact .inr (.inr ⟨kvs, es, e, .inl r, p⟩)
theorem Owc.rp (h : Owc K mg β M H a d) (n : ¬ M a) : Rp K mg β M H (.ref a) d := by
  rcases h with ⟨vs, ds, rfl, r, p⟩ | ⟨kvs, es, rfl, r, p⟩ | ⟨kvs, es, rfl, r, p⟩
  · exact .lst (.inl r) n p
  · exact .dK (.inl r) n p
  · exact .dT (.inl r) n p
theorem Ct.ne {d : D} (h : Roc K mg β M H a d) : H a ≠ none := by
  rcases h with ⟨vs, ds, rfl, r, p⟩ | ⟨kvs, es, rfl, r, p⟩ | ⟨kvs, es, rfl, r, p⟩ <;> exact rd_ne r
theorem rd_inj {u u' : HO} (h : Rd H a u) (h' : Rd H a u') (p : Plain u) (p' : Plain u') : u = u' := by
  rcases h with h | ⟨o, h⟩ <;> rcases h' with h' | ⟨o', h'⟩
  · exact Option.some.inj (h.symm.trans h')
  · rw [h] at h'; cases h'; exact p.elim
  · rw [h] at h'; cases h'; exact p'.elim
  · rw [h] at h'; injection h' with h'; injection h'
theorem Ct.notup {d : D} (h : Roc K mg β M H a d) (xs : List V) : ¬ Rd H a (.tup xs) := fun z => by
  rcases h with ⟨vs, ds, rfl, r, p⟩ | ⟨kvs, es, rfl, r, p⟩ | ⟨kvs, es, rfl, r, p⟩ <;> exact absurd (rd_inj r z trivial trivial) (by simp)
/-- what stands behind a change, by what is carried over -/
theorem SR.move {T' : Addr → Prop} {st' : Sto} (h : SR K mg B T β σ H ρ st) (t : Tr (Ma B T β σ ρ) (Ma B T' β' σ ρ) H H') (hb : β <+: β')
    (eo : ∀ a u, own σ ρ a → H a = some u → H' a = some u) (er : ∀ a, H a ≠ none → a ∉ β → ¬ T a → (∀ u, Rd H a u → Rd H' a u) ∧ a ∉ β' ∧ ¬ T' a)
    (stl : β'.length = st'.length) (nd : β'.Nodup) (sto : ∀ (n : Nat) ob a, st'[n]? = some ob → β'[n]? = some a → RO K mg β' (Ma B T' β' σ ρ) H' a ob)
    (dom : ∀ a, B a ∨ T' a ∨ a ∈ β' → H' a ≠ none ∧ ∀ xs, ¬ Rd H' a (.tup xs)) (βT : ∀ a, a ∈ β' → ¬ T' a) (βB : ∀ a, a ∈ β' → ¬ B a) : SR K mg B T' β' σ H' ρ st' := by
  have hro : ∀ a, own σ ρ a → (∀ u, Rd H a u → Rd H' a u) ∧ a ∉ β' ∧ ¬ T' a := fun a o => er a (h.dom a (.inr (.inr (.inr o)))).1 (h.ownβ a o) (h.ownT a o)
  refine ⟨h.len, fun i d e => ?_, fun i d e => ?_, fun i d e => ?_, h.sep, fun a o => (hro a o).2.1, fun a o => (hro a o).2.2, h.ownB, βT, βB, stl, sto, nd, fun a m => ?_⟩
  · obtain ⟨v, e1, r⟩ := h.sh i d e
    exact ⟨v, e1, r.tr t hb⟩
  · obtain ⟨a, e1, r⟩ := h.ow i d e
    exact ⟨a, e1, Ct.tr t hb r fun u _ q => eo a u ⟨i, d, e, e1⟩ q⟩
  · obtain ⟨a, e1, n1, n2, n3, r⟩ := h.ro i d e
    obtain ⟨r1, r2, r3⟩ := er a (Ct.ne r) n1 n3
    exact ⟨a, e1, r2, n2, r3, Ct.tr t hb r fun u _ q => r1 u q⟩
  · rcases m with m | m | m | m
    · exact dom a (.inl m)
    · exact dom a (.inr (.inl m))
    · exact dom a (.inr (.inr m))
    · obtain ⟨d1, d2⟩ := h.dom a (.inr (.inr (.inr m)))
      cases q : H a with
      | none => exact absurd q d1
      | some u =>
        have q' := eo a u m q
        refine ⟨by rw [q']; simp, fun xs z => d2 xs ?_⟩
        rcases z with z | ⟨o, z⟩
        · rw [q'] at z; cases z; exact .inl q
        · rw [q'] at z; cases z; exact .inr ⟨o, q⟩
theorem ex_notup {Q : Prop} (d : H a ≠ none ∧ ∀ xs, ¬ Rd H a (.tup xs)) (ex : ∀ u, H a = some u → H' a = some u) : H' a ≠ none ∧ ∀ xs, ¬ Rd H' a (.tup xs) := by
  obtain ⟨d1, d2⟩ := d
  cases q : H a with
  | none => exact absurd q d1
  | some u =>
    have q' := ex u q
    refine ⟨by rw [q']; simp, fun xs z => d2 xs ?_⟩
    rcases z with z | ⟨o, z⟩
    · rw [q'] at z; cases z; exact .inl q
    · rw [q'] at z; cases z; exact .inr ⟨o, q⟩
/-- the heap has grown; T may have lost some, and taken in new ones -/
theorem SR.grow {T' : Addr → Prop} (h : SR K mg B T β σ H ρ st) (ex : ∀ a u, H a = some u → H' a = some u)
    (hT : ∀ a, T' a → T a ∨ (H a = none ∧ H' a ≠ none ∧ ∀ xs, ¬ Rd H' a (.tup xs))) : SR K mg B T' β σ H' ρ st := by
  have rdx : ∀ a u, Rd H a u → Rd H' a u := fun a u e => by
    rcases e with e | ⟨o, e⟩
    · exact .inl (ex a u e)
    · exact .inr ⟨o, ex a _ e⟩
  have t : Tr (Ma B T β σ ρ) (Ma B T' β σ ρ) H H' := ⟨fun a u e _ _ => rdx a u e, fun a xs e => ex a _ e, fun a e n z => by
    rcases z with z | z | z
    · exact n (.inl z)
    · rcases hT a z with z | z
      · exact n (.inr (.inl z))
      · exact e z.1
    · exact n (.inr (.inr z))⟩
  have bT : ∀ a, a ∈ β → ¬ T' a := fun a m z => by
    rcases hT a z with z | z
    · exact h.βT a m z
    · exact (h.dom a (.inr (.inr (.inl m)))).1 z.1
  refine h.move t (List.prefix_refl _) (fun a u _ e => ex a u e) (fun a e n1 n3 => ⟨rdx a, n1, fun z => ?_⟩) h.stl h.nd (fun n ob a e1 e2 => (h.sto n ob a e1 e2).tr t (List.prefix_refl _) fun u q => ex a u q) (fun a m => ?_) bT h.βB
  · rcases hT a z with z | z
    · exact n3 z
    · exact e z.1
  · rcases m with m | m | m
    · exact ex_notup (Q := True) (h.dom a (.inl m)) (ex a)
    · rcases hT a m with m | m
      · exact ex_notup (Q := True) (h.dom a (.inr (.inl m))) (ex a)
      · exact m.2
    · exact ex_notup (Q := True) (h.dom a (.inr (.inr (.inl m)))) (ex a)
/-- behind a call: Q (the store, and temporaries that were handed over) may have changed; the store's part is told by s' -/
theorem SR.after {T' B2 T2 Q : Addr → Prop} {st' : Sto} (h : SR K mg B T β σ H ρ st) (le : Le Q β H β' H') (hQ : ∀ a, Q a → a ∈ β ∨ (T a ∧ ¬ B a)) (hT : ∀ a, T' a → T a ∨ H a = none)
    (domT : ∀ a, T' a → H' a ≠ none ∧ ∀ xs, ¬ Rd H' a (.tup xs)) (βT : ∀ a, a ∈ β' → ¬ T' a)
    (s' : SR K mg B2 T2 β' [] H' [] st') (hs : ∀ a, Ma B T' β' σ ρ a → B2 a ∨ T2 a ∨ a ∈ β') : SR K mg B T' β' σ H' ρ st' := by
  have nQ : ∀ a, a ∉ β → ¬ T a → ¬ Q a := fun a n1 n2 z => by
    rcases hQ a z with z | z
    · exact n1 z
    · exact n2 z.1
  have nQo : ∀ a, own σ ρ a → ¬ Q a := fun a o => nQ a (h.ownβ a o) (h.ownT a o)
  have nQB : ∀ a, B a → ¬ Q a := fun a b z => by
    rcases hQ a z with z | z
    · exact h.βB a z b
    · exact z.2 b
  have t : Tr (Ma B T β σ ρ) (Ma B T' β' σ ρ) H H' := le.tr (fun a z => by
      rcases hQ a z with z | z
      · exact .inr (.inr (.inl z))
      · exact .inr (.inl z.1)) (fun a m => (h.dom a m).2) fun a e n n' z => by
    rcases z with z | z | z | z
    · exact n (.inl z)
    · rcases hT a z with z | z
      · exact n (.inr (.inl z))
      · exact e z
    · exact n' z
    · exact n (.inr (.inr (.inr z)))
  have sub : Tr (Ma B2 T2 β' [] []) (Ma B T' β' σ ρ) H' H' := Tr.sub fun a m => by
    rcases hs a m with z | z | z
    · exact .inl z
    · exact .inr (.inl z)
    · exact .inr (.inr (.inl z))
  refine h.move t le.pre (fun a u o e => le.ex a u e (nQo a o)) (fun a e n1 n3 => ⟨fun u q => ?_, le.out a e (nQ a n1 n3), fun z => ?_⟩) s'.stl s'.nd (fun n ob a e1 e2 => (s'.sto n ob a e1 e2).tr sub (List.prefix_refl _) fun u q => q) (fun a m => ?_) βT (fun a m z => ?_)
  · rcases q with q | ⟨o, q⟩
    · exact .inl (le.ex a u q (nQ a n1 n3))
    · exact .inr ⟨o, le.ex a _ q (nQ a n1 n3)⟩
  · rcases hT a z with z | z
    · exact n3 z
    · exact e z
  · rcases m with m | m | m
    · exact ex_notup (Q := True) (h.dom a (.inl m)) fun u e => le.ex a u e (nQB a m)
    · exact domT a m
    · exact s'.dom a (.inr (.inr (.inl m)))
  · exact le.out a (h.dom a (.inl z)).1 (nQB a z) m
/-- fewer to avoid -/
theorem SR.weak {B' T' : Addr → Prop} (h : SR K mg B T β σ H ρ st) (hm : ∀ a, B' a → B a ∨ T a) (ht : ∀ a, T' a → T a) : SR K mg B' T' β σ H ρ st := by
  have sub : ∀ a, Ma B' T' β σ ρ a → Ma B T β σ ρ a := fun a m => by
    rcases m with m | m | m
    · rcases hm a m with z | z
      · exact .inl z
      · exact .inr (.inl z)
    · exact .inr (.inl (ht a m))
    · exact .inr (.inr m)
  have t := Tr.sub (H := H) sub
  refine ⟨h.len, fun i d e => ?_, fun i d e => ?_, fun i d e => ?_, h.sep, h.ownβ, fun a o z => h.ownT a o (ht a z), fun a o z => (hm a z).elim (h.ownB a o) (h.ownT a o), fun a o z => h.βT a o (ht a z), fun a o z => (hm a z).elim (h.βB a o) (h.βT a o), h.stl, fun n ob a e1 e2 => ?_, h.nd, fun a m => h.dom a (sub a m)⟩
  · obtain ⟨v, e1, r⟩ := h.sh i d e
    exact ⟨v, e1, r.tr t (List.prefix_refl _)⟩
  · obtain ⟨a, e1, r⟩ := h.ow i d e
    exact ⟨a, e1, Ct.tr t (List.prefix_refl _) r fun u _ q => q⟩
  · obtain ⟨a, e1, n1, n2, n3, r⟩ := h.ro i d e
    exact ⟨a, e1, n1, n2, fun z => n3 (ht a z), Ct.tr t (List.prefix_refl _) r fun u _ q => q⟩
  · exact (h.sto n ob a e1 e2).tr t (List.prefix_refl _) fun u q => q
end
end PL

/-! PLExpr: expressions as pure functions. -/
namespace PL
open PySem PySem.Spec L2

/-- a pure expression, a list of such; an operation on values -/
abbrev P := Lo → Sto → Option (SV × Sto)
abbrev Ar := Lo → Sto → Option (List SV × Sto)
abbrev Op := List SV → Sto → Option (SV × Sto)
def aNil : Ar := fun _ st => some ([], st)
def aCons (f : P) (g : Ar) : Ar := fun ρ st => match f ρ st with
  | none => none
  | some (x, st1) => match g ρ st1 with
    | none => none
    | some (xs, st2) => some (x :: xs, st2)
def pOp (op : Op) (g : Ar) : P := fun ρ st => match g ρ st with
  | none => none
  | some (xs, st1) => op xs st1

section
variable {K : PySem.W.Frag} {mg : Str → Option Value} {β β' β1 β2 : List Addr} {M M' B T T' : Addr → Prop} {H H' H1 H2 : Hp} {σ : St} {ρ : Lo} {st st' st1 st2 : Sto} {a : Addr} {d : D} {as as1 as2 : List Addr} {vs ws : List V} {svs tvs : List SV}
theorem RL.tr (t : Tr M M' H H') (hb : β <+: β') (hr : ∀ a, H a ≠ none → a ∉ β → ¬ T a → (∀ u, Rd H a u → Rd H' a u) ∧ a ∉ β' ∧ ¬ T' a) : ∀ {vs svs as}, RL K mg β M T H vs svs as → (∀ a ∈ as, ∀ u, H a = some u → H' a = some u) → RL K mg β' M' T' H' vs svs as
  | _, _, _, .nil, _ => .nil
  | _, _, _, .sh r q, ho => .sh (r.tr t hb) (RL.tr t hb hr q ho)
  | _, _, _, .ro n1 n2 r q, ho => by
    obtain ⟨r1, r2, r3⟩ := hr _ (Ct.ne r) n1 n2
    exact .ro r2 r3 (Ct.tr t hb r fun u _ z => r1 u z) (RL.tr t hb hr q ho)
  | _, _, _, .ow r q, ho => .ow (Ct.tr t hb r fun u _ z => ho _ List.mem_cons_self u z) (RL.tr t hb hr q fun a m => ho a (List.mem_cons_of_mem _ m))
theorem RL.app : ∀ {vs svs as ws tvs bs}, RL K mg β M T H vs svs as → RL K mg β M T H ws tvs bs → RL K mg β M T H (vs ++ ws) (svs ++ tvs) (as ++ bs)
  | _, _, _, _, _, _, .nil, h => h
  | _, _, _, _, _, _, .sh r q, h => .sh r (RL.app q h)
  | _, _, _, _, _, _, .ro n1 n2 r q, h => .ro n1 n2 r (RL.app q h)
  | _, _, _, _, _, _, .ow r q, h => .ow r (RL.app q h)
theorem Owc.ne (h : Owc K mg β M H a d) : H a ≠ none := Ct.ne h.roc
theorem RL.own_ne : ∀ {vs svs as}, RL K mg β M T H vs svs as → ∀ a ∈ as, H a ≠ none ∧ ∀ xs, ¬ Rd H a (.tup xs)
  | _, _, _, .nil, a, m => absurd m (by simp)
  | _, _, _, .sh _ q, a, m => RL.own_ne q a m
  | _, _, _, .ro _ _ _ q, a, m => RL.own_ne q a m
  | _, _, _, .ow r q, a, m => by
    rcases List.mem_cons.mp m with e | m
    · subst e; exact ⟨Owc.ne r, Ct.notup (Owc.roc r)⟩
    · exact RL.own_ne q a m
theorem pos_mem {β : List Addr} (h : ∀ a, a ∈ β → H a ≠ none) (le : Le (fun a => a ∈ β) β H β1 H1) (h1 : ∀ a, a ∈ β1 → H1 a ≠ none) {a : Addr} (e : H1 a = none) : H a = none := by
  cases q : H a with
  | none => rfl
  | some u =>
    by_cases m : a ∈ β
    · obtain ⟨t, rfl⟩ := le.pre
      exact absurd e (h1 a (List.mem_append_left _ m))
    · rw [le.ex a u q m] at e; cases e
theorem SR.βne (h : SR K mg B T β σ H ρ st) : ∀ a, a ∈ β → H a ≠ none := fun a m => (h.dom a (.inr (.inr (.inl m)))).1
/-- two behind one another -/
theorem Po.app (p : Po K mg B T β1 σ H1 ρ st1 vs svs as1) (q : Po K mg B (Tp T as1) β2 σ H2 ρ st2 ws tvs as2) (le : Le (fun a => a ∈ β1) β1 H1 β2 H2) (fr : ∀ a ∈ as2, H1 a = none) :
    Po K mg B T β2 σ H2 ρ st2 (vs ++ ws) (svs ++ tvs) (as1 ++ as2) := by
  have eT : ∀ a, Tp (Tp T as1) as2 a ↔ Tp T (as1 ++ as2) a := fun a => by
    show (T a ∨ a ∈ as1) ∨ a ∈ as2 ↔ T a ∨ a ∈ as1 ++ as2
    rw [List.mem_append, or_assoc]
  have al : ∀ a ∈ as1, H1 a ≠ none := fun a m => (RL.own_ne p.rl a m).1
  have nβ1 : ∀ a ∈ as1, a ∉ β1 := fun a m z => p.out a m (.inr (.inr (.inl z)))
  have eM : ∀ a, Ma B (Tp T (as1 ++ as2)) β2 σ ρ a → Ma B (Tp (Tp T as1) as2) β2 σ ρ a := fun a m => by
    rcases m with m | m | m
    · exact .inl m
    · exact .inr (.inl ((eT a).mpr m))
    · exact .inr (.inr m)
  have t : Tr (Ma B (Tp T as1) β1 σ ρ) (Ma B (Tp T (as1 ++ as2)) β2 σ ρ) H1 H2 := le.tr (fun a z => .inr (.inr (.inl z))) (fun a m => (p.sr.dom a m).2) fun a e n n' z => by
    rcases z with z | z | z | z
    · exact n (.inl z)
    · rcases (eT a).mpr z with z | z
      · exact n (.inr (.inl z))
      · exact e (fr a z)
    · exact n' z
    · exact n (.inr (.inr (.inr z)))
  refine ⟨q.sr.weak (fun a z => .inl z) fun a z => (eT a).mpr z, ?_, fun a m => ?_, RL.app (RL.tr t le.pre (fun a e n1 n2 => ⟨fun u z => ?_, le.out a e n1, fun z => ?_⟩) p.rl fun a m u e => le.ex a u e (nβ1 a m)) (RL.tr (Tr.sub eM) (List.prefix_refl _) (fun a e n1 n2 => ⟨fun u z => z, n1, fun z => n2 ((eT a).mpr z)⟩) q.rl fun a m u e => e)⟩
  · exact List.nodup_append.mpr ⟨p.nd, q.nd, fun a m b m' e => by subst e; exact al a m (fr a m')⟩
  · rcases List.mem_append.mp m with m | m
    · intro z
      rcases z with z | z | z | z
      · exact p.out a m (.inl z)
      · exact p.out a m (.inr (.inl z))
      · exact le.out a (al a m) (nβ1 a m) z
      · exact p.out a m (.inr (.inr (.inr z)))
    · intro z
      rcases z with z | z | z | z
      · exact q.out a m (.inl z)
      · exact q.out a m (.inr (.inl (.inl z)))
      · exact q.out a m (.inr (.inr (.inl z)))
      · exact q.out a m (.inr (.inr (.inr z)))
  · rcases z with z | ⟨o, z⟩
    · exact .inl (le.ex a u z n1)
    · exact .inr ⟨o, le.ex a _ z n1⟩
  · rcases (eT a).mpr z with z | z
    · exact n2 z
    · exact e (fr a z)
theorem Po.nil (h : SR K mg B T β σ H ρ st) : Po K mg B T β σ H ρ st [] [] [] := ⟨h.weak (fun a z => .inl z) fun a z => z.elim id fun m => absurd m (by simp), .nil, fun a m => absurd m (by simp), .nil⟩
theorem Po.drop (p : Po K mg B T β σ H ρ st vs svs as) : SR K mg B T β σ H ρ st := p.sr.weak (fun a z => .inl z) fun a z => .inl z
end

section
variable (K : PySem.W.Frag) (mg : Str → Option Value)
/-- the readings -/
def TP (f : P) : TE := fun σ H Q => ∃ B T β ρ st sv st', SR K mg B T β σ H ρ st ∧ f ρ st = some (sv, st') ∧ ∀ v H' β' as, Le (fun a => a ∈ β) β H β' H' → (∀ a ∈ as, H a = none) → Po K mg B T β' σ H' ρ st' [v] [sv] as → Q v H'
def TAr (f : Ar) : TA := fun σ H Q => ∃ B T β ρ st svs st', SR K mg B T β σ H ρ st ∧ f ρ st = some (svs, st') ∧ ∀ vs H' β' as, Le (fun a => a ∈ β) β H β' H' → (∀ a ∈ as, H a = none) → Po K mg B T β' σ H' ρ st' vs svs as → Q vs H'
/-- an operation's reading, by values -/
def Sim (op : Op) : List V → Hp → VK → Prop := fun vs H Q => ∃ B T β σ ρ st svs as sv st', Po K mg B T β σ H ρ st vs svs as ∧ op svs st = some (sv, st') ∧
  ∀ v H' β' as', Le (fun a => a ∈ β ∨ a ∈ as) β H β' H' → (∀ a ∈ as', H a = none ∨ a ∈ as) → Po K mg B T β' σ H' ρ st' [v] [sv] as' → Q v H'
end

section
variable {K : PySem.W.Frag} {mg : Str → Option Value}
/-- from the arguments to the operation -/
theorem sim_of {op : Op} {g : Ar} {σ : St} {H : Hp} {Q : VK} (h : TP K mg (pOp op g) σ H Q) : TAr K mg g σ H fun vs H1 => Sim K mg op vs H1 Q := by
  obtain ⟨B, T, β, ρ, st, sv, st', sr, e, q⟩ := h
  unfold pOp at e
  cases eg : g ρ st with
  | none => rw [eg] at e; cases e
  | some r =>
    obtain ⟨svs, st1⟩ := r
    rw [eg] at e
    refine ⟨B, T, β, ρ, st, svs, st1, sr, eg, fun vs H1 β1 as le fr p => ⟨B, T, β1, σ, ρ, st1, svs, as, sv, st', p, e, fun v H2 β2 as' le2 fr2 p2 => q v H2 β2 as' ?_ (fun a m => ?_) p2⟩⟩
    · exact le.trans le2 fun a e n z => z.elim (le.out a e n) fun m => e (fr a m)
    · rcases fr2 a m with z | z
      · exact pos_mem (SR.βne sr) le (SR.βne p.sr) z
      · exact fr a z
theorem ar_nil {σ : St} {H : Hp} {Q : List V → Hp → Prop} (h : TAr K mg aNil σ H Q) : tNil σ H Q := by
  obtain ⟨B, T, β, ρ, st, svs, st', sr, e, q⟩ := h
  cases e
  exact q [] H β [] (Le.refl fun a m => m) (fun a m => absurd m (by simp)) (Po.nil sr)
theorem ar_cons {f : P} {g : Ar} {σ : St} {H : Hp} {Q : List V → Hp → Prop} (h : TAr K mg (aCons f g) σ H Q) : tCons (TP K mg f) (TAr K mg g) σ H Q := by
  obtain ⟨B, T, β, ρ, st, svs, st', sr, e, q⟩ := h
  unfold aCons at e
  cases ef : f ρ st with
  | none => rw [ef] at e; cases e
  | some r =>
    obtain ⟨x, st1⟩ := r
    rw [ef] at e
    simp only at e
    cases eg : g ρ st1 with
    | none => rw [eg] at e; cases e
    | some r2 =>
      obtain ⟨xs, st2⟩ := r2
      rw [eg] at e
      cases e
      refine ⟨B, T, β, ρ, st, x, st1, sr, ef, fun v H1 β1 as1 le fr p => ⟨B, Tp T as1, β1, ρ, st1, xs, st', p.sr, eg, fun vs H2 β2 as2 le2 fr2 p2 => q (v :: vs) H2 β2 (as1 ++ as2) (le.trans le2 fun a e n => le.out a e n) (fun a m => ?_) (p.app p2 le2 fr2)⟩⟩
      rcases List.mem_append.mp m with m | m
      · exact fr a m
      · exact pos_mem (SR.βne sr) le (SR.βne p.sr) (fr2 a m)
theorem tCons_mono {f : TE} {g g' : TA} {σ : St} {H : Hp} {Q : List V → Hp → Prop} (hf : ∀ σ H Q Q', (∀ v H', Q v H' → Q' v H') → f σ H Q → f σ H Q') (hg : ∀ σ H Q, g σ H Q → g' σ H Q) (h : tCons f g σ H Q) : tCons f g' σ H Q :=
  hf _ _ _ _ (fun _ _ q => hg _ _ _ q) h
theorem TP.mono {f : P} {σ : St} {H : Hp} {Q Q' : VK} (hq : ∀ v H', Q v H' → Q' v H') (h : TP K mg f σ H Q) : TP K mg f σ H Q' := by
  obtain ⟨B, T, β, ρ, st, sv, st', sr, e, q⟩ := h
  exact ⟨B, T, β, ρ, st, sv, st', sr, e, fun v H' β' as le fr p => hq _ _ (q v H' β' as le fr p)⟩
theorem TAr.mono {f : Ar} {σ : St} {H : Hp} {Q Q' : List V → Hp → Prop} (hq : ∀ v H', Q v H' → Q' v H') (h : TAr K mg f σ H Q) : TAr K mg f σ H Q' := by
  obtain ⟨B, T, β, ρ, st, sv, st', sr, e, q⟩ := h
  exact ⟨B, T, β, ρ, st, sv, st', sr, e, fun v H' β' as le fr p => hq _ _ (q v H' β' as le fr p)⟩
end

/-! ### the rules' forms -/
section
variable {X : Cx}
abbrev PX (X : Cx) (e : Expr) (f : P) : Prop := PE X e (TP X.K X.mg f)
abbrev AX (X : Cx) (es : List Expr) (f : Ar) : Prop := PA X es (TAr X.K X.mg f)
theorem _root_.L2.PE.imp {e : Expr} {t t' : TE} (h : PE X e t) (hi : ∀ σ H Q, t' σ H Q → t σ H Q) : PE X e t' := ⟨fun pins s σ H Q I w => h.run pins s σ H Q I (hi _ _ _ w)⟩
theorem _root_.L2.PA.imp {es : List Expr} {t t' : TA} (h : PA X es t) (hi : ∀ σ H Q, t' σ H Q → t σ H Q) : PA X es t' := ⟨fun pos pins s σ H Q I w => h.run pos pins s σ H Q I (hi _ _ _ w)⟩
theorem ax_nil : AX X [] aNil := pa_nil.imp fun _ _ _ h => ar_nil h
theorem ax_cons {e : Expr} {es : List Expr} {f : P} {g : Ar} (hf : PX X e f) (hg : AX X es g) (hs : starEach (e :: es) X.env = (false, eval e X.env) :: starEach es X.env := by rfl) : AX X (e :: es) (aCons f g) :=
  (pa_cons hf hg hs).imp fun _ _ _ h => ar_cons h
abbrev a1 (f : P) : Ar := aCons f aNil
abbrev a2 (f g : P) : Ar := aCons f (aCons g aNil)
abbrev a3 (f g h : P) : Ar := aCons f (aCons g (aCons h aNil))
theorem sim1 {op : Op} {f : P} {σ : St} {H : Hp} {Q : VK} (h : TP X.K X.mg (pOp op (a1 f)) σ H Q) : TP X.K X.mg f σ H fun x H1 => Sim X.K X.mg op [x] H1 Q :=
  TP.mono (fun _ _ q => (by have z := ar_nil q; exact z)) (ar_cons (sim_of h))
theorem sim2 {op : Op} {f g : P} {σ : St} {H : Hp} {Q : VK} (h : TP X.K X.mg (pOp op (a2 f g)) σ H Q) : TP X.K X.mg f σ H fun x H1 => TP X.K X.mg g σ H1 fun y H2 => Sim X.K X.mg op [x, y] H2 Q :=
  TP.mono (fun _ _ q => TP.mono (fun _ _ q => (by have z := ar_nil q; exact z)) (ar_cons q)) (ar_cons (sim_of h))
theorem sim3 {op : Op} {f g k : P} {σ : St} {H : Hp} {Q : VK} (h : TP X.K X.mg (pOp op (a3 f g k)) σ H Q) : TP X.K X.mg f σ H fun x H1 => TP X.K X.mg g σ H1 fun y H2 => TP X.K X.mg k σ H2 fun z H3 => Sim X.K X.mg op [x, y, z] H3 Q :=
  TP.mono (fun _ _ q => TP.mono (fun _ _ q => TP.mono (fun _ _ q => (by have z := ar_nil q; exact z)) (ar_cons q)) (ar_cons q)) (ar_cons (sim_of h))
/-- an operator's, a comparison's, a subscript's rule -/
def OpS (X : Cx) (f : Value → Value → Sem Value) (op : Op) : Prop := OpR X f fun x y H Q => Sim X.K X.mg op [x, y] H Q
def UnS (X : Cx) (f : Value → Sem Value) (op : Op) : Prop := UnR X f fun x H Q => Sim X.K X.mg op [x] H Q
def IxS (X : Cx) (op : Op) : Prop := IxR X fun x y H Q => Sim X.K X.mg op [x, y] H Q
def CallS (X : Cx) (f : Value) (op : Op) : Prop := CallR X f (Sim X.K X.mg op)
def MtS (X : Cx) (id : String) (op : Op) : Prop := MtR X id fun x xs H Q => Sim X.K X.mg op (x :: xs) H Q
variable {a b c e : Expr} {es : List Expr} {f g k : P} {ga : Ar} {op op' : Op} {pos p : Pos} {x : Str}
theorem px_bin {o : Operator} (ho : OpS X (binaryOp o) op) (ha : PX X a f) (hb : PX X b g) : PX X (.BinOp a o b pos) (pOp op (a2 f g)) := (pe_op ho ha hb).imp fun _ _ _ h => sim2 h
theorem px_un {o : UnaryOp} (ho : UnS X (unaryOp o) op) (ha : PX X a f) : PX X (.UnaryOp o a pos) (pOp op (a1 f)) := (pe_un ho ha).imp fun _ _ _ h => sim1 h
theorem px_cmp {o : CmpOp} (ho : OpS X (compareOp o) op) (ha : PX X a f) (hb : PX X b g) (hm : behindInMarks o b = false) : PX X (.Compare a [o] [b] pos) (pOp op (a2 f g)) := (pe_cmpR ho ha hb hm).imp fun _ _ _ h => sim2 h
theorem px_ix (ho : IxS X op) (ha : PX X a f) (hb : PX X b g) (hs : PlainIx b) : PX X (.Subscript a b pos) (pOp op (a2 f g)) := (pe_ix ho ha hb hs).imp fun _ _ _ h => sim2 h
theorem px_callB {id : String} (hc : CallS X (.builtin id) op) (hg : Gl X x) (hm : X.mg x = none) (hv : bootBuiltins x = some (.builtin id)) (ha : AX X (e :: es) ga) (hn : x ≠ "__name__" := by decide) (hdb : (x == ("__debug__" : Str)) = false := by decide)
    (he : starEach (e :: es) X.env = (false, eval e X.env) :: starEach es X.env := by rfl) (hpl : (backTo pos (starEach es X.env)).any (·.1) = false := by rfl) : PX X (.Call (.Name x p) (e :: es) [] pos) (pOp op ga) :=
  (pe_callB hc hg hm hv ha hn hdb he hpl).imp fun _ _ _ h => sim_of h
theorem px_callTy {T : String} (hc : CallS X (.type T) op) (hg : Gl X x) (hm : X.mg x = none) (hv : bootBuiltins x = some (.type T)) (ha : AX X (e :: es) ga) (hn : x ≠ "__name__" := by decide) (hdb : (x == ("__debug__" : Str)) = false := by decide)
    (he : starEach (e :: es) X.env = (false, eval e X.env) :: starEach es X.env := by rfl) (hpl : (backTo pos (starEach es X.env)).any (·.1) = false := by rfl) : PX X (.Call (.Name x p) (e :: es) [] pos) (pOp op ga) :=
  (pe_callTy hc hg hm hv ha hn hdb he hpl).imp fun _ _ _ h => sim_of h
end
end PL

/-! PLVal: names, constants, tests, displays. -/
namespace PL
open PySem PySem.Spec L2

section
variable {K : PySem.W.Frag} {mg : Str → Option Value} {β β' : List Addr} {M M' B T T' : Addr → Prop} {H H' : Hp} {σ : St} {ρ : Lo} {st st' : Sto} {a : Addr} {v : V} {d : D} {as : List Addr} {vs ws : List V} {svs : List SV} {ds : List D}
/-! ### inversions -/
theorem RL.sh1 (h : RL K mg β M T H vs (.sh d :: svs) as) : ∃ v ws, vs = v :: ws ∧ Rp K mg β M H v d ∧ RL K mg β M T H ws svs as := by
  cases h with
  | sh r q => exact ⟨_, _, rfl, r, q⟩
theorem RL.nil1 (h : RL K mg β M T H vs [] as) : vs = [] ∧ as = [] := by cases h; exact ⟨rfl, rfl⟩
theorem Rp.int1 {i : Int} (h : Rp K mg β M H v (.int i)) : v = .int i := by cases h; rfl
theorem Rp.bl1 {i : Bool} (h : Rp K mg β M H v (.bl i)) : v = .bl i := by cases h; rfl
theorem Rp.str1 {i : Str} (h : Rp K mg β M H v (.str i)) : v = .str i := by cases h; rfl
theorem Rp.non1 (h : Rp K mg β M H v .non) : v = .non := by cases h; rfl
theorem Rp.tup1 (h : Rp K mg β M H v (.tup ds)) : ∃ a vs, v = .ref a ∧ SqT K H a vs ∧ RpL K mg β M H vs ds := by
  cases h with
  | tup r q => exact ⟨_, _, rfl, .inl (.inl r), q⟩
theorem Rp.lst1 (h : Rp K mg β M H v (.lst ds)) : ∃ a vs, v = .ref a ∧ SqL K H a vs ∧ RpL K mg β M H vs ds := by
  cases h with
  | lst r n q => exact ⟨_, _, rfl, .inl r, q⟩
  | lstK r q => exact ⟨_, _, rfl, r.sq, q⟩
theorem RpL.length : ∀ {vs ds}, RpL K mg β M H vs ds → vs.length = ds.length
  | _, _, .nil => rfl
  | _, _, .cons _ r => by simp [RpL.length r]
theorem RpL.get : ∀ {vs ds} {i : Nat} {d : D}, RpL K mg β M H vs ds → ds[i]? = some d → ∃ v, vs[i]? = some v ∧ Rp K mg β M H v d
  | _, _, _, _, .nil, e => by simp at e
  | _, _, 0, _, .cons r _, e => by simp at e; subst e; exact ⟨_, rfl, r⟩
  | _, _, i + 1, _, .cons _ q, e => by
    obtain ⟨v, h1, h2⟩ := RpL.get (i := i) q (by simpa using e)
    exact ⟨v, by simpa using h1, h2⟩
theorem RpL.app : ∀ {vs ds ws es}, RpL K mg β M H vs ds → RpL K mg β M H ws es → RpL K mg β M H (vs ++ ws) (ds ++ es)
  | _, _, _, _, .nil, h => h
  | _, _, _, _, .cons r q, h => .cons r (RpL.app q h)
theorem RpL.take : ∀ {vs ds} (n : Nat), RpL K mg β M H vs ds → RpL K mg β M H (vs.take n) (ds.take n)
  | _, _, 0, _ => .nil
  | _, _, _ + 1, .nil => .nil
  | _, _, n + 1, .cons r t => .cons r (RpL.take n t)
theorem RpL.drop : ∀ {vs ds} (n : Nat), RpL K mg β M H vs ds → RpL K mg β M H (vs.drop n) (ds.drop n)
  | _, _, 0, r => r
  | _, _, _ + 1, .nil => .nil
  | _, _, n + 1, .cons r t => RpL.drop n t
theorem RpL.rev {vs ds} (h : RpL K mg β M H vs ds) : RpL K mg β M H vs.reverse ds.reverse := by
  induction vs generalizing ds with
  | nil => cases h; exact .nil
  | cons v vs ih =>
    cases h with
    | cons r q => rw [List.reverse_cons, List.reverse_cons]; exact RpL.app (ih q) (.cons r .nil)
theorem RpL.set {v : V} {d : D} (r : Rp K mg β M H v d) : ∀ {vs ds} (i : Nat), RpL K mg β M H vs ds → RpL K mg β M H (vs.set i v) (ds.set i d)
  | _, _, _, .nil => .nil
  | _, _, 0, .cons _ q => .cons r q
  | _, _, i + 1, .cons p q => .cons p (RpL.set r i q)
theorem RpL.ints : ∀ {ns : List Int} {vs}, RpL K mg β M H vs (ns.map .int) → vs = ns.map .int
  | [], _, h => by cases h; rfl
  | n :: ns, _, h => by
    cases h with
    | cons r q => rw [Rp.int1 r, RpL.ints q]; rfl
theorem RpL.of_ints : ∀ (ns : List Int), RpL K mg β M H (ns.map .int) (ns.map .int)
  | [] => .nil
  | n :: ns => .cons (.int n) (RpL.of_ints ns)

/-! ### ends -/
def toSh : SV → Option D
  | .sh d => some d | .ow d => some d | .ro _ => none
def toShs : List SV → Option (List D)
  | [] => some []
  | x :: xs => match toSh x, toShs xs with
    | some d, some ds => some (d :: ds)
    | _, _ => none
theorem ma_sub {σ : St} {ρ : Lo} : ∀ a, Ma B T β σ ρ a → Ma B (Tp T as) β σ ρ a := fun a m => by
  rcases m with m | m | m
  · exact .inl m
  · exact .inr (.inl (.inl m))
  · exact .inr (.inr m)
theorem RL.shs {σ : St} {ρ : Lo} {T' : Addr → Prop} {bs : List Addr} (ho : ∀ a ∈ bs, ¬ Ma B T β σ ρ a) : ∀ {vs svs as}, RL K mg β (Ma B (Tp T bs) β σ ρ) T' H vs svs as → (∀ a ∈ as, a ∈ bs) → ∀ {ds}, toShs svs = some ds → RpL K mg β (Ma B T β σ ρ) H vs ds
  | _, _, _, .nil, _, _, e => by cases e; exact .nil
  | _, _, _, .sh (d := d) (svs := svs) r q, hb, ds, e => by
    simp only [toShs, toSh] at e
    cases e2 : toShs svs with
    | none => rw [e2] at e; cases e
    | some es =>
      rw [e2] at e; cases e
      exact .cons (r.tr (Tr.sub ma_sub) (List.prefix_refl _)) (RL.shs ho q hb e2)
  | _, _, _, .ro _ _ _ _, _, _, e => by simp [toShs, toSh] at e
  | _, _, _, .ow (a := a) (svs := svs) r q, hb, ds, e => by
    simp only [toShs, toSh] at e
    cases e2 : toShs svs with
    | none => rw [e2] at e; cases e
    | some es =>
      rw [e2] at e; cases e
      exact .cons (Owc.rp (Ct.tr (Tr.sub ma_sub) (List.prefix_refl _) r fun u _ z => z) (ho a (hb a List.mem_cons_self))) (RL.shs ho q (fun b m => hb b (List.mem_cons_of_mem _ m)) e2)
theorem Po.shs (p : Po K mg B T β σ H ρ st vs svs as) (e : toShs svs = some ds) : RpL K mg β (Ma B T β σ ρ) H vs ds := RL.shs p.out p.rl (fun a m => m) e
theorem Po.one (h : SR K mg B T β σ H ρ st) (r : Rp K mg β (Ma B T β σ ρ) H v d) : Po K mg B T β σ H ρ st [v] [.sh d] [] :=
  ⟨h.weak (fun a z => .inl z) fun a z => z.elim id fun m => absurd m (by simp), .nil, fun a m => absurd m (by simp), .sh (r.tr (Tr.sub fun a m => by
    rcases m with m | (m | m) | m
    · exact .inl m
    · exact .inr (.inl m)
    · exact absurd m (by simp)
    · exact .inr (.inr m)) (List.prefix_refl _)) .nil⟩
/-- an operation's end without any change -/
theorem Po.ret {Q : VK} (p : Po K mg B T β σ H ρ st vs svs as) (q : ∀ v H' β' as', Le (fun a => a ∈ β ∨ a ∈ as) β H β' H' → (∀ a ∈ as', H a = none ∨ a ∈ as) → Po K mg B T β' σ H' ρ st [v] [.sh d] as' → Q v H')
    (r : Rp K mg β (Ma B T β σ ρ) H v d) : Q v H := q v H β [] (Le.refl fun a m => .inl m) (fun a m => absurd m (by simp)) (Po.one p.drop r)
theorem up_ex {H : Hp} {p : Addr} {o : HO} (hp : H p = none) : ∀ a u, H a = some u → upd H p o a = some u := fun a u e => by rw [upd_ne (ne_of_none e hp)]; exact e
theorem up_le {H : Hp} {p : Addr} {o : HO} {Q : Addr → Prop} (hp : H p = none) (hq : ∀ a, a ∈ β → Q a) : Le Q β H β (upd H p o) := ⟨fun a u e _ => up_ex hp a u e, List.prefix_refl _, fun a _ n z => n (hq a z)⟩
theorem up_tr {H : Hp} {p : Addr} {o : HO} (hp : H p = none) (hm : ∀ a, M' a → M a ∨ a = p) : Tr M M' H (upd H p o) := ⟨fun a u e _ _ => by
    rcases e with e | ⟨o', e⟩
    · exact .inl (up_ex hp a u e)
    · exact .inr ⟨o', up_ex hp a _ e⟩, fun a xs e => up_ex hp a _ e, fun a e n z => by
    rcases hm a z with z | z
    · exact n z
    · subst z; exact e hp⟩
/-- a new tuple -/
theorem Po.newT {Q : VK} (p : Po K mg B T β σ H ρ st vs svs as) (q : ∀ v H' β' as', Le (fun a => a ∈ β ∨ a ∈ as) β H β' H' → (∀ a ∈ as', H a = none ∨ a ∈ as) → Po K mg B T β' σ H' ρ st [v] [.sh (.tup ds)] as' → Q v H')
    {l : Addr} (hl : H l = none) (r : RpL K mg β (Ma B T β σ ρ) H ws ds) : Q (.ref l) (upd H l (.tup ws)) := by
  have s := p.drop.grow (T' := T) (up_ex (o := .tup ws) hl) fun a z => .inl z
  exact q _ _ β [] (up_le hl fun a m => .inl m) (fun a m => absurd m (by simp)) (Po.one s (.tup upd_same (r.tr (up_tr hl fun a m => .inl m) (List.prefix_refl _))))
/-- a new owned list or dict -/
theorem Po.newO {Q : VK} {o : HO} (p : Po K mg B T β σ H ρ st vs svs as) (q : ∀ v H' β' as', Le (fun a => a ∈ β ∨ a ∈ as) β H β' H' → (∀ a ∈ as', H a = none ∨ a ∈ as) → Po K mg B T β' σ H' ρ st [v] [.ow d] as' → Q v H')
    {l : Addr} (hl : H l = none) (ho : Plain o) (hn : ∀ xs, o ≠ .tup xs) (r : Ct K mg β (Ma B T β σ ρ) H (fun u => u = o) d) : Q (.ref l) (upd H l o) := by
  have nt : upd H l o l ≠ none ∧ ∀ xs, ¬ Rd (upd H l o) l (.tup xs) := ⟨by rw [upd_same]; simp, fun xs z => by
    rcases z with z | ⟨o', z⟩
    · rw [upd_same] at z; injection z with z; exact hn _ z
    · rw [upd_same] at z; injection z with z; subst z; exact ho.elim⟩
  have s := p.drop.grow (T' := Tp T [l]) (up_ex (o := o) hl) fun a z => z.elim .inl fun m => .inr (by
    have e : a = l := by simpa using m
    subst e
    exact ⟨hl, nt⟩)
  have t : Tr (Ma B T β σ ρ) (Ma B (Tp T [l]) β σ ρ) H (upd H l o) := up_tr hl fun a m => by
    rcases m with m | (m | m) | m
    · exact .inl (.inl m)
    · exact .inl (.inr (.inl m))
    · exact .inr (by simpa using m)
    · exact .inl (.inr (.inr m))
  refine q _ _ β [l] (up_le hl fun a m => .inl m) (fun a m => .inl ?_) ⟨s, by simp, fun a m z => ?_, .ow (Ct.tr t (List.prefix_refl _) r fun u _ z => ?_) .nil⟩
  · have e : a = l := by simpa using m
    subst e; exact hl
  · have e : a = l := by simpa using m
    subst e; exact (p.drop.dom a z).1 hl
  · subst z; exact upd_same
end

/-! ### names and constants -/
def pVar (i : Nat) : P := fun ρ st => match ρ[i]? with
  | some (some (.sh d)) => some (.sh d, st)
  | some (some (.ow d)) => some (.ro d, st)
  | some (some (.ro d)) => some (.ro d, st)
  | _ => none
def pC (d : D) : P := fun _ st => some (.sh d, st)
section
variable {X : Cx} {pos p : Pos} {x : Str}
theorem Po.roOf {K : PySem.W.Frag} {mg : Str → Option Value} {B T : Addr → Prop} {β : List Addr} {σ : St} {H : Hp} {ρ : Lo} {st : Sto} {a : Addr} {d : D} (h : SR K mg B T β σ H ρ st) (n1 : a ∉ β) (n2 : ¬ T a) (r : Roc K mg β (Ma B T β σ ρ) H a d) : Po K mg B T β σ H ρ st [.ref a] [.ro d] [] :=
  have sub : ∀ a, Ma B (Tp T []) β σ ρ a → Ma B T β σ ρ a := fun a m => by
    rcases m with m | (m | m) | m
    · exact .inl m
    · exact .inr (.inl m)
    · exact absurd m (by simp)
    · exact .inr (.inr m)
  ⟨h.weak (fun a z => .inl z) fun a z => z.elim id fun m => absurd m (by simp), .nil, fun a m => absurd m (by simp), .ro n1 (fun z => z.elim n2 fun m => absurd m (by simp)) (Ct.tr (Tr.sub sub) (List.prefix_refl _) r fun u _ z => z) .nil⟩
theorem px_var (i : Nat) (hN : X.N[i]? = some x := by rfl) (hv : Vis X.env.scope x := by first | exact Or.inl rfl | exact Or.inr (Or.inl rfl) | exact Or.inr (Or.inr rfl)) (hd : (x == ("__debug__" : Str)) = false := by decide)
    (hcd : (x == ("__classdict__" : Str)) = false := by decide) : PX X (.Name x pos) (pVar i) := (pe_var hN hv hd hcd).imp fun σ H Q h => by
  obtain ⟨B, T, β, ρ, st, sv, st', sr, e, q⟩ := h
  unfold pVar at e
  split at e
  · next d eρ =>
    cases e
    obtain ⟨v, e1, r⟩ := sr.sh i d eρ
    exact ⟨v, e1, q v H β [] (Le.refl fun a m => m) (fun a m => absurd m (by simp)) (Po.one sr r)⟩
  · next d eρ =>
    cases e
    obtain ⟨a, e1, r⟩ := sr.ow i d eρ
    have o : own σ ρ a := ⟨i, d, eρ, e1⟩
    exact ⟨_, e1, q _ H β [] (Le.refl fun a m => m) (fun a m => absurd m (by simp)) (Po.roOf sr (sr.ownβ a o) (sr.ownT a o) (Owc.roc r))⟩
  · next d eρ =>
    cases e
    obtain ⟨a, e1, n1, n2, n3, r⟩ := sr.ro i d eρ
    exact ⟨_, e1, q _ H β [] (Le.refl fun a m => m) (fun a m => absurd m (by simp)) (Po.roOf sr n1 n3 r)⟩
  · cases e
theorem px_const {e : Expr} {v : V} {d : D} (h : PE X e (tC v)) (r : ∀ β M H, Rp X.K X.mg β M H v d) : PX X e (pC d) := h.imp fun σ H Q h => by
  obtain ⟨B, T, β, ρ, st, sv, st', sr, e, q⟩ := h
  cases e
  exact q v H β [] (Le.refl fun a m => m) (fun a m => absurd m (by simp)) (Po.one sr (r _ _ _))
theorem px_int {i j} : PX X (.Constant (.int i) j pos) (pC (.int i)) := px_const pe_int fun _ _ _ => .int i
theorem px_bl {b j} : PX X (.Constant (.bool b) j pos) (pC (.bl b)) := px_const pe_bl fun _ _ _ => .bl b
theorem px_non {j} : PX X (.Constant .none j pos) (pC .non) := px_const pe_non fun _ _ _ => .non
theorem px_str {x j} : PX X (.Constant (.str x) j pos) (pC (.str x)) := px_const pe_str fun _ _ _ => .str x
/-- a module's constant -/
theorem px_glob {v : V} {d : D} {u : Value} (hg : Gl X x) (hm : X.mg x = some u) (rv : RelV v u) (r : ∀ β M H, Rp X.K X.mg β M H v d) (hd : (x == ("__debug__" : Str)) = false := by decide) : PX X (.Name x pos) (pC d) := px_const (pe_glob hg hm rv hd) r
theorem px_globI {i : Int} (hg : Gl X x) (hm : ∃ t, X.mg x = some (.int i t)) (hd : (x == ("__debug__" : Str)) = false := by decide) : PX X (.Name x pos) (pC (.int i)) :=
  let ⟨t, e⟩ := hm; px_glob (v := .int i) hg e ⟨t, rfl⟩ (fun _ _ _ => .int i) hd
theorem px_globS {i : Str} (hg : Gl X x) (hm : ∃ t, X.mg x = some (.str i t)) (hd : (x == ("__debug__" : Str)) = false := by decide) : PX X (.Name x pos) (pC (.str i)) :=
  let ⟨t, e⟩ := hm; px_glob (v := .str i) hg e ⟨t, rfl⟩ (fun _ _ _ => .str i) hd
/-- a def, as a value -/
theorem px_fn {a : Addr} (hg : Gl X x) (hm : X.mg x = some (.ref a)) (hk : PySem.W.keepIn X.K (.ref a) = true) (hd : (x == ("__debug__" : Str)) = false := by decide) : PX X (.Name x pos) (pC (.fn x)) := px_glob (v := .ref a) hg hm rfl (fun _ _ _ => .fn hm hk) hd
end

/-! ### displays -/
def oTup : Op := fun svs st => match toShs svs with
  | some ds => if ds.length ≤ 16777216 then some (.sh (.tup ds), st) else none
  | none => none
def oLst : Op := fun svs st => match toShs svs with
  | some ds => if ds.length ≤ 16777216 then some (.ow (.lst ds), st) else none
  | none => none
section
variable {X : Cx} {pos : Pos} {es : List Expr} {g : Ar}
theorem px_tup {x1} (h : AX X es g) : PX X (.Tuple es x1 pos) (pOp oTup g) := (pe_tup h).imp fun σ H Q w => by
  refine TAr.mono (fun vs H1 ⟨B, T, β, σ', ρ, st, svs, as, sv, st', p, e, q⟩ => ?_) (sim_of w)
  unfold oTup at e
  cases es : toShs svs with
  | none => rw [es] at e; cases e
  | some ds =>
    rw [es] at e
    simp only at e
    split at e
    · next hl =>
      cases e
      have r := p.shs es
      refine ⟨by rw [r.length, sizeLine_eq]; exact hl, fun l hl => p.newT q hl r⟩
    · cases e
theorem px_lst (h : AX X es g) : PX X (.List es pos) (pOp oLst g) := (pe_lst h).imp fun σ H Q w => by
  refine TAr.mono (fun vs H1 ⟨B, T, β, σ', ρ, st, svs, as, sv, st', p, e, q⟩ => ?_) (sim_of w)
  unfold oLst at e
  cases es : toShs svs with
  | none => rw [es] at e; cases e
  | some ds =>
    rw [es] at e
    simp only at e
    split at e
    · next hl =>
      cases e
      have r := p.shs es
      refine ⟨by rw [r.length, sizeLine_eq]; exact hl, fun l hl => p.newO q hl trivial (fun xs z => by cases z) (.inl ⟨_, _, rfl, rfl, r⟩)⟩
    · cases e
end
end PL

/-! PLTest: tests, and, or, not, a if t else b, chains. -/
namespace PL
open PySem PySem.Spec L2

def truthD : D → Option Bool
  | .non => some false
  | .bl b => some b
  | .int i => some (i != 0)
  | .str x => if x.length ≤ 16777216 then some ((x.length : Int) != 0) else none
  | .tup xs => some (!xs.isEmpty)
  | .lst xs => some (!xs.isEmpty)
  | _ => none
def SV.d : SV → D
  | .sh d => d | .ow d => d | .ro d => d
def truth (s : SV) : Option Bool := truthD s.d
section
variable (K : PySem.W.Frag) (mg : Str → Option Value)
/-- a test's reading -/
def TTs (f : P) : TT := fun σ H Q => ∃ B T β ρ st sv st' b, SR K mg B T β σ H ρ st ∧ f ρ st = some (sv, st') ∧ truth sv = some b ∧ ∀ H' β', Le (fun a => a ∈ β) β H β' H' → SR K mg B T β' σ H' ρ st' → Q b H'
end
abbrev TX (X : Cx) (e : Expr) (f : P) : Prop := PT X e (TTs X.K X.mg f)
abbrev WX (X : Cx) (e : Expr) (f : P) : Prop := PW X e (TTs X.K X.mg f)
theorem _root_.L2.PT.imp {X : Cx} {e : Expr} {t t' : TT} (h : PT X e t) (hi : ∀ σ H Q, t' σ H Q → t σ H Q) : PT X e t' := ⟨fun pins s σ H Q I w => h.run pins s σ H Q I (hi _ _ _ w)⟩
theorem _root_.L2.PW.imp {X : Cx} {e : Expr} {t t' : TT} (h : PW X e t) (hi : ∀ σ H Q, t' σ H Q → t σ H Q) : PW X e t' := ⟨fun wh pins s σ H Q I w => h.run wh pins s σ H Q I (hi _ _ _ w)⟩

section
variable {K : PySem.W.Frag} {mg : Str → Option Value} {β β' : List Addr} {M M' B T T' : Addr → Prop} {H H' : Hp} {σ : St} {ρ : Lo} {st st' : Sto} {a : Addr} {v : V} {d : D} {as : List Addr} {vs ws : List V} {svs : List SV} {ds : List D}
theorem RpL.isEmpty (h : RpL K mg β M H vs ds) : vs.isEmpty = ds.isEmpty := by cases h <;> rfl
theorem Ct.truth {a : Addr} {b : Bool} (h : Roc K mg β M H a d) (e : truthD d = some b) : TruV K (.ref a) H b := by
  rcases h with ⟨vs, ds, rfl, r, p⟩ | ⟨kvs, es, rfl, r, p⟩ | ⟨kvs, es, rfl, r, p⟩
  · cases e
    exact .inl ⟨vs, .inl r, by rw [p.isEmpty]⟩
  · cases e
  · cases e
theorem Rp.truth {b : Bool} (h : Rp K mg β M H v d) (e : truthD d = some b) : TruV K v H b := by
  cases d with
  | non => cases h; cases e; rfl
  | bl _ => cases h; cases e; rfl
  | int _ => cases h; cases e; rfl
  | str x =>
    cases h
    simp only [truthD] at e
    split at e
    · next hl => cases e; exact ⟨by rw [sizeLine_eq]; exact hl, rfl⟩
    · cases e
  | tup _ =>
    obtain ⟨a, vs, rfl, r, p⟩ := h.tup1
    cases e
    exact .inr (.inl ⟨vs, r, by rw [p.isEmpty]⟩)
  | lst _ =>
    obtain ⟨a, vs, rfl, r, p⟩ := h.lst1
    cases e
    exact .inl ⟨vs, r, by rw [p.isEmpty]⟩
  | dk _ => cases e
  | dt _ => cases e
  | obj _ => cases e
  | fn _ => cases e
theorem RL.truth {sv : SV} {b : Bool} (h : RL K mg β M T H [v] [sv] as) (e : truth sv = some b) : TruV K v H b := by
  cases h with
  | sh r _ => exact r.truth e
  | ro _ _ r _ => exact Ct.truth r e
  | ow r _ => exact Ct.truth (Owc.roc r) e
/-- what a test needs of an expression's reading -/
theorem TTs.of {f : P} {Q : Bool → Hp → Prop} (h : TTs K mg f σ H Q) : TP K mg f σ H fun x H1 => ∃ k, TruV K x H1 k ∧ Q k H1 := by
  obtain ⟨B, T, β, ρ, st, sv, st', b, sr, e, eb, q⟩ := h
  exact ⟨B, T, β, ρ, st, sv, st', sr, e, fun v H' β' as le fr p => ⟨b, p.rl.truth eb, q H' β' le p.drop⟩⟩
theorem TTs.ofB {f : P} {Q : Bool → Hp → Prop} (hb : ∀ ρ st sv st', f ρ st = some (sv, st') → ∃ b, sv = .sh (.bl b)) (h : TTs K mg f σ H Q) : TP K mg f σ H fun x H1 => ∃ k, x = .bl k ∧ Q k H1 := by
  obtain ⟨B, T, β, ρ, st, sv, st', b, sr, e, eb, q⟩ := h
  obtain ⟨b', rfl⟩ := hb _ _ _ _ e
  cases eb
  refine ⟨B, T, β, ρ, st, _, st', sr, e, fun v H' β' as le fr p => ⟨b, ?_, q H' β' le p.drop⟩⟩
  obtain ⟨w, ws, e1, r, _⟩ := p.rl.sh1
  cases e1
  exact r.bl1
theorem TTs.mono {f : P} {Q Q' : Bool → Hp → Prop} (hq : ∀ v H', Q v H' → Q' v H') (h : TTs K mg f σ H Q) : TTs K mg f σ H Q' := by
  obtain ⟨B, T, β, ρ, st, sv, st', b, sr, e, eb, q⟩ := h
  exact ⟨B, T, β, ρ, st, sv, st', b, sr, e, eb, fun H' β' le s => hq _ _ (q H' β' le s)⟩
end

/-- the value is a bool -/
def isB (f : P) : P := fun ρ st => match f ρ st with
  | some (.sh (.bl b), st') => some (.sh (.bl b), st')
  | _ => none
def pAnd (f g : P) : P := fun ρ st => match f ρ st with
  | none => none
  | some (x, st1) => match truth x with
    | none => none
    | some true => g ρ st1
    | some false => some (.sh (.bl false), st1)
def pOr (f g : P) : P := fun ρ st => match f ρ st with
  | none => none
  | some (x, st1) => match truth x with
    | none => none
    | some true => some (.sh (.bl true), st1)
    | some false => g ρ st1
def pNot (f : P) : P := fun ρ st => match f ρ st with
  | none => none
  | some (x, st1) => match truth x with
    | none => none
    | some b => some (.sh (.bl (!b)), st1)
def pIf (c f g : P) : P := fun ρ st => match c ρ st with
  | none => none
  | some (x, st1) => match truth x with
    | none => none
    | some true => f ρ st1
    | some false => g ρ st1
/-- a c1 b c2 c, ints -/
def pChain (c1 c2 : Int → Int → Bool) (f g h : P) : P := fun ρ st => match f ρ st with
  | some (.sh (.int i), st1) => match g ρ st1 with
    | some (.sh (.int j), st2) => if c1 i j = true then (match h ρ st2 with
        | some (.sh (.int k), st3) => some (.sh (.bl (c2 j k)), st3)
        | _ => none) else some (.sh (.bl false), st2)
    | _ => none
  | _ => none
section
variable {X : Cx} {a b c e : Expr} {f g h : P} {pos : Pos} {rest : List Expr}
/-- any expression whose test is its value's truth -/
theorem tx_val (h : PX X e f) (he : ∀ whole, isTrue e X.env whole = (do let v ← whole; standAt e.pos; holding [v] (truthy v)) := by intro _; rfl) : TX X e f := (pt_truth h he).imp fun _ _ _ w => w.of
theorem tx_cmp {o : CmpOp} {op : Op} (ho : OpS X (compareOp o) op) (hb' : ∀ svs st sv st', op svs st = some (sv, st') → ∃ b, sv = .sh (.bl b)) (ha : PX X a f) (hb : PX X b g) (hm : behindInMarks o b = false) : TX X (.Compare a [o] [b] pos) (pOp op (a2 f g)) :=
  (pt_cmpR ho ha hb hm).imp fun σ H Q w => by
    have z := TTs.ofB (fun ρ st sv st' e => by
      unfold pOp at e
      cases e2 : a2 f g ρ st with
      | none => rw [e2] at e; cases e
      | some r => rw [e2] at e; exact hb' _ _ _ _ e) w
    exact sim2 z
variable {K : PySem.W.Frag} {mg : Str → Option Value} {σ : St} {H : Hp} {Q : Bool → Hp → Prop}
theorem le_chain {β β1 β2 : List Addr} {H H1 H2 : Hp} (h : Le (fun a => a ∈ β) β H β1 H1) (k : Le (fun a => a ∈ β1) β1 H1 β2 H2) : Le (fun a => a ∈ β) β H β2 H2 := h.trans k fun a e n => h.out a e n
theorem and_of (w : TTs K mg (pAnd f g) σ H Q) : tAnd (TTs K mg f) (TTs K mg g) σ H Q := by
  obtain ⟨B, T, β, ρ, st, sv, st', b, sr, e, eb, q⟩ := w
  unfold pAnd at e
  cases ef : f ρ st with
  | none => rw [ef] at e; cases e
  | some r =>
    obtain ⟨x, st1⟩ := r
    rw [ef] at e
    simp only at e
    cases et : truth x with
    | none => rw [et] at e; cases e
    | some c =>
      rw [et] at e
      cases c with
      | true => exact ⟨B, T, β, ρ, st, x, st1, true, sr, ef, et, fun H1 β1 le s1 => by
          refine iteT ?_
          exact ⟨B, T, β1, ρ, st1, sv, st', b, s1, e, eb, fun H2 β2 le2 s2 => q H2 β2 (le_chain le le2) s2⟩⟩
      | false =>
        cases e
        cases eb
        exact ⟨B, T, β, ρ, st, x, _, false, sr, ef, et, fun H1 β1 le s1 => by
          refine iteF ?_
          exact q H1 β1 le s1⟩
theorem or_of (w : TTs K mg (pOr f g) σ H Q) : tOr (TTs K mg f) (TTs K mg g) σ H Q := by
  obtain ⟨B, T, β, ρ, st, sv, st', b, sr, e, eb, q⟩ := w
  unfold pOr at e
  cases ef : f ρ st with
  | none => rw [ef] at e; cases e
  | some r =>
    obtain ⟨x, st1⟩ := r
    rw [ef] at e
    simp only at e
    cases et : truth x with
    | none => rw [et] at e; cases e
    | some c =>
      rw [et] at e
      cases c with
      | false => exact ⟨B, T, β, ρ, st, x, st1, false, sr, ef, et, fun H1 β1 le s1 => by
          refine iteF ?_
          exact ⟨B, T, β1, ρ, st1, sv, st', b, s1, e, eb, fun H2 β2 le2 s2 => q H2 β2 (le_chain le le2) s2⟩⟩
      | true =>
        cases e
        cases eb
        exact ⟨B, T, β, ρ, st, x, _, true, sr, ef, et, fun H1 β1 le s1 => by
          refine iteT ?_
          exact q H1 β1 le s1⟩
theorem not_of (w : TTs K mg (pNot f) σ H Q) : tNot (TTs K mg f) σ H Q := by
  obtain ⟨B, T, β, ρ, st, sv, st', b, sr, e, eb, q⟩ := w
  unfold pNot at e
  cases ef : f ρ st with
  | none => rw [ef] at e; cases e
  | some r =>
    obtain ⟨x, st1⟩ := r
    rw [ef] at e
    simp only at e
    cases et : truth x with
    | none => rw [et] at e; cases e
    | some c =>
      rw [et] at e
      cases e
      cases eb
      exact ⟨B, T, β, ρ, st, x, _, c, sr, ef, et, fun H1 β1 le s1 => q H1 β1 le s1⟩
theorem wx_and1 (ha : TX X a f) : WX X (.BoolOp .And [a] pos) f := pw_and1 ha
theorem wx_or1 (ha : TX X a f) : WX X (.BoolOp .Or [a] pos) f := pw_or1 ha
theorem wx_and (ha : TX X a f) (hb : WX X (.BoolOp .And (b :: rest) pos) g) : WX X (.BoolOp .And (a :: b :: rest) pos) (pAnd f g) := (pw_and ha hb).imp fun _ _ _ w => and_of w
theorem wx_or (ha : TX X a f) (hb : WX X (.BoolOp .Or (b :: rest) pos) g) : WX X (.BoolOp .Or (a :: b :: rest) pos) (pOr f g) := (pw_or ha hb).imp fun _ _ _ w => or_of w
theorem tx_bool (h : WX X e f) : TX X e f := h.pt
theorem tx_not (ha : TX X a f) : TX X (.UnaryOp .Not a pos) (pNot f) := (pt_not ha).imp fun _ _ _ w => not_of w

/-! as values: bools alone -/
theorem px_not (ha : PX X a f) : PX X (.UnaryOp .Not a pos) (pNot (isB f)) := (pe_not ha).imp fun σ H Q w => by
  obtain ⟨B, T, β, ρ, st, sv, st', sr, e, q⟩ := w
  unfold pNot isB at e
  split at e
  · cases e
  · next x st1 e1 =>
    split at e1
    · next b st2 ef =>
      cases e1
      cases e
      refine ⟨B, T, β, ρ, st, _, _, sr, ef, fun v H1 β1 as le fr p => ?_⟩
      obtain ⟨w, ws, e1, r, _⟩ := p.rl.sh1
      cases e1
      exact ⟨b, r.bl1, q _ H1 β1 [] le (fun a m => absurd m (by simp)) (Po.one p.drop (.bl _))⟩
    · cases e1
theorem px_and1 (ha : PX X a f) : PX X (.BoolOp .And [a] pos) f := pe_one ha
theorem px_or1 (ha : PX X a f) : PX X (.BoolOp .Or [a] pos) f := pe_one ha
theorem px_and (ha : PX X a f) (hb : PX X (.BoolOp .And (b :: rest) pos) g) : PX X (.BoolOp .And (a :: b :: rest) pos) (pAnd (isB f) g) := (pe_and ha hb).imp fun σ H Q w => by
  obtain ⟨B, T, β, ρ, st, sv, st', sr, e, q⟩ := w
  unfold pAnd isB at e
  split at e
  · cases e
  · next x st1 e1 =>
    split at e1
    · next b st2 ef =>
      cases e1
      refine ⟨B, T, β, ρ, st, _, _, sr, ef, fun v H1 β1 as le fr p => ?_⟩
      obtain ⟨w, ws, e1, r, _⟩ := p.rl.sh1
      cases e1
      refine ⟨b, r.bl1, ?_⟩
      cases b with
      | true =>
        refine iteT ?_
        exact ⟨B, T, β1, ρ, _, sv, st', p.drop, e, fun v H2 β2 as2 le2 fr2 p2 => q v H2 β2 as2 (le_chain le le2) (fun a m => pos_mem (SR.βne sr) le (SR.βne p.sr) (fr2 a m)) p2⟩
      | false =>
        refine iteF ?_
        cases e
        exact q _ H1 β1 [] le (fun a m => absurd m (by simp)) (Po.one p.drop (.bl _))
    · cases e1
theorem px_or (ha : PX X a f) (hb : PX X (.BoolOp .Or (b :: rest) pos) g) : PX X (.BoolOp .Or (a :: b :: rest) pos) (pOr (isB f) g) := (pe_or ha hb).imp fun σ H Q w => by
  obtain ⟨B, T, β, ρ, st, sv, st', sr, e, q⟩ := w
  unfold pOr isB at e
  split at e
  · cases e
  · next x st1 e1 =>
    split at e1
    · next b st2 ef =>
      cases e1
      refine ⟨B, T, β, ρ, st, _, _, sr, ef, fun v H1 β1 as le fr p => ?_⟩
      obtain ⟨w, ws, e1, r, _⟩ := p.rl.sh1
      cases e1
      refine ⟨b, r.bl1, ?_⟩
      cases b with
      | false =>
        refine iteF ?_
        exact ⟨B, T, β1, ρ, _, sv, st', p.drop, e, fun v H2 β2 as2 le2 fr2 p2 => q v H2 β2 as2 (le_chain le le2) (fun a m => pos_mem (SR.βne sr) le (SR.βne p.sr) (fr2 a m)) p2⟩
      | true =>
        refine iteT ?_
        cases e
        exact q _ H1 β1 [] le (fun a m => absurd m (by simp)) (Po.one p.drop (.bl _))
    · cases e1
theorem px_if (hc : TX X c f) (ha : PX X a g) (hb : PX X b h) : PX X (.IfExp c a b pos) (pIf f g h) := (pe_ifExp hc ha hb).imp fun σ H Q w => by
  obtain ⟨B, T, β, ρ, st, sv, st', sr, e, q⟩ := w
  unfold pIf at e
  cases ef : f ρ st with
  | none => rw [ef] at e; cases e
  | some r =>
    obtain ⟨x, st1⟩ := r
    rw [ef] at e
    simp only at e
    cases et : truth x with
    | none => rw [et] at e; cases e
    | some c =>
      rw [et] at e
      refine ⟨B, T, β, ρ, st, x, st1, c, sr, ef, et, fun H1 β1 le s1 => ?_⟩
      have go : ∀ k : P, k ρ st1 = some (sv, st') → TP X.K X.mg k σ H1 Q := fun k ek => ⟨B, T, β1, ρ, st1, sv, st', s1, ek, fun v H2 β2 as2 le2 fr2 p2 => q v H2 β2 as2 (le_chain le le2) (fun a m => pos_mem (SR.βne sr) le (SR.βne s1) (fr2 a m)) p2⟩
      cases c with
      | true => exact iteT (go _ e)
      | false => exact iteF (go _ e)
/-- a comparison of ints, by its rule -/
def CmpI (X : Cx) (o : CmpOp) (c : Int → Int → Bool) : Prop := OpR X (compareOp o) (rI0 fun i j => .bl (c i j))
theorem chain_of {c1 c2 : Int → Int → Bool} {K : PySem.W.Frag} {mg : Str → Option Value} {σ : St} {H : Hp} {Q : VK} (w : TP K mg (pChain c1 c2 f g h) σ H Q) : tChain (rI0 fun i j => .bl (c1 i j)) (rI0 fun i j => .bl (c2 i j)) (TP K mg f) (TP K mg g) (TP K mg h) σ H Q := by
  obtain ⟨B, T, β, ρ, st, sv, st', sr, e, q⟩ := w
  unfold pChain at e
  split at e
  · next i st1 e1 =>
    split at e
    · next j st2 e2 =>
      refine ⟨B, T, β, ρ, st, _, _, sr, e1, fun v H1 β1 as1 le1 fr1 p1 => ⟨B, T, β1, ρ, st1, _, _, p1.drop, e2, fun v2 H2 β2 as2 le2 fr2 p2 => ?_⟩⟩
      obtain ⟨w1, ws, z, r1, _⟩ := p1.rl.sh1
      cases z
      obtain ⟨w2, ws, z, r2, _⟩ := p2.rl.sh1
      cases z
      refine ⟨i, j, r1.int1, r2.int1, c1 i j, rfl, ?_⟩
      split at e
      · next hc =>
        rw [if_pos hc]
        split at e
        · next k st3 e3 =>
          cases e
          refine ⟨B, T, β2, ρ, st2, _, _, p2.drop, e3, fun v3 H3 β3 as3 le3 fr3 p3 => ?_⟩
          obtain ⟨w3, ws, z, r3, _⟩ := p3.rl.sh1
          cases z
          exact ⟨j, k, r2.int1, r3.int1, q _ H3 β3 [] (le_chain (le_chain le1 le2) le3) (fun a m => absurd m (by simp)) (Po.one p3.drop (.bl _))⟩
        · cases e
      · next hc =>
        cases e
        rw [if_neg hc]
        exact q _ H2 β2 [] (le_chain le1 le2) (fun a m => absurd m (by simp)) (Po.one p2.drop (.bl _))
    · cases e
  · cases e
theorem chain_b {c1 c2 : Int → Int → Bool} : ∀ ρ st sv st', pChain c1 c2 f g h ρ st = some (sv, st') → ∃ b, sv = .sh (.bl b) := fun ρ st sv st' e => by
  unfold pChain at e
  split at e
  · split at e
    · split at e
      · split at e
        · cases e; exact ⟨_, rfl⟩
        · cases e
      · cases e; exact ⟨_, rfl⟩
    · cases e
  · cases e
theorem px_chain {o o' : CmpOp} {c1 c2 : Int → Int → Bool} (h1 : CmpI X o c1) (h2 : CmpI X o' c2) (ha : PX X a f) (hb : PX X b g) (hc : PX X c h) (hm : lastMarks [o, o'] [b, c] = false := by with_unfolding_all rfl) :
    PX X (.Compare a [o, o'] [b, c] pos) (pChain c1 c2 f g h) := (pe_chain h1 h2 ha hb hc hm).imp fun _ _ _ w => chain_of w
theorem tx_chain {o o' : CmpOp} {c1 c2 : Int → Int → Bool} (h1 : CmpI X o c1) (h2 : CmpI X o' c2) (ha : PX X a f) (hb : PX X b g) (hc : PX X c h) (hm : lastMarks [o, o'] [b, c] = false := by with_unfolding_all rfl) :
    TX X (.Compare a [o, o'] [b, c] pos) (pChain c1 c2 f g h) := (pt_chain h1 h2 ha hb hc hm).imp fun _ _ _ w => chain_of (TTs.ofB chain_b w)
end
end PL

/-! PLStmt: statements as pure functions. -/
namespace PL
open PySem PySem.Spec L2

inductive Fl where
  | nx | rt (s : SV) | bk | ct
abbrev S := Lo → Sto → Option (Fl × Lo × Sto)

/-- between statements: outside of the store and of what is owned all is as it was, and is not taken in -/
structure LeS (β : List Addr) (σ : St) (ρ : Lo) (H : Hp) (β' : List Addr) (σ' : St) (ρ' : Lo) (H' : Hp) (as : List Addr) : Prop where
  ex : ∀ a u, H a = some u → ¬ Ml β σ ρ a → H' a = some u
  pre : β <+: β'
  out : ∀ a, H a ≠ none → ¬ Ml β σ ρ a → ¬ Ml β' σ' ρ' a ∧ a ∉ as
theorem LeS.trans {β β1 β2 : List Addr} {σ σ1 σ2 : St} {ρ ρ1 ρ2 : Lo} {H H1 H2 : Hp} {as : List Addr} (h : LeS β σ ρ H β1 σ1 ρ1 H1 []) (k : LeS β1 σ1 ρ1 H1 β2 σ2 ρ2 H2 as) : LeS β σ ρ H β2 σ2 ρ2 H2 as := by
  refine ⟨fun a u e n => ?_, h.pre.trans k.pre, fun a e n => ?_⟩
  · exact k.ex a u (h.ex a u e n) (h.out a (by rw [e]; simp) n).1
  · cases q : H a with
    | none => exact absurd q e
    | some u => exact k.out a (by rw [h.ex a u q n]; simp) (h.out a e n).1
theorem Le.leS {β β' : List Addr} {σ : St} {ρ : Lo} {H H' : Hp} {as : List Addr} (h : Le (fun a => a ∈ β) β H β' H') (ha : ∀ a ∈ as, H a = none) : LeS β σ ρ H β' σ ρ H' as :=
  ⟨fun a u e n => h.ex a u e fun z => n (.inl z), h.pre, fun a e n => ⟨fun z => z.elim (h.out a e fun z => n (.inl z)) fun z => n (.inr z), fun m => e (ha a m)⟩⟩
theorem LeS.refl {β : List Addr} {σ : St} {ρ : Lo} {H : Hp} : LeS β σ ρ H β σ ρ H [] := ⟨fun a u e _ => e, List.prefix_refl _, fun a _ n => ⟨n, by simp⟩⟩

section
variable (K : PySem.W.Frag) (mg : Str → Option Value)
/-- a statement's reading -/
def TSs (f : S) : TS := fun D σ H => ∃ B T β ρ st fl ρ' st', SR K mg B T β σ H ρ st ∧ f ρ st = some (fl, ρ', st') ∧
  (∀ σ' H' β', LeS β σ ρ H β' σ' ρ' H' [] → SR K mg B T β' σ' H' ρ' st' → (fl = .nx → D.nx σ' H') ∧ (fl = .bk → D.bk σ' H') ∧ (fl = .ct → D.ct σ' H')) ∧
  (∀ s v H' β' as, fl = .rt s → LeS β σ ρ H β' [] [] H' as → Po K mg B T β' [] H' [] st' [v] [s] as → D.rt v H')
end
abbrev SX (X : Cx) (s : Stmt) (f : S) : Prop := PS X s (TSs X.K X.mg f)
abbrev BX (X : Cx) (s : List Stmt) (f : S) : Prop := PSs X s (TSs X.K X.mg f)
theorem _root_.L2.PS.imp {X : Cx} {s : Stmt} {t t' : TS} (h : PS X s t) (hi : ∀ D σ H, t' D σ H → t D σ H) : PS X s t' := ⟨fun pins s σ H D I w => h.run pins s σ H D I (hi _ _ _ w)⟩
theorem _root_.L2.PSs.imp {X : Cx} {s : List Stmt} {t t' : TS} (h : PSs X s t) (hi : ∀ D σ H, t' D σ H → t D σ H) : PSs X s t' := ⟨fun pins s σ H D I w => h.run pins s σ H D I (hi _ _ _ w)⟩

def sSkip : S := fun ρ st => some (.nx, ρ, st)
def sBreak : S := fun ρ st => some (.bk, ρ, st)
def sCont : S := fun ρ st => some (.ct, ρ, st)
def sSeq (f g : S) : S := fun ρ st => match f ρ st with
  | none => none
  | some (.nx, ρ1, st1) => g ρ1 st1
  | some r => some r
/-- the value is dropped -/
def sExpr (p : P) : S := fun ρ st => match p ρ st with
  | none => none
  | some (_, st1) => some (.nx, ρ, st1)
def noRo : SV → Bool
  | .ro _ => false | _ => true
def sRet (p : P) : S := fun ρ st => match p ρ st with
  | none => none
  | some (s, st1) => if noRo s = true then some (.rt s, ρ, st1) else none
def sRetN : S := fun ρ st => some (.rt (.sh .non), ρ, st)
/-- an owned local is handed back -/
def sRetMv (i : Nat) : S := fun ρ st => match ρ[i]? with
  | some (some (.ow d)) => some (.rt (.ow d), ρ, st)
  | _ => none
def sIf (c : P) (f g : S) : S := fun ρ st => match c ρ st with
  | none => none
  | some (x, st1) => match truth x with
    | none => none
    | some true => f ρ st1
    | some false => g ρ st1
def sSet (i : Nat) (p : P) : S := fun ρ st => match p ρ st with
  | none => none
  | some (s, st1) => if noRo s = true ∧ i < ρ.length then some (.nx, ρ.set i (some s), st1) else none
/-- slots' own lists and dicts are shared from now on -/
def frz1 (i : Nat) (ρ : Lo) : Lo := match ρ[i]? with
  | some (some (.ow d)) => ρ.set i (some (.sh d))
  | _ => ρ
def frz : List Nat → Lo → Lo
  | [], ρ => ρ
  | i :: is, ρ => frz is (frz1 i ρ)
def sFrz (is : List Nat) (f : S) : S := fun ρ st => f (frz is ρ) st
def sNever : S := fun _ _ => none

section
variable {K : PySem.W.Frag} {mg : Str → Option Value} {β β' : List Addr} {M M' B T T' : Addr → Prop} {H H' : Hp} {σ σ' : St} {ρ ρ' : Lo} {st st' : Sto} {a : Addr} {v : V} {d : D} {s : SV} {as : List Addr} {vs ws : List V} {svs : List SV} {ds : List D}
theorem get_set {α : Type} {l : List α} {i j : Nat} {x : α} (hi : i < l.length) : (l.set i x)[j]? = if i = j then some x else l[j]? := by
  by_cases e : i = j
  · subst e; rw [if_pos rfl, List.getElem?_set_self hi]
  · rw [if_neg e, List.getElem?_set_ne e]
theorem own_set {i : Nat} (hl : σ.length = ρ.length) (hi : i < ρ.length) (h : own (σ.set i (some v)) (ρ.set i (some s)) a) : own σ ρ a ∨ (∃ d, s = .ow d ∧ v = .ref a) := by
  obtain ⟨j, d, e1, e2⟩ := h
  rw [get_set hi] at e1
  rw [get_set (hl ▸ hi)] at e2
  by_cases e : i = j
  · subst e
    rw [if_pos rfl] at e1 e2
    cases e1; cases e2
    exact .inr ⟨d, rfl, rfl⟩
  · rw [if_neg e] at e1 e2
    exact .inl ⟨j, d, e1, e2⟩
/-- a value is stored in a slot -/
theorem Po.set {i : Nat} (p : Po K mg B T β σ H ρ st [v] [s] as) (hr : noRo s = true) (hi : i < ρ.length) : SR K mg B T β (σ.set i (some v)) H (ρ.set i (some s)) st := by
  have h := p.sr
  have hs : i < σ.length := by rw [h.len]; exact hi
  -- the addresses
  have hal : ∀ a, (∃ d, s = .ow d ∧ v = .ref a) → a ∈ as := fun a ⟨d, e1, e2⟩ => by
    subst e1; subst e2
    have := p.rl
    cases this with
    | ow _ _ => exact List.mem_cons_self
  have sub : ∀ a, Ma B T β (σ.set i (some v)) (ρ.set i (some s)) a → Ma B (Tp T as) β σ ρ a := fun a m => by
    rcases m with m | m | m | m
    · exact .inl m
    · exact .inr (.inl (.inl m))
    · exact .inr (.inr (.inl m))
    · rcases own_set h.len hi m with m | m
      · exact .inr (.inr (.inr m))
      · exact .inr (.inl (.inr (hal a m)))
  have t := Tr.sub (H := H) sub
  have nown : ∀ a, own (σ.set i (some v)) (ρ.set i (some s)) a → a ∉ β ∧ ¬ T a ∧ ¬ B a := fun a m => by
    rcases own_set h.len hi m with m | m
    · exact ⟨h.ownβ a m, fun z => h.ownT a m (.inl z), h.ownB a m⟩
    · exact ⟨fun z => p.out a (hal a m) (.inr (.inr (.inl z))), fun z => p.out a (hal a m) (.inr (.inl z)), fun z => p.out a (hal a m) (.inl z)⟩
  refine ⟨by simp [h.len], fun j d e => ?_, fun j d e => ?_, fun j d e => ?_, fun j k d d' a e1 e2 e3 e4 => ?_, fun a m => (nown a m).1, fun a m => (nown a m).2.1, fun a m => (nown a m).2.2, fun a m z => h.βT a m (.inl z), h.βB, h.stl, fun n ob a e1 e2 => (h.sto n ob a e1 e2).tr t (List.prefix_refl _) fun u q => q, h.nd, fun a m => h.dom a (sub a m)⟩
  · rw [get_set hi] at e
    rw [get_set hs]
    by_cases ej : i = j
    · rw [if_pos ej] at e ⊢
      cases e
      obtain ⟨w, ws, e1, r, _⟩ := p.rl.sh1
      cases e1
      exact ⟨v, rfl, r.tr t (List.prefix_refl _)⟩
    · rw [if_neg ej] at e ⊢
      obtain ⟨w, e1, r⟩ := h.sh j d e
      exact ⟨w, e1, r.tr t (List.prefix_refl _)⟩
  · rw [get_set hi] at e
    rw [get_set hs]
    by_cases ej : i = j
    · rw [if_pos ej] at e ⊢
      cases e
      have rl := p.rl
      cases rl with
      | ow r _ => exact ⟨_, rfl, Ct.tr t (List.prefix_refl _) r fun u _ q => q⟩
    · rw [if_neg ej] at e ⊢
      obtain ⟨w, e1, r⟩ := h.ow j d e
      exact ⟨w, e1, Ct.tr t (List.prefix_refl _) r fun u _ q => q⟩
  · rw [get_set hi] at e
    rw [get_set hs]
    by_cases ej : i = j
    · rw [if_pos ej] at e
      cases e
      cases hr
    · rw [if_neg ej] at e ⊢
      obtain ⟨w, e1, n1, n2, n3, r⟩ := h.ro j d e
      refine ⟨w, e1, n1, fun m => ?_, fun z => n3 (.inl z), Ct.tr t (List.prefix_refl _) r fun u _ q => q⟩
      rcases own_set h.len hi m with m | m
      · exact n2 m
      · exact n3 (.inr (hal w m))
  · rw [get_set hi] at e1 e3
    rw [get_set hs] at e2 e4
    by_cases ej : i = j <;> by_cases ek : i = k
    · exact ej.symm.trans ek
    · rw [if_pos ej] at e1 e2
      rw [if_neg ek] at e3 e4
      cases e1; cases e2
      exact absurd (.inr (.inr (.inr ⟨k, d', e3, e4⟩))) (p.out a (hal a ⟨d, rfl, rfl⟩))
    · rw [if_neg ej] at e1 e2
      rw [if_pos ek] at e3 e4
      cases e3; cases e4
      exact absurd (.inr (.inr (.inr ⟨j, d, e1, e2⟩))) (p.out a (hal a ⟨d', rfl, rfl⟩))
    · rw [if_neg ej] at e1 e2
      rw [if_neg ek] at e3 e4
      exact h.sep j k d d' a e1 e2 e3 e4
theorem Po.set_le {i : Nat} (p : Po K mg B T β σ H ρ st [v] [s] as) (hi : i < ρ.length) {H0 : Hp} {β0 : List Addr} (le : Le (fun a => a ∈ β0) β0 H0 β H) (fr : ∀ a ∈ as, H0 a = none) : LeS β0 σ ρ H0 β (σ.set i (some v)) (ρ.set i (some s)) H [] := by
  refine ⟨fun a u e n => le.ex a u e fun z => n (.inl z), le.pre, fun a e n => ⟨fun z => ?_, by simp⟩⟩
  rcases z with z | z
  · exact le.out a e (fun z => n (.inl z)) z
  · rcases own_set p.sr.len hi z with m | ⟨d, e1, e2⟩
    · exact n (.inr m)
    · subst e1; subst e2
      have rl := p.rl
      cases rl with
      | ow _ _ => exact e (fr a List.mem_cons_self)
/-- a frame is left -/
theorem SR.leave (h : SR K mg B T β σ H ρ st) : SR K mg B T β [] H [] st := by
  have sub : ∀ a, Ma B T β [] [] a → Ma B T β σ ρ a := fun a m => by
    rcases m with m | m | m | m
    · exact .inl m
    · exact .inr (.inl m)
    · exact .inr (.inr (.inl m))
    · obtain ⟨i, d, e, _⟩ := m
      simp at e
  have t := Tr.sub (H := H) sub
  exact ⟨rfl, fun i d e => by simp at e, fun i d e => by simp at e, fun i d e => by simp at e, fun i j d d' a e => by simp at e, fun a m => (by obtain ⟨i, d, e, _⟩ := m; simp at e), fun a m => (by obtain ⟨i, d, e, _⟩ := m; simp at e), fun a m => (by obtain ⟨i, d, e, _⟩ := m; simp at e), h.βT, h.βB, h.stl,
    fun n ob a e1 e2 => (h.sto n ob a e1 e2).tr t (List.prefix_refl _) fun u q => q, h.nd, fun a m => h.dom a (sub a m)⟩
theorem Po.leave (p : Po K mg B T β σ H ρ st vs svs as) : Po K mg B T β [] H [] st vs svs as := by
  have sub : ∀ T a, Ma B T β [] [] a → Ma B T β σ ρ a := fun T a m => by
    rcases m with m | m | m | m
    · exact .inl m
    · exact .inr (.inl m)
    · exact .inr (.inr (.inl m))
    · obtain ⟨i, d, e, _⟩ := m
      simp at e
  exact ⟨p.sr.leave, p.nd, fun a m z => p.out a m (sub _ a z), RL.tr (Tr.sub (sub _)) (List.prefix_refl _) (fun a _ n1 n2 => ⟨fun u z => z, n1, n2⟩) p.rl fun a _ u q => q⟩
/-- an owned slot's value, the frame left -/
theorem SR.mvOut {i : Nat} (h : SR K mg B T β σ H ρ st) (e : ρ[i]? = some (some (.ow d))) : ∃ a, σ[i]? = some (some (.ref a)) ∧ own σ ρ a ∧ Po K mg B T β [] H [] st [.ref a] [.ow d] [a] := by
  obtain ⟨a, e1, r⟩ := h.ow i d e
  have o : own σ ρ a := ⟨i, d, e, e1⟩
  have sub : ∀ b, Ma B (Tp T [a]) β [] [] b → Ma B T β σ ρ b := fun b m => by
    rcases m with m | (m | m) | m | m
    · exact .inl m
    · exact .inr (.inl m)
    · have e : b = a := by simpa using m
      subst e; exact .inr (.inr (.inr o))
    · exact .inr (.inr (.inl m))
    · obtain ⟨i, d, e, _⟩ := m
      simp at e
  have t := Tr.sub (H := H) sub
  have n0 : ∀ b, ¬ own ([] : St) ([] : Lo) b := fun b m => by
    obtain ⟨i, d, e, _⟩ := m
    simp at e
  refine ⟨a, e1, o, ⟨⟨rfl, fun i d e => by simp at e, fun i d e => by simp at e, fun i d e => by simp at e, fun i j d d' a e => by simp at e, fun b m => absurd m (n0 b), fun b m => absurd m (n0 b), fun b m => absurd m (n0 b), fun b m z => ?_, h.βB, h.stl,
    fun n ob a e1 e2 => (h.sto n ob a e1 e2).tr t (List.prefix_refl _) fun u q => q, h.nd, fun b m => h.dom b (sub b m)⟩, by simp, fun b m z => ?_, .ow (Ct.tr t (List.prefix_refl _) r fun u _ q => q) .nil⟩⟩
  · rcases z with z | z
    · exact h.βT b m z
    · have e : b = a := by simpa using z
      subst e; exact h.ownβ b o m
  · have e : b = a := by simpa using m
    subst e
    rcases z with z | z | z | z
    · exact h.ownB b o z
    · exact h.ownT b o z
    · exact h.ownβ b o z
    · exact n0 b z
/-- an own slot is shared from now on -/
theorem own_frz {i : Nat} (hi : i < ρ.length) (h : own σ (ρ.set i (some (.sh d))) a) : own σ ρ a ∧ σ[i]? ≠ some (some (.ref a)) ∨ (own σ ρ a ∧ ∃ j d, i ≠ j ∧ ρ[j]? = some (some (.ow d)) ∧ σ[j]? = some (some (.ref a))) := by
  obtain ⟨j, d', e1, e2⟩ := h
  rw [get_set hi] at e1
  by_cases e : i = j
  · rw [if_pos e] at e1; cases e1
  · rw [if_neg e] at e1
    exact .inr ⟨⟨j, d', e1, e2⟩, j, d', e, e1, e2⟩
theorem SR.frz1 (h : SR K mg B T β σ H ρ st) (i : Nat) : SR K mg B T β σ H (frz1 i ρ) st ∧ ∀ a, own σ (frz1 i ρ) a → own σ ρ a := by
  unfold PL.frz1
  split
  · next d e =>
    have hi : i < ρ.length := by
      rcases Nat.lt_or_ge i ρ.length with h | h
      · exact h
      · rw [List.getElem?_eq_none h] at e; cases e
    obtain ⟨a, e1, r⟩ := h.ow i d e
    have so : ∀ b, own σ (ρ.set i (some (.sh d))) b → own σ ρ b ∧ b ≠ a := fun b m => by
      obtain ⟨j, d', f1, f2⟩ := m
      rw [get_set hi] at f1
      by_cases ej : i = j
      · rw [if_pos ej] at f1; cases f1
      · rw [if_neg ej] at f1
        refine ⟨⟨j, d', f1, f2⟩, fun z => ?_⟩
        subst z
        exact ej (h.sep i j d d' b e e1 f1 f2)
    have o : own σ ρ a := ⟨i, d, e, e1⟩
    have sub : ∀ b, Ma B T β σ (ρ.set i (some (.sh d))) b → Ma B T β σ ρ b := fun b m => by
      rcases m with m | m | m | m
      · exact .inl m
      · exact .inr (.inl m)
      · exact .inr (.inr (.inl m))
      · exact .inr (.inr (.inr (so b m).1))
    have na : ¬ Ma B T β σ (ρ.set i (some (.sh d))) a := fun m => by
      rcases m with m | m | m | m
      · exact h.ownB a o m
      · exact h.ownT a o m
      · exact h.ownβ a o m
      · exact (so a m).2 rfl
    have t := Tr.sub (H := H) sub
    refine ⟨⟨by simp [h.len], fun j d' f => ?_, fun j d' f => ?_, fun j d' f => ?_, fun j k d1 d2 b f1 f2 f3 f4 => ?_, fun b m => h.ownβ b (so b m).1, fun b m => h.ownT b (so b m).1, fun b m => h.ownB b (so b m).1, h.βT, h.βB, h.stl, fun n ob a e1 e2 => (h.sto n ob a e1 e2).tr t (List.prefix_refl _) fun u q => q, h.nd, fun a m => h.dom a (sub a m)⟩, fun b m => (so b m).1⟩
    · rw [get_set hi] at f
      by_cases ej : i = j
      · rw [if_pos ej] at f
        cases f
        subst ej
        exact ⟨_, e1, Owc.rp (Ct.tr t (List.prefix_refl _) r fun u _ q => q) na⟩
      · rw [if_neg ej] at f
        obtain ⟨w, g1, g2⟩ := h.sh j d' f
        exact ⟨w, g1, g2.tr t (List.prefix_refl _)⟩
    · rw [get_set hi] at f
      by_cases ej : i = j
      · rw [if_pos ej] at f; cases f
      · rw [if_neg ej] at f
        obtain ⟨w, g1, g2⟩ := h.ow j d' f
        exact ⟨w, g1, Ct.tr t (List.prefix_refl _) g2 fun u _ q => q⟩
    · rw [get_set hi] at f
      by_cases ej : i = j
      · rw [if_pos ej] at f; cases f
      · rw [if_neg ej] at f
        obtain ⟨w, g1, n1, n2, n3, g2⟩ := h.ro j d' f
        exact ⟨w, g1, n1, fun m => n2 (so w m).1, n3, Ct.tr t (List.prefix_refl _) g2 fun u _ q => q⟩
    · rw [get_set hi] at f1 f3
      by_cases ej : i = j
      · rw [if_pos ej] at f1; cases f1
      · by_cases ek : i = k
        · rw [if_pos ek] at f3; cases f3
        · rw [if_neg ej] at f1
          rw [if_neg ek] at f3
          exact h.sep j k d1 d2 b f1 f2 f3 f4
  · exact ⟨h, fun a m => m⟩
theorem SR.frz (h : SR K mg B T β σ H ρ st) : ∀ (is : List Nat), SR K mg B T β σ H (frz is ρ) st ∧ ∀ a, own σ (frz is ρ) a → own σ ρ a := by
  intro is
  induction is generalizing ρ with
  | nil => exact ⟨h, fun a m => m⟩
  | cons i is ih =>
    obtain ⟨h1, o1⟩ := h.frz1 i
    obtain ⟨h2, o2⟩ := ih h1
    exact ⟨h2, fun a m => o1 a (o2 a m)⟩
end

/-! ### the rules -/
section
variable {X : Cx} {s : Stmt} {ss rest : List Stmt} {e c : Expr} {f g : S} {p q : P} {pos : Pos}
theorem bx_nil : BX X [] sSkip := pss_nil.imp fun D σ H w => by
  obtain ⟨B, T, β, ρ, st, fl, ρ', st', sr, e, q, r⟩ := w
  cases e
  exact (q σ H β LeS.refl sr).1 rfl
theorem sx_break : SX X (.Break pos) sBreak := ps_break.imp fun D σ H w => by
  obtain ⟨B, T, β, ρ, st, fl, ρ', st', sr, e, q, r⟩ := w
  cases e
  exact (q σ H β LeS.refl sr).2.1 rfl
theorem sx_continue : SX X (.Continue pos) sCont := ps_continue.imp fun D σ H w => by
  obtain ⟨B, T, β, ρ, st, fl, ρ', st', sr, e, q, r⟩ := w
  cases e
  exact (q σ H β LeS.refl sr).2.2 rfl
theorem sx_pass : SX X (.Pass pos) sSkip := ps_pass.imp fun D σ H w => by
  obtain ⟨B, T, β, ρ, st, fl, ρ', st', sr, e, q, r⟩ := w
  cases e
  exact (q σ H β LeS.refl sr).1 rfl
theorem sx_never : SX X s sNever := ps_never.imp fun D σ H w => by
  obtain ⟨B, T, β, ρ, st, fl, ρ', st', sr, e, q, r⟩ := w
  cases e
theorem bx_never : BX X ss sNever := pss_never.imp fun D σ H w => by
  obtain ⟨B, T, β, ρ, st, fl, ρ', st', sr, e, q, r⟩ := w
  cases e
theorem bx_one (h : SX X s f) : BX X [s] f := pss_one h
theorem seq_of {K : PySem.W.Frag} {mg : Str → Option Value} {D : Ends} {σ : St} {H : Hp} (w : TSs K mg (sSeq f g) D σ H) : tSeq (TSs K mg f) (TSs K mg g) D σ H := by
  obtain ⟨B, T, β, ρ, st, fl, ρ', st', sr, e, q, r⟩ := w
  unfold sSeq at e
  split at e
  · cases e
  · next ρ1 st1 e1 =>
    refine ⟨B, T, β, ρ, st, .nx, ρ1, st1, sr, e1, fun σ1 H1 β1 le1 s1 => ⟨fun _ => ?_, fun z => Fl.noConfusion z, fun z => Fl.noConfusion z⟩, fun _ _ _ _ _ z => Fl.noConfusion z⟩
    exact ⟨B, T, β1, ρ1, st1, fl, ρ', st', s1, e, fun σ2 H2 β2 le2 s2 => q σ2 H2 β2 (le1.trans le2) s2, fun x v H2 β2 as z le2 p2 => r x v H2 β2 as z (le1.trans le2) p2⟩
  · next r1 hn e1 =>
    cases e
    refine ⟨B, T, β, ρ, st, fl, ρ', st', sr, e1, fun σ1 H1 β1 le1 s1 => ⟨fun z => ?_, fun z => (q σ1 H1 β1 le1 s1).2.1 z, fun z => (q σ1 H1 β1 le1 s1).2.2 z⟩, r⟩
    subst z
    exact absurd rfl (hn _ _)
theorem bx_cons (h : SX X s f) (h' : BX X rest g) : BX X (s :: rest) (sSeq f g) := (pss_cons h h').imp fun _ _ _ w => seq_of w
theorem sx_expr (he : PX X e p) (hs : swapsWith e none pos.line X.env = pure false := by rfl) : SX X (.Expr e pos) (sExpr p) := (ps_expr he hs).imp fun D σ H w => by
  obtain ⟨B, T, β, ρ, st, fl, ρ', st', sr, e, q, r⟩ := w
  unfold sExpr at e
  split at e
  · cases e
  · next x st1 e1 =>
    cases e
    exact ⟨B, T, β, ρ, st, x, st', sr, e1, fun v H1 β1 as le fr p => (q σ H1 β1 (le.leS fun a m => absurd m (by simp)) p.drop).1 rfl⟩
theorem sx_ret (he : PX X e p) : SX X (.Return (some e) pos) (sRet p) := (ps_ret he).imp fun D σ H w => by
  obtain ⟨B, T, β, ρ, st, fl, ρ', st', sr, e, q, r⟩ := w
  unfold sRet at e
  split at e
  · cases e
  · next x st1 e1 =>
    split at e
    · cases e
      refine ⟨B, T, β, ρ, st, x, st', sr, e1, fun v H1 β1 as le fr p => r x v H1 β1 as rfl ⟨fun a u e n => le.ex a u e fun z => n (.inl z), le.pre, fun a e n => ⟨fun z => ?_, fun m => e (fr a m)⟩⟩ p.leave⟩
      rcases z with z | ⟨i, d, z, _⟩
      · exact le.out a e (fun z => n (.inl z)) z
      · simp at z
    · cases e
theorem sx_retN : SX X (.Return none pos) sRetN := ps_retN.imp fun D σ H w => by
  obtain ⟨B, T, β, ρ, st, fl, ρ', st', sr, e, q, r⟩ := w
  cases e
  refine r (.sh .non) .non H β [] rfl ⟨fun a u e _ => e, List.prefix_refl _, fun a e n => ⟨fun z => ?_, by simp⟩⟩ (Po.one sr .non).leave
  rcases z with z | ⟨i, d, z, _⟩
  · exact n (.inl z)
  · simp at z
theorem sx_retMv {x : Str} (i : Nat) {p2 : Pos} (hN : X.N[i]? = some x := by rfl) (hv : Vis X.env.scope x := by first | exact Or.inl rfl | exact Or.inr (Or.inl rfl) | exact Or.inr (Or.inr rfl)) (hd : (x == ("__debug__" : Str)) = false := by decide)
    (hcd : (x == ("__classdict__" : Str)) = false := by decide) : SX X (.Return (some (.Name x p2)) pos) (sRetMv i) := (ps_ret (pe_var hN hv hd hcd)).imp fun D σ H w => by
  obtain ⟨B, T, β, ρ, st, fl, ρ', st', sr, e, q, r⟩ := w
  unfold sRetMv at e
  split at e
  · next d e1 =>
    cases e
    obtain ⟨a, ea, o, p⟩ := sr.mvOut e1
    refine ⟨_, ea, r _ _ H β [a] rfl ⟨fun a u e _ => e, List.prefix_refl _, fun b e n => ⟨fun z => ?_, fun m => ?_⟩⟩ p⟩
    · rcases z with z | ⟨i, d, z, _⟩
      · exact n (.inl z)
      · simp at z
    · have e : b = a := by simpa using m
      subst e; exact n (.inr o)
  · cases e
theorem sx_if {a b : List Stmt} (hc : TX X c p) (ha : BX X a f) (hb : BX X b g) : SX X (.If c a b pos) (sIf p f g) := (ps_if hc ha hb).imp fun D σ H w => by
  obtain ⟨B, T, β, ρ, st, fl, ρ', st', sr, e, q, r⟩ := w
  unfold sIf at e
  split at e
  · cases e
  · next x st1 e1 =>
    have go : ∀ (k : S) (b : Bool) H1 β1, Le (fun a => a ∈ β) β H β1 H1 → SR X.K X.mg B T β1 σ H1 ρ st1 → k ρ st1 = some (fl, ρ', st') → TSs X.K X.mg k D σ H1 := fun k b H1 β1 le s1 ek =>
      have l1 : LeS β σ ρ H β1 σ ρ H1 [] := le.leS fun a m => absurd m (by simp)
      ⟨B, T, β1, ρ, st1, fl, ρ', st', s1, ek, fun σ2 H2 β2 le2 s2 => q σ2 H2 β2 (l1.trans le2) s2, fun x v H2 β2 as z le2 p2 => r x v H2 β2 as z (l1.trans le2) p2⟩
    split at e
    · cases e
    · next et => exact ⟨B, T, β, ρ, st, x, st1, true, sr, e1, et, fun H1 β1 le s1 => iteT (go f true H1 β1 le s1 e)⟩
    · next et => exact ⟨B, T, β, ρ, st, x, st1, false, sr, e1, et, fun H1 β1 le s1 => iteF (go g false H1 β1 le s1 e)⟩
theorem sx_frz (is : List Nat) (h : SX X s f) : SX X s (sFrz is f) := PS.imp h fun D σ H w => by
  obtain ⟨B, T, β, ρ, st, fl, ρ', st', sr, e, q, r⟩ := w
  obtain ⟨s1, o1⟩ := sr.frz is
  have l1 : LeS β σ ρ H β σ (frz is ρ) H [] := ⟨fun a u e _ => e, List.prefix_refl _, fun a e n => ⟨fun z => n (z.elim .inl fun m => .inr (o1 a m)), by simp⟩⟩
  exact ⟨B, T, β, frz is ρ, st, fl, ρ', st', s1, e, fun σ2 H2 β2 le2 s2 => q σ2 H2 β2 (l1.trans le2) s2, fun x v H2 β2 as z le2 p2 => r x v H2 β2 as z (l1.trans le2) p2⟩
/-- name = e -/
theorem sx_set {x : Str} {pos' : Pos} (i : Nat) (hN : X.N.Nodup) (he : PX X e p) (hi : X.N[i]? = some x := by rfl) (hx : Loc X.env.scope x := by first | exact Or.inl rfl | exact Or.inr rfl) (hs : swapsWith e (some (.Name x pos')) pos.line X.env = pure false := by rfl)
    (hf : X.fn x = true ∨ X.env.scope.names.lookup x = some .local := by first | exact .inl rfl | exact .inr rfl | assumption) : SX X (.Assign [.Name x pos'] e pos) (sSet i p) := (ps_set hN hi hx he hs hf).imp fun D σ H w => by
  obtain ⟨B, T, β, ρ, st, fl, ρ', st', sr, e, q, r⟩ := w
  unfold sSet at e
  split at e
  · cases e
  · next x st1 e1 =>
    split at e
    · next hc =>
      cases e
      exact ⟨B, T, β, ρ, st, x, st', sr, e1, fun v H1 β1 as le fr p => (q _ H1 β1 (p.set_le hc.2 le fr) (p.set hc.1 hc.2)).1 rfl⟩
    · cases e
end
end PL

/-! PLLoop: what is walked; for, while, list comprehensions. -/
namespace PL
open PySem PySem.Spec L2

/-- a walk's items (as they come), whether they are looked at where they stand -/
abbrev Src := Lo → Sto → Option (List D × Bool × Sto)
/-- a target: the slots that it stores, what it does -/
structure Tg where
  is : List Nat
  f : D → Lo → Option Lo
  ok : ∀ d ρ ρ', f d ρ = some ρ' → ρ'.length = ρ.length ∧ ∀ j, j ∉ is → ρ'[j]? = ρ[j]?
/-! ### a dict is locked while it is walked -/
structure Lk where
  d : Addr
  o : Obj
  u : HO
def lkH : Option Lk → Hp → Hp
  | none, H => H
  | some l, H => upd H l.d (.frz l.o l.u)
def unH : Option Lk → Hp → Hp
  | none, H => H
  | some l, H => upd H l.d l.u
def Unl (H H' H2 : Hp) : Prop := H2 = H' ∨ ∃ d o u, H' d = some (.frz o u) ∧ Mut (some u) ∧ (H d = none ∨ H d = some u) ∧ H2 = upd H' d u
def tUnl (t : TS) : TS := fun D σ H => t ⟨fun σ' H' => ∃ H2, Unl H H' H2 ∧ D.nx σ' H2, fun v H' => ∃ H2, Unl H H' H2 ∧ D.rt v H2, fun σ' H' => ∃ H2, Unl H H' H2 ∧ D.bk σ' H2, fun σ' H' => ∃ H2, Unl H H' H2 ∧ D.ct σ' H2⟩ σ H
def tUnlE (t : TE) : TE := fun σ H Q => t σ H fun v H' => ∃ H2, Unl H H' H2 ∧ Q v H2
section
variable {X : Cx}
theorem inv_unl {pins : List (Addr × Obj)} {σ σ' : St} {H H' H2 : Hp} {s s' : Shared} (I : Inv X pins σ H s) (I' : Inv X pins σ' H' s') (h : Unl H H' H2) : Inv X pins σ' H2 s' := by
  rcases h with rfl | ⟨d, o, u, e, mu, e2, rfl⟩
  · exact I'
  · refine I'.unlock e fun o' u' z => ?_
    rcases e2 with e2 | e2
    · have q := I.base.frzs d o' u' z
      rw [e2] at q; cases q
    · exact I.nofrz e2 mu o' u' z
theorem ps_unl {st : Stmt} {t : TS} (h : PS X st t) : PS X st (tUnl t) := by
  refine ⟨fun pins s σ H D I hw => ?_⟩
  refine thn (h.run pins s σ H _ I hw) fun f s1 q => ?_
  cases f with
  | next => obtain ⟨σ', H', I2, H2, e, q⟩ := q; exact ⟨σ', _, inv_unl I I2 e, q⟩
  | brk => obtain ⟨σ', H', I2, H2, e, q⟩ := q; exact ⟨σ', _, inv_unl I I2 e, q⟩
  | cont => obtain ⟨σ', H', I2, H2, e, q⟩ := q; exact ⟨σ', _, inv_unl I I2 e, q⟩
  | ret v => obtain ⟨x, σ', H', I2, r, H2, e, q⟩ := q; exact ⟨x, σ', _, inv_unl I I2 e, r, q⟩
theorem pe_unl {e : Expr} {t : TE} (h : PE X e t) : PE X e (tUnlE t) := by
  refine ⟨fun pins s σ H Q I hw => ?_⟩
  refine thn (h.run pins s σ H _ I hw) fun v s1 ⟨x, H1, I2, r, H2, e2, q⟩ => ?_
  exact ⟨x, _, inv_unl I I2 e2, r, q⟩
end
section
variable {K : PySem.W.Frag} {mg : Str → Option Value} {β β1 β2 : List Addr} {M M' B T T' : Addr → Prop} {H H' H1 H2 : Hp} {σ σ2 : St} {ρ ρ2 : Lo} {st st' : Sto} {as bs : List Addr} {vs : List V} {svs : List SV}
/-- the heap is told otherwise; what is exact stays -/
theorem SR.heap (h : SR K mg B T β σ H ρ st) (rd : ∀ a u, Rd H a u → Plain u → Rd H' a u) (tp : ∀ a xs, H a = some (.tup xs) → H' a = some (.tup xs)) (ex : ∀ a, Ma B T β σ ρ a → H' a = H a) : SR K mg B T β σ H' ρ st := by
  have t : Tr (Ma B T β σ ρ) (Ma B T β σ ρ) H H' := ⟨fun a u e p _ => rd a u e p, tp, fun a _ n => n⟩
  refine ⟨h.len, fun i d e => ?_, fun i d e => ?_, fun i d e => ?_, h.sep, h.ownβ, h.ownT, h.ownB, h.βT, h.βB, h.stl, fun n ob a e1 e2 => (h.sto n ob a e1 e2).tr t (List.prefix_refl _) fun u q => ?_, h.nd, fun a m => ?_⟩
  · obtain ⟨v, e1, r⟩ := h.sh i d e
    exact ⟨v, e1, r.tr t (List.prefix_refl _)⟩
  · obtain ⟨a, e1, r⟩ := h.ow i d e
    exact ⟨a, e1, Ct.tr t (List.prefix_refl _) r fun u _ q => (ex a (.inr (.inr (.inr ⟨i, d, e, e1⟩)))).trans q⟩
  · obtain ⟨a, e1, n1, n2, n3, r⟩ := h.ro i d e
    exact ⟨a, e1, n1, n2, n3, Ct.tr t (List.prefix_refl _) r fun u p q => rd a u q p⟩
  · exact (ex a (.inr (.inr (.inl (List.mem_of_getElem? e2))))).trans q
  · have d := h.dom a m
    unfold Rd at d ⊢
    rw [ex a m]; exact d
theorem RL.heap (t : Tr M M H H') (rd : ∀ a u, Rd H a u → Plain u → Rd H' a u) : ∀ {vs svs as}, RL K mg β M T H vs svs as → (∀ a ∈ as, H' a = H a) → RL K mg β M T H' vs svs as
  | _, _, _, .nil, _ => .nil
  | _, _, _, .sh r q, ho => .sh (r.tr t (List.prefix_refl _)) (RL.heap t rd q ho)
  | _, _, _, .ro n1 n2 r q, ho => .ro n1 n2 (Ct.tr t (List.prefix_refl _) r fun u p z => rd _ u z p) (RL.heap t rd q ho)
  | _, _, _, .ow r q, ho => .ow (Ct.tr t (List.prefix_refl _) r fun u _ z => (ho _ List.mem_cons_self).trans z) (RL.heap t rd q fun a m => ho a (List.mem_cons_of_mem _ m))
theorem Po.heap (p : Po K mg B T β σ H ρ st vs svs as) (rd : ∀ a u, Rd H a u → Plain u → Rd H' a u) (tp : ∀ a xs, H a = some (.tup xs) → H' a = some (.tup xs)) (ex : ∀ a, Ma B (Tp T as) β σ ρ a → H' a = H a) : Po K mg B T β σ H' ρ st vs svs as :=
  ⟨p.sr.heap rd tp ex, p.nd, p.out, p.rl.heap ⟨fun a u e q _ => rd a u e q, tp, fun a _ n => n⟩ rd fun a m => ex a (.inr (.inl (.inr m)))⟩
/-- what may be locked -/
def LkOk (B T : Addr → Prop) (β : List Addr) (σ : St) (ρ : Lo) (H : Hp) : Option Lk → Prop
  | none => True
  | some l => H l.d = some l.u ∧ Mut (some l.u) ∧ ¬ Ma B T β σ ρ l.d
theorem mut_notup {u : HO} (h : Mut (some u)) : (∀ xs, u ≠ .tup xs) ∧ ∀ o w, u ≠ .frz o w := ⟨fun xs z => by subst z; exact h, fun o w z => by subst z; exact h⟩
theorem lk_start {lk : Option Lk} (hk : LkOk B T β σ ρ H lk) : (∀ a u, Rd H a u → Plain u → Rd (lkH lk H) a u) ∧ (∀ a xs, H a = some (.tup xs) → lkH lk H a = some (.tup xs)) ∧ (∀ a, Ma B T β σ ρ a → lkH lk H a = H a) := by
  cases lk with
  | none => exact ⟨fun a u e _ => e, fun a xs e => e, fun _ _ => rfl⟩
  | some l =>
    obtain ⟨h1, h2, h3⟩ := hk
    refine ⟨fun a u e p => ?_, fun a xs e => ?_, fun a m => ?_⟩
    · show Rd (upd H l.d _) a u
      by_cases ea : a = l.d
      · subst ea
        have eu : u = l.u := by
          rcases e with e | ⟨o, e⟩
          · rw [h1] at e; exact (Option.some.inj e).symm
          · rw [h1] at e; exact absurd (Option.some.inj e) ((mut_notup h2).2 _ _)
        subst eu
        exact .inr ⟨_, upd_same⟩
      · rcases e with e | ⟨o, e⟩
        · exact .inl (by rw [upd_ne ea]; exact e)
        · exact .inr ⟨o, by rw [upd_ne ea]; exact e⟩
    · show upd H l.d _ a = _
      rw [upd_ne fun ea => by subst ea; rw [h1] at e; exact (mut_notup h2).1 _ (Option.some.inj e)]
      exact e
    · show upd H l.d _ a = _
      rw [upd_ne fun ea => by subst ea; exact h3 m]
theorem lk_end {lk : Option Lk} (hk : LkOk B T β1 σ ρ H1 lk) (l2 : LeS β1 σ ρ (lkH lk H1) β2 σ2 ρ2 H2 bs) : (∀ a u, Rd H2 a u → Plain u → Rd (unH lk H2) a u) ∧ (∀ a xs, H2 a = some (.tup xs) → unH lk H2 a = some (.tup xs)) ∧
    (∀ a, (B a ∨ T a ∨ Ml β2 σ2 ρ2 a ∨ a ∈ bs) → unH lk H2 a = H2 a) ∧ LeS β1 σ ρ H1 β2 σ2 ρ2 (unH lk H2) bs ∧ ∀ {H0 β0}, Le (fun a => a ∈ β0) β0 H0 β1 H1 → Unl H0 H2 (unH lk H2) := by
  cases lk with
  | none => exact ⟨fun a u e _ => e, fun a xs e => e, fun _ _ => rfl, l2, fun _ => .inl rfl⟩
  | some l =>
    obtain ⟨h1, h2, h3⟩ := hk
    have h3' : ¬ Ml β1 σ ρ l.d := fun z => h3 (.inr (.inr z))
    have hd : H2 l.d = some (.frz l.o l.u) := l2.ex _ _ upd_same h3'
    have ho := l2.out l.d (by show upd H1 l.d _ l.d ≠ none; rw [upd_same]; simp) h3'
    refine ⟨fun a u e p => ?_, fun a xs e => ?_, fun a m => ?_, ⟨fun a u e n => ?_, l2.pre, fun a e n => l2.out a ?_ n⟩, fun {H0 β0} le => .inr ⟨l.d, l.o, l.u, hd, h2, ?_, rfl⟩⟩
    · show Rd (upd H2 l.d _) a u
      by_cases ea : a = l.d
      · subst ea
        rcases e with e | ⟨o, e⟩
        · rw [hd] at e; cases e; exact p.elim
        · rw [hd] at e; cases e; exact .inl upd_same
      · rcases e with e | ⟨o, e⟩
        · exact .inl (by rw [upd_ne ea]; exact e)
        · exact .inr ⟨o, by rw [upd_ne ea]; exact e⟩
    · show upd H2 l.d _ a = _
      rw [upd_ne fun ea => by subst ea; rw [hd] at e; cases e]
      exact e
    · show upd H2 l.d _ a = _
      rw [upd_ne fun ea => ?_]
      subst ea
      rcases m with m | m | m | m
      · exact h3 (.inl m)
      · exact h3 (.inr (.inl m))
      · exact ho.1 m
      · exact ho.2 m
    · show upd H2 l.d _ a = _
      by_cases ea : a = l.d
      · subst ea; rw [upd_same]; exact h1.symm.trans e
      · rw [upd_ne ea]; exact l2.ex a u (by show upd H1 l.d _ a = _; rw [upd_ne ea]; exact e) n
    · show upd H1 l.d _ a ≠ none
      by_cases ea : a = l.d
      · subst ea; rw [upd_same]; simp
      · rw [upd_ne ea]; exact e
    · cases e : H0 l.d with
      | none => exact .inl rfl
      | some w =>
        refine .inr ?_
        rw [← h1, le.ex l.d w e fun z => h3 (.inr (.inr (.inl (le.pre.subset z))))]
theorem lk_endE {lk : Option Lk} (hk : LkOk B T β1 σ ρ H1 lk) (l2 : Le (fun a => a ∈ β1) β1 (lkH lk H1) β2 H2) (fr : ∀ a ∈ bs, lkH lk H1 a = none) : (∀ a u, Rd H2 a u → Plain u → Rd (unH lk H2) a u) ∧ (∀ a xs, H2 a = some (.tup xs) → unH lk H2 a = some (.tup xs)) ∧
    (∀ a, Ma B (Tp T bs) β2 σ ρ a → unH lk H2 a = H2 a) ∧ Le (fun a => a ∈ β1) β1 H1 β2 (unH lk H2) ∧ ∀ {H0 β0}, Le (fun a => a ∈ β0) β0 H0 β1 H1 → Unl H0 H2 (unH lk H2) := by
  obtain ⟨e1, e2, e3, e4, e5⟩ := lk_end hk (l2.leS (σ := σ) (ρ := ρ) fr)
  refine ⟨e1, e2, fun a m => e3 a ?_, ⟨fun a u e n => ?_, l2.pre, fun a e n => l2.out a ?_ n⟩, e5⟩
  · rcases m with m | (m | m) | m
    · exact .inl m
    · exact .inr (.inl m)
    · exact .inr (.inr (.inr m))
    · exact .inr (.inr (.inl m))
  · cases lk with
    | none => exact l2.ex a u e n
    | some l =>
      obtain ⟨h1, h2, h3⟩ := hk
      show upd H2 l.d _ a = _
      by_cases ea : a = l.d
      · subst ea; rw [upd_same]; exact h1.symm.trans e
      · rw [upd_ne ea]; exact l2.ex a u (by show upd H1 l.d _ a = _; rw [upd_ne ea]; exact e) n
  · cases lk with
    | none => exact e
    | some l =>
      show upd H1 l.d _ a ≠ none
      by_cases ea : a = l.d
      · subst ea; rw [upd_same]; simp
      · rw [upd_ne ea]; exact e
end

section
variable (K : PySem.W.Frag) (mg : Str → Option Value)
/-- J walks ds, as long as all but Q stands -/
def ItOk (Q : Addr → Prop) (β : List Addr) (M : Addr → Prop) (H : Hp) (J : It) (ds : List D) : Prop :=
  ∀ (i : Nat) β2 M2 H2, β <+: β2 → (∀ a u, H a = some u → ¬ Q a → H2 a = some u) → Tr M M2 H H2 → (∀ d, ds[i]? = some d → J.go i H2 ∧ ∀ x H3, J.yld i H2 x H3 → (∀ a u, H2 a = some u → H3 a = some u) ∧ Rp K mg β2 M2 H3 x d) ∧ (ds.length = i → J.stop i H2)
def Qf (r : Bool) (β : List Addr) (σ : St) (ρ : Lo) (a : Addr) : Prop := a ∈ β ∨ (r = false ∧ own σ ρ a)
def TIs (s : Src) : TI := fun σ H R => ∃ B T β ρ st ds r st', SR K mg B T β σ H ρ st ∧ s ρ st = some (ds, r, st') ∧ ∀ J H' β' as lk, Le (fun a => a ∈ β) β H β' H' → (∀ a ∈ as, H a = none) → SR K mg B (Tp T as) β' σ H' ρ st' → (∀ a ∈ as, ¬ Ma B T β' σ ρ a) → LkOk B (Tp T as) β' σ ρ H' lk →
  ItOk K mg (Qf r β' σ ρ) β' (Ma B (Tp T as) β' σ ρ) (lkH lk H') J ds → R J (lkH lk H')
/-- a target -/
def TTg (g : Tg) : TG := fun v σ H Q => ∃ B T β ρ st d ρ', SR K mg B T β σ H ρ st ∧ Rp K mg β (Ma B T β σ ρ) H v d ∧ g.f d ρ = some ρ' ∧ ∀ σ', SR K mg B T β σ' H ρ' st → LeS β σ ρ H β σ' ρ' H [] → (σ'.length = σ.length ∧ ∀ j, j ∉ g.is → σ'[j]? = σ[j]?) → Q σ' H
end
abbrev IX (X : Cx) (tg e : Expr) (s : Src) : Prop := PI X tg e (TIs X.K X.mg s)
abbrev GX (X : Cx) (tg : Expr) (g : Tg) : Prop := PG X tg (TTg X.K X.mg g)
theorem _root_.L2.PI.imp {X : Cx} {tg e : Expr} {t t' : TI} (h : PI X tg e t) (hi : ∀ σ H R, t' σ H R → t σ H R) : PI X tg e t' := ⟨fun pins s σ H R I w => h.run pins s σ H R I (hi _ _ _ w)⟩
theorem _root_.L2.PG.imp {X : Cx} {tg : Expr} {t t' : TG} (h : PG X tg t) (hi : ∀ v σ H Q, t' v σ H Q → t v σ H Q) : PG X tg t' := ⟨fun pins s σ H v u Q I r w => h.run pins s σ H v u Q I r (hi _ _ _ _ w)⟩

def forL (g : Tg) (f : S) : List D → S
  | [], ρ, st => some (.nx, ρ, st)
  | d :: ds, ρ, st => match g.f d ρ with
    | none => none
    | some ρ1 => match f ρ1 st with
      | none => none
      | some (.nx, ρ2, st2) => forL g f ds ρ2 st2
      | some (.ct, ρ2, st2) => forL g f ds ρ2 st2
      | some (.bk, ρ2, st2) => some (.nx, ρ2, st2)
      | some (.rt s, ρ2, st2) => some (.rt s, ρ2, st2)
def sFor (s : Src) (g : Tg) (f : S) : S := fun ρ st => match s ρ st with
  | some (ds, false, st1) => forL g f ds ρ st1
  | _ => none
def whileL (c : P) (f : S) : Nat → S
  | 0, _, _ => none
  | n + 1, ρ, st => match c ρ st with
    | none => none
    | some (x, st1) => match truth x with
      | none => none
      | some false => some (.nx, ρ, st1)
      | some true => match f ρ st1 with
        | none => none
        | some (.nx, ρ2, st2) => whileL c f n ρ2 st2
        | some (.ct, ρ2, st2) => whileL c f n ρ2 st2
        | some (.bk, ρ2, st2) => some (.nx, ρ2, st2)
        | some (.rt s, ρ2, st2) => some (.rt s, ρ2, st2)
def gName (i : Nat) : Tg where
  is := [i]
  f := fun d ρ => if i < ρ.length then some (ρ.set i (some (.sh d))) else none
  ok := fun d ρ ρ' e => by
    split at e
    · cases e
      refine ⟨by simp, fun j hj => ?_⟩
      have hne : i ≠ j := fun z => hj (by simp [z])
      rw [List.getElem?_set_ne hne]
    · cases e
def gList : List Tg → List D → Lo → Option Lo
  | [], [], ρ => some ρ
  | g :: gs, d :: ds, ρ => match g.f d ρ with
    | none => none
    | some ρ1 => gList gs ds ρ1
  | _, _, _ => none
theorem gList_ok : ∀ (gs : List Tg) (ds : List D) (ρ ρ' : Lo), gList gs ds ρ = some ρ' → ρ'.length = ρ.length ∧ ∀ j, j ∉ gs.flatMap Tg.is → ρ'[j]? = ρ[j]?
  | [], [], ρ, ρ', e => by cases e; exact ⟨rfl, fun _ _ => rfl⟩
  | [], _ :: _, _, _, e => by cases e
  | _ :: _, [], _, _, e => by cases e
  | g :: gs, d :: ds, ρ, ρ', e => by
    simp only [gList] at e
    split at e
    · cases e
    · next ρ1 e1 =>
      obtain ⟨h1, h2⟩ := g.ok _ _ _ e1
      obtain ⟨h3, h4⟩ := gList_ok gs ds ρ1 ρ' e
      refine ⟨h3.trans h1, fun j hj => ?_⟩
      rw [List.flatMap_cons, List.mem_append, not_or] at hj
      rw [h4 j hj.2, h2 j hj.1]
def gTup (gs : List Tg) : Tg where
  is := gs.flatMap Tg.is
  f := fun d ρ => match d with
    | .tup ds => gList gs ds ρ
    | _ => none
  ok := fun d ρ ρ' e => by
    split at e
    · exact gList_ok _ _ _ _ e
    · cases e

section
variable {K : PySem.W.Frag} {mg : Str → Option Value} {β β' : List Addr} {M M' B T T' : Addr → Prop} {H H' : Hp} {σ σ' : St} {ρ ρ' : Lo} {st st' : Sto} {a : Addr} {v : V} {d : D} {s : SV} {as : List Addr} {vs ws : List V} {svs : List SV} {ds : List D}
theorem LeS.tr {σ1 : St} {ρ1 : Lo} (h : LeS β σ ρ H β' σ1 ρ1 H' []) (s : SR K mg B T β σ H ρ st) : Tr (Ma B T β σ ρ) (Ma B T β' σ1 ρ1) H H' where
  rd := fun a u e _ n => by
    rcases e with e | ⟨o, e⟩
    · exact .inl (h.ex a u e fun z => n (.inr (.inr z)))
    · exact .inr ⟨o, h.ex a _ e fun z => n (.inr (.inr z))⟩
  tup := fun a xs e => h.ex a _ e fun z => (s.dom a (.inr (.inr z))).2 xs (.inl e)
  out := fun a e n z => by
    rcases z with z | z | z
    · exact n (.inl z)
    · exact n (.inr (.inl z))
    · exact (h.out a e fun z => n (.inr (.inr z))).1 z
theorem Le.trP (h : Le (fun a => a ∈ β) β H β' H') (s : SR K mg B T β σ H ρ st) : Tr (Ma B T β σ ρ) (Ma B T β' σ ρ) H H' := (h.leS (as := []) fun a m => absurd m (by simp)).tr s

/-! ### targets -/
theorem gname_of {i : Nat} {Q : St → Hp → Prop} (w : TTg K mg (gName i) v σ H Q) : L2.gName i v σ H Q := by
  obtain ⟨B, T, β, ρ, st, d, ρ', sr, r, e, q⟩ := w
  unfold gName at e
  simp only at e
  split at e
  · next hi =>
    cases e
    have p := Po.one sr r
    refine q _ (p.set rfl hi) (p.set_le hi (Le.refl fun a m => m) fun a m => absurd m (by simp)) ⟨by simp, fun j hj => ?_⟩
    have hne : i ≠ j := fun z => hj (by show j ∈ [i]; simp [z])
    rw [List.getElem?_set_ne hne]
  · cases e
/-- targets one after another -/
def TTgs (K : PySem.W.Frag) (mg : Str → Option Value) (gs : List Tg) : TGs := fun vs σ H Q => ∃ B T β ρ st ds ρ', SR K mg B T β σ H ρ st ∧ RpL K mg β (Ma B T β σ ρ) H vs ds ∧ gList gs ds ρ = some ρ' ∧
  ∀ σ', SR K mg B T β σ' H ρ' st → LeS β σ ρ H β σ' ρ' H [] → (σ'.length = σ.length ∧ ∀ j, j ∉ gs.flatMap Tg.is → σ'[j]? = σ[j]?) → Q σ' H
theorem gnil_of {Q : St → Hp → Prop} (w : TTgs K mg [] vs σ H Q) : gNil vs σ H Q := by
  obtain ⟨B, T, β, ρ, st, ds, ρ', sr, r, e, q⟩ := w
  cases r with
  | nil => cases e; exact ⟨rfl, q σ sr LeS.refl ⟨rfl, fun _ _ => rfl⟩⟩
  | cons _ _ => cases e
theorem gcons_of {g : Tg} {gs : List Tg} {Q : St → Hp → Prop} (w : TTgs K mg (g :: gs) vs σ H Q) : gCons (TTg K mg g) (TTgs K mg gs) vs σ H Q := by
  obtain ⟨B, T, β, ρ, st, ds, ρ', sr, r, e, q⟩ := w
  cases r with
  | nil => cases e
  | cons r1 r2 =>
    simp only [gList] at e
    split at e
    · cases e
    · next ρ1 e1 =>
      refine ⟨_, _, rfl, B, T, β, ρ, st, _, ρ1, sr, r1, e1, fun σ1 s1 l1 k1 => ⟨B, T, β, ρ1, st, _, ρ', s1, r2.tr (l1.tr sr) (List.prefix_refl _), e, fun σ2 s2 l2 k2 => q σ2 s2 (l1.trans l2) ⟨k2.1.trans k1.1, fun j hj => ?_⟩⟩⟩
      rw [List.flatMap_cons, List.mem_append, not_or] at hj
      rw [k2.2 j hj.2, k1.2 j hj.1]
theorem gtup_of {gs : List Tg} {n : Nat} {Q : St → Hp → Prop} (hn : gs.length = n) (w : TTg K mg (gTup gs) v σ H Q) : L2.gTup K n (TTgs K mg gs) v σ H Q := by
  obtain ⟨B, T, β, ρ, st, d, ρ', sr, r, e, q⟩ := w
  unfold gTup at e
  simp only at e
  split at e
  · next ds =>
    obtain ⟨a, vs, rfl, r1, r2⟩ := r.tup1
    refine ⟨a, vs, rfl, r1, ?_, B, T, β, ρ, st, ds, ρ', sr, r2, e, q⟩
    rw [r2.length, ← hn]
    have : ∀ (gs : List Tg) (ds : List D) (ρ ρ' : Lo), gList gs ds ρ = some ρ' → ds.length = gs.length := by
      intro gs
      induction gs with
      | nil => intro ds ρ ρ' e; cases ds with
        | nil => rfl
        | cons _ _ => cases e
      | cons g gs ih => intro ds ρ ρ' e; cases ds with
        | nil => cases e
        | cons d ds =>
          simp only [gList] at e
          split at e
          · cases e
          · simp [ih ds _ _ e]
    exact this gs ds ρ ρ' e
  · cases e
end
section
variable {X : Cx} {pos : Pos} {x : Str} {es : List Expr} {g : Tg} {gs : List Tg}
theorem gx_name (i : Nat) (hN : X.N.Nodup) (hi : X.N[i]? = some x := by rfl) (hx : Loc X.env.scope x := by first | exact Or.inl rfl | exact Or.inr rfl) (hf : X.fn x = true ∨ X.env.scope.names.lookup x = some .local := by first | exact .inl rfl | exact .inr rfl | assumption) :
    GX X (.Name x pos) (gName i) := (pg_name hN hi hx hf).imp fun _ _ _ _ w => gname_of w
abbrev GsX (X : Cx) (es : List Expr) (gs : List Tg) : Prop := PGs X es (TTgs X.K X.mg gs)
theorem _root_.L2.PGs.imp {X : Cx} {tg : List Expr} {t t' : TGs} (h : PGs X tg t) (hi : ∀ v σ H Q, t' v σ H Q → t v σ H Q) : PGs X tg t' := ⟨fun pins s σ H v u Q I r w => h.run pins s σ H v u Q I r (hi _ _ _ _ w)⟩
theorem gsx_nil : GsX X [] [] := pgs_nil.imp fun _ _ _ _ w => gnil_of w
theorem gsx_cons {e : Expr} (h1 : GX X e g) (h2 : GsX X es gs) (hs : (assignEach (e :: es) X.env).map (·.2) = assign e X.env :: (assignEach es X.env).map (·.2) := by rfl) : GsX X (e :: es) (g :: gs) := (pgs_cons h1 h2 hs).imp fun _ _ _ _ w => gcons_of w
theorem gx_tup {k : Nat} (hc : X.calm = true) (h : GsX X es gs) (hn : (assignEach es X.env).length = gs.length := by rfl) (hst : (assignEach es X.env).findIdx? (·.1) = none := by rfl) : GX X (.Tuple es k pos) (gTup gs) :=
  (pg_tup hc h hn hst).imp fun _ _ _ _ w => gtup_of rfl w
end

/-! ### for, while -/
section
variable {X : Cx} {tg iter c : Expr} {body : List Stmt} {s : Src} {g : Tg} {f : S} {p : P} {pos : Pos}
theorem for_of {K : PySem.W.Frag} {mg : Str → Option Value} {D : Ends} {σ : St} {H : Hp} (w : TSs K mg (sFor s g f) D σ H) : tUnl (tFor (TIs K mg s) (TTg K mg g) (TSs K mg f)) D σ H := by
  obtain ⟨B, T, β, ρ, st, fl, ρ', st', sr, e, q, r⟩ := w
  unfold sFor at e
  split at e
  · next ds st1 es =>
    refine ⟨B, T, β, ρ, st, ds, false, st1, sr, es, fun J H0 β1 as lk le1 fr1 s0 ho hk it => ?_⟩
    have l1 : LeS β σ ρ H β1 σ ρ H0 [] := le1.leS fun a m => absurd m (by simp)
    obtain ⟨ls1, ls2, ls3⟩ := lk_start hk
    have s1 := s0.heap ls1 ls2 ls3
    generalize hH1 : lkH lk H0 = H1 at s1 it ⊢
    -- the invariant: what is left to do
    refine ⟨fun i m σ2 H2 => ∃ β2 ρ2 st2, i + m = ds.length ∧ SR K mg B (Tp T as) β2 σ2 H2 ρ2 st2 ∧ LeS β1 σ ρ H1 β2 σ2 ρ2 H2 [] ∧ forL g f (ds.drop i) ρ2 st2 = some (fl, ρ', st'),
      ⟨ds.length, β1, ρ, st1, by omega, s1, LeS.refl, e⟩, ?_⟩
    rintro i m σ2 H2 ⟨β2, ρ2, st2, him, s2, l2, e2⟩
    have tr2 := l2.tr s1
    have q2 := it i β2 (Ma B (Tp T as) β2 σ2 ρ2) H2 l2.pre (fun a u e n => l2.ex a u e fun z => n (z.elim .inl fun z => .inr ⟨rfl, z⟩)) tr2
    have drop : ∀ {σ3 H3 β3 ρ3 st3}, SR K mg B (Tp T as) β3 σ3 H3 ρ3 st3 → SR K mg B T β3 σ3 H3 ρ3 st3 := fun h => h.weak (fun a z => .inl z) fun a z => .inl z
    have fin : ∀ {σ3 H3 β3 ρ3 st3}, LeS β1 σ ρ H1 β3 σ3 ρ3 H3 [] → SR K mg B (Tp T as) β3 σ3 H3 ρ3 st3 → Unl H H3 (unH lk H3) ∧ LeS β σ ρ H β3 σ3 ρ3 (unH lk H3) [] ∧ SR K mg B T β3 σ3 (unH lk H3) ρ3 st3 := fun l h => by
      rw [← hH1] at l
      obtain ⟨e1, e2, e3, e4, e5⟩ := lk_end hk l
      exact ⟨e5 le1, l1.trans e4, drop (h.heap e1 e2 fun a m => e3 a (by
        rcases m with m | m | m
        · exact .inl m
        · exact .inr (.inl m)
        · exact .inr (.inr (.inl m))))⟩
    by_cases hlt : i < ds.length
    · have hd : ds.drop i = ds[i] :: ds.drop (i + 1) := List.drop_eq_getElem_cons hlt
      rw [hd] at e2
      simp only [forL] at e2
      have hgo := q2.1 ds[i] (List.getElem?_eq_getElem hlt)
      split at e2
      · cases e2
      · next ρ3 eg =>
        refine .inr ⟨hgo.1, fun σ4 H4 => ∃ β4 ρ4 st4, SR K mg B (Tp T as) β4 σ4 H4 ρ4 st4 ∧ LeS β1 σ ρ H1 β4 σ4 ρ4 H4 [] ∧ forL g f (ds.drop (i + 1)) ρ4 st4 = some (fl, ρ', st'), fun σ4 H4 n4 => ?_, fun x H3 y => ?_⟩
        · obtain ⟨β4, ρ4, st4, s4, l4, e4⟩ := n4
          exact ⟨m - 1, by omega, β4, ρ4, st4, by omega, s4, l4, e4⟩
        · obtain ⟨ex3, r3⟩ := hgo.2 x H3 y
          have s3 : SR K mg B (Tp T as) β2 σ2 H3 ρ2 st2 := s2.grow ex3 fun a z => .inl z
          have l3 : LeS β1 σ ρ H1 β2 σ2 ρ2 H3 [] := l2.trans ⟨fun a u e _ => ex3 a u e, List.prefix_refl _, fun a _ n => ⟨n, by simp⟩⟩
          refine ⟨B, Tp T as, β2, ρ2, st2, ds[i], ρ3, s3, r3, eg, fun σ4 s4 l4 _ => ?_⟩
          have l34 := l3.trans l4
          -- the body
          split at e2
          · cases e2
          · next ρ5 st5 ef =>
            refine ⟨B, Tp T as, β2, ρ3, st2, .nx, ρ5, st5, s4, ef, fun σ6 H6 β6 l6 s6 => ⟨fun _ => ⟨β6, ρ5, st5, s6, l34.trans l6, e2⟩, fun z => Fl.noConfusion z, fun z => Fl.noConfusion z⟩, fun _ _ _ _ _ z => Fl.noConfusion z⟩
          · next ρ5 st5 ef =>
            refine ⟨B, Tp T as, β2, ρ3, st2, .ct, ρ5, st5, s4, ef, fun σ6 H6 β6 l6 s6 => ⟨fun z => Fl.noConfusion z, fun z => Fl.noConfusion z, fun _ => ⟨β6, ρ5, st5, s6, l34.trans l6, e2⟩⟩, fun _ _ _ _ _ z => Fl.noConfusion z⟩
          · next ρ5 st5 ef =>
            cases e2
            refine ⟨B, Tp T as, β2, ρ3, st2, .bk, ρ', st', s4, ef, fun σ6 H6 β6 l6 s6 => ⟨fun z => Fl.noConfusion z, fun _ => ?_, fun z => Fl.noConfusion z⟩, fun _ _ _ _ _ z => Fl.noConfusion z⟩
            obtain ⟨z1, z2, z3⟩ := fin (l34.trans l6) s6
            exact ⟨_, z1, (q σ6 _ β6 z2 z3).1 rfl⟩
          · next x5 ρ5 st5 ef =>
            cases e2
            refine ⟨B, Tp T as, β2, ρ3, st2, .rt x5, ρ', st', s4, ef, fun σ6 H6 β6 l6 s6 => ⟨fun z => Fl.noConfusion z, fun z => Fl.noConfusion z, fun z => Fl.noConfusion z⟩, fun x6 v H6 β6 bs z l6 p6 => ?_⟩
            cases z
            have l7 := l34.trans l6
            rw [← hH1] at l7
            obtain ⟨e1, e2, e3, e4, e5⟩ := lk_end hk l7
            have p6 := p6.heap e1 e2 fun a m => e3 a (by
              rcases m with m | (m | m) | m | ⟨i, d, e, _⟩
              · exact .inl m
              · exact .inr (.inl m)
              · exact .inr (.inr (.inr m))
              · exact .inr (.inr (.inl (.inl m)))
              · simp at e)
            refine ⟨_, e5 le1, r x5 v _ β6 bs rfl (l1.trans e4) ?_⟩
            have sub : ∀ a, Ma B (Tp T bs) β6 [] [] a → Ma B (Tp (Tp T as) bs) β6 [] [] a := fun a m => by
              rcases m with m | (m | m) | m
              · exact .inl m
              · exact .inr (.inl (.inl (.inl m)))
              · exact .inr (.inl (.inr m))
              · exact .inr (.inr m)
            refine ⟨p6.sr.weak (fun a z => .inl z) (fun a z => z.elim (fun z => .inl (.inl z)) .inr), p6.nd, fun a m z => p6.out a m ?_, RL.tr (Tr.sub sub) (List.prefix_refl _) (fun a _ n1 n2 => ⟨fun u z => z, n1, fun z => n2 (z.elim (fun z => .inl (.inl z)) .inr)⟩) p6.rl fun a _ u q => q⟩
            rcases z with z | z | z
            · exact .inl z
            · exact .inr (.inl (.inl z))
            · exact .inr (.inr z)
    · have hd : ds.drop i = [] := List.drop_eq_nil_of_le (by omega)
      rw [hd] at e2
      cases e2
      obtain ⟨z1, z2, z3⟩ := fin l2 s2
      exact .inl ⟨q2.2 (by omega), _, z1, (q σ2 _ β2 z2 z3).1 rfl⟩
  · cases e
theorem sx_for (hp : PassesOwn (model X.prog X.w) X.A X.env X.xe) (hc : X.calm = true) (hi : IX X tg iter s) (hg : GX X tg g) (hb : BX X body f) (hs : ∀ x, foldedSetIterable iter X.env x = pure x := by intro _; rfl) :
    SX X (.For tg iter body [] pos) (sFor s g f) := (ps_unl (ps_for hp hc hi hg hb hs)).imp fun _ _ _ w => for_of w
theorem while_of {K : PySem.W.Frag} {mg : Str → Option Value} {D : Ends} {σ : St} {H : Hp} {n : Nat} (w : TSs K mg (whileL p f n) D σ H) : tWhile (TTs K mg p) (TSs K mg f) D σ H := by
  obtain ⟨B, T, β, ρ, st, fl, ρ', st', sr, e, q, r⟩ := w
  refine ⟨fun m σ2 H2 => ∃ β2 ρ2 st2, SR K mg B T β2 σ2 H2 ρ2 st2 ∧ LeS β σ ρ H β2 σ2 ρ2 H2 [] ∧ whileL p f m ρ2 st2 = some (fl, ρ', st'), ⟨n, β, ρ, st, sr, LeS.refl, e⟩, ?_⟩
  rintro m σ2 H2 ⟨β2, ρ2, st2, s2, l2, e2⟩
  cases m with
  | zero => cases e2
  | succ m =>
    simp only [whileL] at e2
    split at e2
    · cases e2
    · next x st3 ec =>
      split at e2
      · cases e2
      · next et =>
        cases e2
        exact ⟨B, T, β2, _, st2, x, _, false, s2, ec, et, fun H3 β3 le3 s3 => iteF ((q σ2 H3 β3 (l2.trans (le3.leS fun a m => absurd m (by simp))) s3).1 rfl)⟩
      · next et =>
        refine ⟨B, T, β2, ρ2, st2, x, st3, true, s2, ec, et, fun H3 β3 le3 s3 => iteT ?_⟩
        have l3 := l2.trans (le3.leS (σ := σ2) (ρ := ρ2) (as := []) fun a m => absurd m (by simp))
        refine ⟨fun σ4 H4 => ∃ β4 ρ4 st4, SR K mg B T β4 σ4 H4 ρ4 st4 ∧ LeS β σ ρ H β4 σ4 ρ4 H4 [] ∧ whileL p f m ρ4 st4 = some (fl, ρ', st'), fun σ4 H4 n4 => ⟨m, by omega, n4⟩, ?_⟩
        split at e2
        · cases e2
        · next ρ5 st5 ef =>
          exact ⟨B, T, β3, ρ2, st3, .nx, ρ5, st5, s3, ef, fun σ6 H6 β6 l6 s6 => ⟨fun _ => ⟨β6, ρ5, st5, s6, l3.trans l6, e2⟩, fun z => Fl.noConfusion z, fun z => Fl.noConfusion z⟩, fun _ _ _ _ _ z => Fl.noConfusion z⟩
        · next ρ5 st5 ef =>
          exact ⟨B, T, β3, ρ2, st3, .ct, ρ5, st5, s3, ef, fun σ6 H6 β6 l6 s6 => ⟨fun z => Fl.noConfusion z, fun z => Fl.noConfusion z, fun _ => ⟨β6, ρ5, st5, s6, l3.trans l6, e2⟩⟩, fun _ _ _ _ _ z => Fl.noConfusion z⟩
        · next ρ5 st5 ef =>
          cases e2
          exact ⟨B, T, β3, ρ2, st3, .bk, _, _, s3, ef, fun σ6 H6 β6 l6 s6 => ⟨fun z => Fl.noConfusion z, fun _ => (q σ6 H6 β6 (l3.trans l6) s6).1 rfl, fun z => Fl.noConfusion z⟩, fun _ _ _ _ _ z => Fl.noConfusion z⟩
        · next x5 ρ5 st5 ef =>
          cases e2
          exact ⟨B, T, β3, ρ2, st3, .rt x5, _, _, s3, ef, fun σ6 H6 β6 l6 s6 => ⟨fun z => Fl.noConfusion z, fun z => Fl.noConfusion z, fun z => Fl.noConfusion z⟩, fun x6 v H6 β6 bs z l6 p6 => r x6 v H6 β6 bs z (l3.trans l6) p6⟩
theorem sx_while (n : Nat) (hp : PassesOwn (model X.prog X.w) X.A X.env X.xe) (hc : TX X c p) (hb : BX X body f) : SX X (.While c body [] pos) (whileL p f n) := (ps_while hp hc hb).imp fun _ _ _ w => while_of w
end
end PL

/-! PLFun: defs as pure functions, calls. -/
namespace PL
open PySem PySem.Spec L2

/-- a def of k parameters and n slots -/
def runF (k n : Nat) (b : S) : Op := fun args st => if args.length = k then
    match b (args.map some ++ List.replicate (n - args.length) none) st with
    | some (.rt s, _, st') => if noRo s = true then some (s, st') else none
    | some (.nx, _, st') => some (.sh .non, st')
    | _ => none
  else none
def spF (K : PySem.W.Frag) (mg : Str → Option Value) (g : Op) : Sp := fun vs H Q _ => Sim K mg g vs H Q
section
variable {K : PySem.W.Frag} {mg : Str → Option Value} {β β' : List Addr} {M M' B T T' : Addr → Prop} {H H' : Hp} {σ σ' : St} {ρ ρ' : Lo} {st st' : Sto} {a : Addr} {v : V} {d : D} {s : SV} {as : List Addr} {vs ws : List V} {svs : List SV} {ds : List D}
theorem RL.length : ∀ {vs svs as}, RL K mg β M T H vs svs as → vs.length = svs.length
  | _, _, _, .nil => rfl
  | _, _, _, .sh _ q => by simp [RL.length q]
  | _, _, _, .ro _ _ _ q => by simp [RL.length q]
  | _, _, _, .ow _ q => by simp [RL.length q]
theorem RL.at {i : Nat} : ∀ {vs svs as} {i : Nat} {s : SV}, RL K mg β M T H vs svs as → svs[i]? = some s → ∃ v, vs[i]? = some v ∧ (match s with
    | .sh d => Rp K mg β M H v d
    | .ro d => ∃ a, v = .ref a ∧ a ∉ β ∧ ¬ T a ∧ Roc K mg β M H a d
    | .ow d => ∃ a, v = .ref a ∧ a ∈ as ∧ Owc K mg β M H a d)
  | _, _, _, i, s, .nil, e => by simp at e
  | _, _, _, 0, s, .sh r _, e => by simp at e; subst e; exact ⟨_, rfl, r⟩
  | _, _, _, 0, s, .ro n1 n2 r _, e => by simp at e; subst e; exact ⟨_, rfl, _, rfl, n1, n2, r⟩
  | _, _, _, 0, s, .ow r _, e => by simp at e; subst e; exact ⟨_, rfl, _, rfl, List.mem_cons_self, r⟩
  | _, _, _, i + 1, s, .sh r q, e => by
    obtain ⟨v, h1, h2⟩ := RL.at (i := i) q (by simpa using e)
    exact ⟨v, by simpa using h1, h2⟩
  | _, _, _, i + 1, s, .ro _ _ r q, e => by
    obtain ⟨v, h1, h2⟩ := RL.at (i := i) q (by simpa using e)
    exact ⟨v, by simpa using h1, h2⟩
  | _, _, _, i + 1, s, .ow r q, e => by
    obtain ⟨v, h1, h2⟩ := RL.at (i := i) q (by simpa using e)
    refine ⟨v, by simpa using h1, ?_⟩
    cases s with
    | sh d => exact h2
    | ro d => exact h2
    | ow d =>
      obtain ⟨a, h3, h4, h5⟩ := h2
      exact ⟨a, h3, List.mem_cons_of_mem _ h4, h5⟩
theorem RL.sep : ∀ {vs svs as} {i j : Nat} {d d' : D} {a : Addr}, RL K mg β M T H vs svs as → as.Nodup → svs[i]? = some (.ow d) → vs[i]? = some (.ref a) → svs[j]? = some (.ow d') → vs[j]? = some (.ref a) → i = j
  | _, _, _, _, _, _, _, _, .nil, _, e, _, _, _ => by simp at e
  | _, _, _, i, j, d, d', a, .sh r q, nd, e1, e2, e3, e4 => by
    cases i with
    | zero => simp at e1
    | succ i => cases j with
      | zero => simp at e3
      | succ j => rw [RL.sep (i := i) (j := j) q nd (by simpa using e1) (by simpa using e2) (by simpa using e3) (by simpa using e4)]
  | _, _, _, i, j, d, d', a, .ro _ _ r q, nd, e1, e2, e3, e4 => by
    cases i with
    | zero => simp at e1
    | succ i => cases j with
      | zero => simp at e3
      | succ j => rw [RL.sep (i := i) (j := j) q nd (by simpa using e1) (by simpa using e2) (by simpa using e3) (by simpa using e4)]
  | _, _, _, i, j, d, d', a, .ow (a := b) r q, nd, e1, e2, e3, e4 => by
    have nd' := List.nodup_cons.mp nd
    have mem : ∀ {k : Nat} {d : D} {vs svs as}, RL K mg β M T H vs svs as → svs[k]? = some (.ow d) → vs[k]? = some (.ref a) → a ∈ as := fun q f1 f2 => by
      obtain ⟨v, g1, g2⟩ := RL.at (i := 0) q f1
      obtain ⟨a', g2, g3, _⟩ := g2
      rw [g1] at f2; cases f2; cases g2; exact g3
    cases i with
    | zero => cases j with
      | zero => rfl
      | succ j =>
        simp at e2; subst e2
        exact absurd (mem (k := j) q (by simpa using e3) (by simpa using e4)) nd'.1
    | succ i => cases j with
      | zero =>
        simp at e4; subst e4
        exact absurd (mem (k := i) q (by simpa using e1) (by simpa using e2)) nd'.1
      | succ j => rw [RL.sep (i := i) (j := j) q nd'.2 (by simpa using e1) (by simpa using e2) (by simpa using e3) (by simpa using e4)]
theorem pad_get {α : Type} {l : List α} {n i : Nat} {x : α} (h : (l.map some ++ List.replicate n none)[i]? = some (some x)) : l[i]? = some x := by
  rcases Nat.lt_or_ge i l.length with hl | hl
  · rw [List.getElem?_append_left (by simpa using hl), List.getElem?_map] at h
    cases e : l[i]? with
    | none => rw [e] at h; cases h
    | some y => rw [e] at h; cases h; rfl
  · rw [List.getElem?_append_right (by simpa using hl), List.getElem?_replicate] at h
    split at h <;> cases h
theorem get_pad {α : Type} {l : List α} {n i : Nat} {x : α} (h : l[i]? = some x) : (l.map some ++ List.replicate n none)[i]? = some (some x) := by
  have hl : i < l.length := by
    rcases Nat.lt_or_ge i l.length with hl | hl
    · exact hl
    · rw [List.getElem?_eq_none hl] at h; cases h
  rw [List.getElem?_append_left (by simpa using hl), List.getElem?_map, h]; rfl
/-- a callee's own state -/
theorem Po.enter (p : Po K mg B T β σ H ρ st vs svs as) (n : Nat) : SR K mg (fun a => B a ∨ T a ∨ own σ ρ a) (fun _ => False) β (vs.map some ++ List.replicate n none) H (svs.map some ++ List.replicate n none) st ∧
    ∀ a, own (vs.map some ++ List.replicate n none) (svs.map some ++ List.replicate n none) a → a ∈ as := by
  have ho : ∀ a, own (vs.map some ++ List.replicate n none) (svs.map some ++ List.replicate n none) a → a ∈ as := fun a ⟨i, d, e1, e2⟩ => by
    obtain ⟨v, g1, g2⟩ := RL.at (i := 0) p.rl (pad_get e1)
    rw [pad_get e2] at g1; cases g1
    obtain ⟨a', g2, g3, _⟩ := g2
    cases g2; exact g3
  have sub : ∀ a, Ma (fun a => B a ∨ T a ∨ own σ ρ a) (fun _ => False) β (vs.map some ++ List.replicate n none) (svs.map some ++ List.replicate n none) a → Ma B (Tp T as) β σ ρ a := fun a m => by
    rcases m with (m | m | m) | m | m | m
    · exact .inl m
    · exact .inr (.inl (.inl m))
    · exact .inr (.inr (.inr m))
    · exact m.elim
    · exact .inr (.inr (.inl m))
    · exact .inr (.inl (.inr (ho a m)))
  have t := Tr.sub (H := H) sub
  refine ⟨⟨by simp [RL.length p.rl], fun i d e => ?_, fun i d e => ?_, fun i d e => ?_, fun i j d d' a e1 e2 e3 e4 => RL.sep p.rl p.nd (pad_get e1) (pad_get e2) (pad_get e3) (pad_get e4), fun a o z => p.out a (ho a o) (.inr (.inr (.inl z))), fun a _ z => z, fun a o z => p.out a (ho a o) ?_, fun a _ z => z, fun a m z => ?_, p.sr.stl,
    fun n ob a e1 e2 => (p.sr.sto n ob a e1 e2).tr t (List.prefix_refl _) fun u q => q, p.sr.nd, fun a m => p.sr.dom a (sub a m)⟩, ho⟩
  · obtain ⟨v, g1, g2⟩ := RL.at (i := 0) p.rl (pad_get e)
    exact ⟨v, get_pad g1, Rp.tr t (List.prefix_refl _) g2⟩
  · obtain ⟨v, g1, a, g2, _, g3⟩ := RL.at (i := 0) p.rl (pad_get e)
    subst g2
    exact ⟨a, get_pad g1, Ct.tr t (List.prefix_refl _) g3 fun u _ q => q⟩
  · obtain ⟨v, g1, a, g2, n1, n2, g3⟩ := RL.at (i := 0) p.rl (pad_get e)
    subst g2
    exact ⟨a, get_pad g1, n1, fun o => n2 (.inr (ho a o)), fun z => z, Ct.tr t (List.prefix_refl _) g3 fun u _ q => q⟩
  · rcases z with z | z | z
    · exact .inl z
    · exact .inr (.inl z)
    · exact .inr (.inr (.inr z))
  · rcases z with z | z | z
    · exact p.sr.βB a m z
    · exact p.sr.βT a m (.inl z)
    · exact p.sr.ownβ a z m
/-- behind the callee -/
theorem Po.back (p : Po K mg B T β σ H ρ st vs svs as) {n : Nat} {bs : List Addr} (hr : noRo s = true) (l : LeS β (vs.map some ++ List.replicate n none) (svs.map some ++ List.replicate n none) H β' [] [] H' bs)
    (q : Po K mg (fun a => B a ∨ T a ∨ own σ ρ a) (fun _ => False) β' [] H' [] st' [v] [s] bs) : Le (fun a => a ∈ β ∨ a ∈ as) β H β' H' ∧ (∀ a ∈ bs, H a = none ∨ a ∈ as) ∧ Po K mg B T β' σ H' ρ st' [v] [s] bs := by
  obtain ⟨s0, ho⟩ := p.enter n
  have nMl : ∀ a, ¬ (a ∈ β ∨ a ∈ as) → ¬ Ml β (vs.map some ++ List.replicate n none) (svs.map some ++ List.replicate n none) a := fun a n z => z.elim (fun z => n (.inl z)) fun z => n (.inr (ho a z))
  have le : Le (fun a => a ∈ β ∨ a ∈ as) β H β' H' := ⟨fun a u e n => l.ex a u e (nMl a n), l.pre, fun a e n z => (l.out a e (nMl a n)).1 (.inl z)⟩
  have fr : ∀ a ∈ bs, H a = none ∨ a ∈ as := fun a m => by
    cases e : H a with
    | none => exact .inl rfl
    | some u =>
      refine .inr ?_
      by_cases z : a ∈ as
      · exact z
      · by_cases zb : a ∈ β
        · obtain ⟨t, rfl⟩ := l.pre
          exact absurd (.inr (.inr (.inl (List.mem_append_left _ zb)))) (q.out a m)
        · exact absurd m (l.out a (by rw [e]; simp) (nMl a fun z' => z'.elim zb z)).2
  have out : ∀ a ∈ bs, ¬ Ma B T β' σ ρ a := fun a m z => q.out a m (by
    rcases z with z | z | z | z
    · exact .inl (.inl z)
    · exact .inl (.inr (.inl z))
    · exact .inr (.inr (.inl z))
    · exact .inl (.inr (.inr z)))
  have hM : ∀ a, Ma B (Tp T bs) β' σ ρ a → Ma (fun a => B a ∨ T a ∨ own σ ρ a) (Tp (fun _ => False) bs) β' [] [] a := fun a z => by
    rcases z with z | (z | z) | z | z
    · exact .inl (.inl z)
    · exact .inl (.inr (.inl z))
    · exact .inr (.inl (.inr z))
    · exact .inr (.inr (.inl z))
    · exact .inl (.inr (.inr z))
  have n0 : ∀ a, ¬ own ([] : St) ([] : Lo) a := fun a ⟨i, d, e, _⟩ => by simp at e
  refine ⟨le, fr, ⟨p.sr.after (T' := Tp T bs) (B2 := fun a => B a ∨ T a ∨ own σ ρ a) (T2 := Tp (fun _ => False) bs) le (fun a z => z.imp id fun z => ⟨.inr z, fun z' => p.out a z (.inl z')⟩) (fun a z => ?_) (fun a z => ?_) (fun a m z => ?_) q.sr (fun a m => ?_), q.nd, out, ?_⟩⟩
  · rcases z with z | z
    · exact .inl (.inl z)
    · exact (fr a z).symm.imp .inr id
  · exact q.sr.dom a (hM a (.inr (.inl z)))
  · rcases z with z | z
    · exact q.sr.βB a m (.inr (.inl z))
    · exact q.sr.βT a m (.inr z)
  · rcases hM a m with z | z | z | z
    · exact .inl z
    · exact .inr (.inl z)
    · exact .inr (.inr z)
    · exact absurd z (n0 a)
  · have rl := q.rl
    cases rl with
    | sh r w => cases w; exact .sh (r.tr (Tr.sub hM) (List.prefix_refl _)) .nil
    | ow r w => cases w; exact .ow (Ct.tr (Tr.sub hM) (List.prefix_refl _) r fun u _ z => z) .nil
    | ro _ _ _ _ => cases hr
end
/-! ### a def -/
section
variable {P : Program} {w : World} {K : PySem.W.Frag} {mg : Str → Option Value} {base : Heap}
theorem spF_len {k n : Nat} {b : S} {vs : List V} {H : Hp} {Q : VK} {E : XK} (h : spF K mg (runF k n b) vs H Q E) : vs.length = k := by
  obtain ⟨B, T, β, σ, ρ, st, svs, as, sv, st', p, e, q⟩ := h
  unfold runF at e
  split at e
  · next hl => rw [RL.length p.rl]; exact hl
  · cases e
theorem body_of {k n : Nat} {b : S} {N : List Str} {vs : List V} {H : Hp} {Q : VK} {E : XK} (hn : N.length = n) (h : spF K mg (runF k n b) vs H Q E) :
    TSs K mg b { nx := fun _ H' => Q .non H', rt := Q } (start N vs) H := by
  have hl := spF_len h
  obtain ⟨B, T, β, σ, ρ, st, svs, as, sv, st', p, e, q⟩ := h
  have hvs := RL.length p.rl
  unfold runF at e
  rw [if_pos (by rw [← hvs]; exact hl)] at e
  subst hn
  rw [← hvs] at e
  obtain ⟨s0, ho⟩ := p.enter (N.length - vs.length)
  unfold L2.start
  split at e
  · next s ρ' st1 eb =>
    split at e
    · next hr =>
      cases e
      refine ⟨_, _, β, _, st, _, ρ', st', s0, eb, fun σ' H' β' l s' => ⟨fun z => Fl.noConfusion z, fun z => Fl.noConfusion z, fun z => Fl.noConfusion z⟩, fun s2 v H' β' bs z l p2 => ?_⟩
      cases z
      obtain ⟨le, fr, p3⟩ := p.back hr l p2
      exact q v H' β' bs le fr p3
    · cases e
  · next ρ' st1 eb =>
    cases e
    refine ⟨_, _, β, _, st, _, ρ', st', s0, eb, fun σ' H' β' l s' => ⟨fun _ => ?_, fun z => Fl.noConfusion z, fun z => Fl.noConfusion z⟩, fun s2 v H' β' bs z l p2 => Fl.noConfusion z⟩
    have n0 : ∀ a, ¬ own ([] : St) ([] : Lo) a := fun a ⟨i, d, e, _⟩ => by simp at e
    have l2 : LeS β (vs.map some ++ List.replicate (N.length - vs.length) none) (svs.map some ++ List.replicate (N.length - vs.length) none) H β' [] [] H' [] := ⟨l.ex, l.pre, fun a e n => ⟨fun z => z.elim (fun z => (l.out a e n).1 (.inl z)) fun z => n0 a z, by simp⟩⟩
    obtain ⟨le, fr, p3⟩ := p.back (s := .sh .non) (v := .non) rfl l2 (Po.one s'.leave .non)
    exact q _ H' β' [] le fr p3
  · cases e
/-- the def keeps its promise -/
theorem fx_of {x qual : Str} {st : Stmt} {f : Addr} {fd : FuncData} {N ps : List Str} {k n : Nat} {b : S} (F : Fun K x qual st f fd) (S : FnScope N ps (defScope st)) (hn : N.length = n)
    (hb : ∀ (cdv : Value) (A : Around) (outer : List Env) (s : Shared) (H : Hp) (E : XK), Room k (A.deeper (PyProof.Rows.envOfC qual (defScope st) s.heap.objs.size f cdv)) → BX (cxOf CX0 P w K mg base N qual (defScope st) f cdv A outer s H E).nox (defBody st) b) :
    FnOk P w K mg base CX0 (k + 1) f fd ps (spF K mg (runF ps.length n b)) :=
  F.ok S (fun _ _ _ _ h => spF_len h) fun cdv A outer s H vs Q E hr h => ⟨_, hb cdv A outer s H E hr, body_of hn h⟩
end
section
variable {X : Cx} {k : Nat} {f : Addr} {fd : FuncData} {ps : List Str} {x : Str} {p pos : Pos} {e : Expr} {es : List Expr} {ga : Ar} {g : Op}
theorem px_call {j : Nat} (F : FnOk X.prog X.w X.K X.mg X.base CX0 k f fd ps (spF X.K X.mg g)) (hr : Room j X.A) (hj : k ≤ j) (hg : Gl X x) (hm : X.mg x = some (.ref f)) (hk : PySem.W.keepIn X.K (.ref f) = true) (hb : Binds X.K fd ps [])
    (ha : AX X (e :: es) ga) (hdb : (x == ("__debug__" : Str)) = false := by decide) (he : starEach (e :: es) X.env = (false, eval e X.env) :: starEach es X.env := by rfl) (hpl : (backTo pos (starEach es X.env)).any (·.1) = false := by rfl) :
    PX X (.Call (.Name x p) (e :: es) [] pos) (pOp g ga) := (pe_call F (hr.mono hj) hg hm hk hb .nil pass0 ha hdb he hpl).imp fun σ H Q w =>
  TAr.mono (fun vs H1 h => by
    show spF X.K X.mg g (vs ++ []) H1 Q E0
    rw [List.append_nil]
    exact h) (sim_of w)
end
end PL

/-! PLComp: list comprehensions. -/
namespace PL
open PySem PySem.Spec L2

/-- the comprehension's own slots hold nothing -/
def clr (vs : List Nat) (ρ : Lo) : Bool := vs.all fun i => match ρ[i]? with
  | some (some _) => false
  | _ => true
def lcL (g : Tg) (c : Option P) (e : P) (ρ : Lo) : List D → Sto → Option (List D × Sto)
  | [], st => some ([], st)
  | d :: ds, st => match g.f d ρ with
    | none => none
    | some ρ1 => match (match c with
        | none => some (true, st)
        | some c => match c ρ1 st with
          | none => none
          | some (x, st1) => match truth x with
            | none => none
            | some b => some (b, st1)) with
      | none => none
      | some (false, st1) => lcL g c e ρ ds st1
      | some (true, st1) => match e ρ1 st1 with
        | none => none
        | some (s, st2) => match toSh s with
          | none => none
          | some y => match lcL g c e ρ ds st2 with
            | none => none
            | some (ys, st3) => some (y :: ys, st3)
/-- [e for g in s if c]; vs: the block's own slots -/
def pLc (s : Src) (vs : List Nat) (g : Tg) (c : Option P) (e : P) : P := fun ρ st => if clr vs ρ = true ∧ g.is.all (fun i => decide (i ∈ vs)) = true then
    match s ρ st with
    | none => none
    | some (ds, _, st1) => if ds.length ≤ 16777216 then (match lcL g c e ρ ds st1 with
      | none => none
      | some (ys, st2) => some (.ow (.lst ys), st2)) else none
  else none

section
variable {K : PySem.W.Frag} {mg : Str → Option Value} {β β' : List Addr} {M M' B T T' : Addr → Prop} {H H' : Hp} {σ σ' : St} {ρ ρ' : Lo} {st st' : Sto} {a : Addr} {v : V} {d : D} {s : SV} {as : List Addr} {vs ws : List V} {svs : List SV} {ds : List D} {is : List Nat}
theorem wipe_in {σ : St} {j : Nat} : ∀ {vs : List Nat}, j ∈ vs → (wipe σ vs)[j]? = if j < σ.length then some none else none
  | v :: vs, h => by
    unfold wipe
    by_cases e : v = j
    · subst e
      by_cases hl : v < σ.length
      · rw [if_pos hl, List.getElem?_set_self (by rw [wipe_length]; exact hl)]
      · rw [if_neg hl, List.getElem?_eq_none (by rw [List.length_set, wipe_length]; omega)]
    · rw [List.getElem?_set_ne e]
      rcases List.mem_cons.mp h with h | h
      · exact absurd h.symm e
      · exact wipe_in h
theorem wipe_eq {σ σ' : St} {vs : List Nat} (hl : σ'.length = σ.length) (h : ∀ j, j ∉ vs → σ'[j]? = σ[j]?) : wipe σ' vs = wipe σ vs := by
  apply List.ext_getElem?
  intro j
  by_cases hj : j ∈ vs
  · rw [wipe_in hj, wipe_in hj, hl]
  · rw [wipe_out hj, wipe_out hj, h j hj]
theorem clr_no {i : Nat} {s : SV} (h : clr is ρ = true) (hi : i ∈ is) : ρ[i]? ≠ some (some s) := fun e => by
  unfold clr at h
  have := List.all_eq_true.mp h i hi
  rw [e] at this
  cases this
/-- other slots, which the state says nothing of -/
theorem SR.back {σ2 : St} {ρ2 : Lo} (h : SR K mg B T β σ2 H ρ2 st) (hc : clr is ρ = true) (hl : σ.length = σ2.length) (hl2 : ρ.length = ρ2.length) (hs : ∀ j, j ∉ is → σ[j]? = σ2[j]?) (hr : ∀ j, j ∉ is → ρ[j]? = ρ2[j]?) : SR K mg B T β σ H ρ st ∧ ∀ a, own σ ρ a → own σ2 ρ2 a := by
  have o2 : ∀ a, own σ ρ a → own σ2 ρ2 a := fun a ⟨i, d, e1, e2⟩ => by
    have hi : i ∉ is := fun m => clr_no hc m e1
    exact ⟨i, d, (hr i hi).symm.trans e1, (hs i hi).symm.trans e2⟩
  have sub : ∀ a, Ma B T β σ ρ a → Ma B T β σ2 ρ2 a := fun a m => by
    rcases m with m | m | m | m
    · exact .inl m
    · exact .inr (.inl m)
    · exact .inr (.inr (.inl m))
    · exact .inr (.inr (.inr (o2 a m)))
  have t := Tr.sub (H := H) sub
  refine ⟨⟨by rw [hl, hl2]; exact h.len, fun i d e => ?_, fun i d e => ?_, fun i d e => ?_, fun i j d d' a e1 e2 e3 e4 => ?_, fun a o => h.ownβ a (o2 a o), fun a o => h.ownT a (o2 a o), fun a o => h.ownB a (o2 a o), h.βT, h.βB, h.stl, fun n ob a e1 e2 => (h.sto n ob a e1 e2).tr t (List.prefix_refl _) fun u q => q, h.nd, fun a m => h.dom a (sub a m)⟩, o2⟩
  · have hi : i ∉ is := fun m => clr_no hc m e
    obtain ⟨v, g1, g2⟩ := h.sh i d ((hr i hi).symm.trans e)
    exact ⟨v, (hs i hi).trans g1, g2.tr t (List.prefix_refl _)⟩
  · have hi : i ∉ is := fun m => clr_no hc m e
    obtain ⟨v, g1, g2⟩ := h.ow i d ((hr i hi).symm.trans e)
    exact ⟨v, (hs i hi).trans g1, Ct.tr t (List.prefix_refl _) g2 fun u _ q => q⟩
  · have hi : i ∉ is := fun m => clr_no hc m e
    obtain ⟨v, g1, n1, n2, n3, g2⟩ := h.ro i d ((hr i hi).symm.trans e)
    exact ⟨v, (hs i hi).trans g1, n1, fun o => n2 (o2 v o), n3, Ct.tr t (List.prefix_refl _) g2 fun u _ q => q⟩
  · have hi : i ∉ is := fun m => clr_no hc m e1
    have hj : j ∉ is := fun m => clr_no hc m e3
    exact h.sep i j d d' a ((hr i hi).symm.trans e1) ((hs i hi).symm.trans e2) ((hr j hj).symm.trans e3) ((hs j hj).symm.trans e4)
/-- a temporary list is written -/
theorem SR.wrT {D0 : Addr} {o o' : HO} (h : SR K mg B T β σ H ρ st) (hT : T D0) (hB : ¬ B D0) (hD : H D0 = some o) (ho : Plain o') (hn : ∀ xs, o' ≠ .tup xs) : SR K mg B T β σ (upd H D0 o') ρ st := by
  have nd : ∀ a, own σ ρ a → a ≠ D0 := fun a m e => by subst e; exact h.ownT a m hT
  have ndβ : ∀ a, a ∈ β → a ≠ D0 := fun a m e => by subst e; exact h.βT a m hT
  have nt : upd H D0 o' D0 ≠ none ∧ ∀ xs, ¬ Rd (upd H D0 o') D0 (.tup xs) := ⟨by rw [upd_same]; simp, fun xs z => by
    rcases z with z | ⟨o2, z⟩
    · rw [upd_same] at z; injection z with z; exact hn _ z
    · rw [upd_same] at z; injection z with z; subst z; exact ho.elim⟩
  have rdx : ∀ a u, a ≠ D0 → Rd H a u → Rd (upd H D0 o') a u := fun a u n e => by
    rcases e with e | ⟨o2, e⟩
    · exact .inl (by rw [upd_ne n]; exact e)
    · exact .inr ⟨o2, by rw [upd_ne n]; exact e⟩
  have ht : ∀ xs, ¬ Rd H D0 (.tup xs) := (h.dom D0 (.inr (.inl hT))).2
  have t : Tr (Ma B T β σ ρ) (Ma B T β σ ρ) H (upd H D0 o') := ⟨fun a u e _ n => rdx a u (fun z => by subst z; exact n (.inr (.inl hT))) e, fun a xs e => (by rw [upd_ne (fun z => by subst z; exact ht _ (.inl e))]; exact e), fun a _ n => n⟩
  refine h.move t (List.prefix_refl _) (fun a u m e => by rw [upd_ne (nd a m)]; exact e) (fun a e n1 n3 => ⟨fun u q => rdx a u (fun z => by subst z; exact n3 hT) q, n1, n3⟩) h.stl h.nd (fun n ob a e1 e2 => (h.sto n ob a e1 e2).tr t (List.prefix_refl _) fun u q => ?_) (fun a m => ?_) h.βT h.βB
  · rw [upd_ne (ndβ a (List.mem_of_getElem? e2))]; exact q
  · by_cases z : a = D0
    · subst z; exact nt
    · have d := h.dom a (by
        rcases m with m | m | m
        · exact .inl m
        · exact .inr (.inl m)
        · exact .inr (.inr (.inl m)))
      exact ex_notup (Q := True) d fun u e => by rw [upd_ne z]; exact e
end

section
variable {K : PySem.W.Frag} {mg : Str → Option Value}
def ttO (K : PySem.W.Frag) (mg : Str → Option Value) : Option P → TT
  | none => tYes
  | some c => TTs K mg c
theorem rd_up {H : Hp} {a D0 : Addr} {o u : HO} (n : a ≠ D0) (e : Rd H a u) : Rd (upd H D0 o) a u := by
  rcases e with e | ⟨o2, e⟩
  · exact .inl (by rw [upd_ne n]; exact e)
  · exact .inr ⟨o2, by rw [upd_ne n]; exact e⟩
theorem ex_rd {H H' : Hp} {a : Addr} {u : HO} (h : ∀ u, H a = some u → H' a = some u) (e : Rd H a u) : Rd H' a u := by
  rcases e with e | ⟨o2, e⟩
  · exact .inl (h _ e)
  · exact .inr ⟨o2, h _ e⟩
theorem lc_of {s : Src} {vs : List Nat} {g : Tg} {c : Option P} {e : P} {σ : St} {H : Hp} {Q : VK} (w : TP K mg (pLc s vs g c e) σ H Q) : tUnlE (tLc (TIs K mg s) (TTg K mg g) (ttO K mg c) (TP K mg e) vs) σ H Q := by
  obtain ⟨B, T, β, ρ, st, sv, st', sr, eq, q⟩ := w
  unfold pLc at eq
  split at eq
  case isFalse => cases eq
  case isTrue hcl =>
  obtain ⟨hclr, hgis⟩ := hcl
  have hgs : ∀ i ∈ g.is, i ∈ vs := fun i hi => of_decide_eq_true (List.all_eq_true.mp hgis i hi)
  split at eq
  · cases eq
  next ds r st1 es =>
  split at eq
  case isFalse => cases eq
  case isTrue hlen =>
  split at eq
  · cases eq
  next ys st2 el =>
  cases eq
  refine ⟨B, T, β, ρ, st, ds, r, st1, sr, es, fun J H0 β1 as lk le1 fr1 s0 out1 hk it => ?_⟩
  obtain ⟨ls1, ls2, ls3⟩ := lk_start hk
  have s1 := s0.heap ls1 ls2 ls3
  generalize hH1 : lkH lk H0 = H1 at s1 it ⊢
  intro D0 hD
  have hB : ¬ B D0 := fun z => (s1.dom D0 (.inl z)).1 hD
  have hT0 : ¬ Tp T as D0 := fun z => (s1.dom D0 (.inr (.inl z))).1 hD
  have hDβ : D0 ∉ β1 := fun z => (s1.dom D0 (.inr (.inr (.inl z)))).1 hD
  have hT2 : ∀ a, Tp (Tp T as) [D0] a ↔ (Tp T as a ∨ a = D0) := fun a => by simp [Tp]
  -- the invariant
  let W : Nat → Hp → Prop := fun i H2 => ∃ β2 st3 accV accD rest, SR K mg B (Tp (Tp T as) [D0]) β2 σ H2 ρ st3 ∧ Le (fun a => a ∈ β1) β1 H1 β2 H2 ∧ H2 D0 = some (.lst accV) ∧ RpL K mg β2 (Ma B (Tp (Tp T as) [D0]) β2 σ ρ) H2 accV accD ∧ accV.length ≤ i ∧
    lcL g c e ρ (ds.drop i) st3 = some (rest, st') ∧ accD ++ rest = ys
  refine ⟨fun i m H2 => i + m = ds.length ∧ W i H2, ⟨ds.length, by omega, β1, st1, [], [], ys, ?_, up_le hD fun a m => m, upd_same, .nil, Nat.le_refl _, by simpa using el, rfl⟩, ?_⟩
  · refine s1.grow (up_ex hD) fun a z => ?_
    rcases (hT2 a).mp z with z | z
    · exact .inl z
    · subst z
      refine .inr ⟨hD, by rw [upd_same]; simp, fun xs z => ?_⟩
      rcases z with z | ⟨o2, z⟩
      · rw [upd_same] at z; cases z
      · rw [upd_same] at z; cases z
  rintro i m H2 ⟨him, β2, st3, accV, accD, rest, s2, le2, hD2, rp2, hacc, el2, eys⟩
  have tr2 : Tr (Ma B (Tp T as) β1 σ ρ) (Ma B (Tp (Tp T as) [D0]) β2 σ ρ) H1 H2 := le2.tr (fun a z => .inr (.inr (.inl z))) (fun a m => (s1.dom a m).2) fun a e n n' z => by
    rcases z with z | z | z | z
    · exact n (.inl z)
    · rcases (hT2 a).mp z with z | z
      · exact n (.inr (.inl z))
      · subst z; exact e hD
    · exact n' z
    · exact n (.inr (.inr (.inr z)))
  have q2 := it i β2 _ H2 le2.pre (fun a u e n => le2.ex a u e fun z => n (.inl z)) tr2
  by_cases hlt : i < ds.length
  · have hd : ds.drop i = ds[i] :: ds.drop (i + 1) := List.drop_eq_getElem_cons hlt
    rw [hd] at el2
    simp only [lcL] at el2
    have hgo := q2.1 ds[i] (List.getElem?_eq_getElem hlt)
    split at el2
    · cases el2
    next ρ1 eg =>
    refine .inr ⟨hgo.1, W (i + 1), fun H4 w4 => ⟨m - 1, by omega, by omega, w4⟩, fun x H3 y => ?_⟩
    obtain ⟨ex3, r3⟩ := hgo.2 x H3 y
    have s3 := s2.grow (T' := Tp (Tp T as) [D0]) ex3 fun a z => .inl z
    obtain ⟨sw, ow⟩ := s3.back (σ := wipe σ vs) (ρ := ρ) (is := vs) hclr (wipe_length _ _) rfl (fun j hj => wipe_out hj) fun _ _ => rfl
    have subw : ∀ a, Ma B (Tp (Tp T as) [D0]) β2 (wipe σ vs) ρ a → Ma B (Tp (Tp T as) [D0]) β2 σ ρ a := fun a m => by
      rcases m with m | m | m | m
      · exact .inl m
      · exact .inr (.inl m)
      · exact .inr (.inr (.inl m))
      · exact .inr (.inr (.inr (ow a m)))
    refine ⟨B, Tp (Tp T as) [D0], β2, ρ, st3, ds[i], ρ1, sw, r3.tr (Tr.sub subw) (List.prefix_refl _), eg, fun σ4 s4 l4 k4 => ?_⟩
    have kσ : ∀ j, j ∉ vs → σ4[j]? = σ[j]? := fun j hj => by rw [k4.2 j fun z => hj (hgs j z), wipe_out hj]
    have lσ : σ4.length = σ.length := by rw [k4.1, wipe_length]
    obtain ⟨lρ, kρ⟩ := g.ok _ _ _ eg
    refine ⟨wipe_eq lσ kσ, ?_⟩
    have le3 : Le (fun a => a ∈ β1) β1 H1 β2 H3 := ⟨fun a u e n => ex3 a u (le2.ex a u e n), le2.pre, le2.out⟩
    have hD3 : H3 D0 = some (.lst accV) := ex3 _ _ hD2
    have nDβ2 : D0 ∉ β2 := fun z => s2.βT D0 z ((hT2 D0).mpr (.inr rfl))
    -- what a state behind the tests and the element becomes
    have backTo : ∀ {β6 H6 st6}, SR K mg B (Tp (Tp T as) [D0]) β6 σ4 H6 ρ1 st6 → SR K mg B (Tp (Tp T as) [D0]) β6 σ H6 ρ st6 ∧ ∀ a, own σ ρ a → own σ4 ρ1 a := fun h =>
      h.back (σ := σ) (ρ := ρ) (is := vs) hclr lσ.symm lρ.symm (fun j hj => (kσ j hj).symm) fun j hj => (kρ j fun z => hj (hgs j z)).symm
    have carry : ∀ {β6 H6}, Le (fun a => a ∈ β2) β2 H3 β6 H6 → RpL K mg β6 (Ma B (Tp (Tp T as) [D0]) β6 σ ρ) H6 accV accD := fun {β6 H6} l => by
      refine RpL.tr ⟨fun a u e _ n => ?_, fun a xs e => ?_, fun a e n z => ?_⟩ l.pre rp2
      · exact ex_rd (fun u e => l.ex a u (ex3 a u e) fun z => n (.inr (.inr (.inl z)))) e
      · exact l.ex a _ (ex3 a _ e) fun z => (s2.dom a (.inr (.inr (.inl z)))).2 xs (.inl e)
      · rcases z with z | z | z | z
        · exact n (.inl z)
        · exact n (.inr (.inl z))
        · cases e' : H2 a with
          | none => exact e e'
          | some u => exact l.out a (by rw [ex3 a u e']; simp) (fun z => n (.inr (.inr (.inl z)))) z
        · exact n (.inr (.inr (.inr z)))
    have elem : ∀ st5 H5 β5, Le (fun a => a ∈ β2) β2 H3 β5 H5 → SR K mg B (Tp (Tp T as) [D0]) β5 σ4 H5 ρ1 st5 → (match e ρ1 st5 with
        | none => none
        | some (s, st2) => match toSh s with
          | none => none
          | some y => match lcL g c e ρ (ds.drop (i + 1)) st2 with
            | none => none
            | some (ys, st3) => some (y :: ys, st3)) = some (rest, st') → TP K mg e σ4 H5 fun y H4 => ∃ acc, H4 D0 = some (.lst acc) ∧ acc.length < sizeLine ∧ W (i + 1) (upd H4 D0 (.lst (acc ++ [y]))) := fun st5 H5 β5 le5 s5 ee => by
      split at ee
      · cases ee
      next s6 st6 e6 =>
      split at ee
      · cases ee
      next yd ey =>
      split at ee
      · cases ee
      next ys' st7 e7 =>
      cases ee
      refine ⟨B, _, β5, ρ1, st5, s6, st6, s5, e6, fun y H6 β6 as6 le6 fr6 p6 => ?_⟩
      have le56 : Le (fun a => a ∈ β2) β2 H3 β6 H6 := le_chain le5 le6
      have hD6 : H6 D0 = some (.lst accV) := le56.ex _ _ hD3 nDβ2
      refine ⟨accV, hD6, by rw [sizeLine_eq]; omega, ?_⟩
      have d6 := p6.drop
      have w6 := d6.wrT (D0 := D0) (o' := .lst (accV ++ [y])) ((hT2 D0).mpr (.inr rfl)) hB hD6 trivial (fun xs z => by cases z)
      obtain ⟨b6, o6⟩ := backTo w6
      have trD : Tr (Ma B (Tp (Tp T as) [D0]) β6 σ ρ) (Ma B (Tp (Tp T as) [D0]) β6 σ ρ) H6 (upd H6 D0 (.lst (accV ++ [y]))) := ⟨fun a u e _ n => rd_up (fun z => by subst z; exact n (.inr (.inl ((hT2 _).mpr (.inr rfl))))) e, fun a xs e => (by
        rw [upd_ne (fun z => by
          subst z
          exact (d6.dom _ (.inr (.inl ((hT2 _).mpr (.inr rfl))))).2 xs (.inl e))]
        exact e), fun a _ n => n⟩
      refine ⟨β6, st6, accV ++ [y], accD ++ [yd], ys', b6, ⟨fun a u e n => ?_, le3.pre.trans le56.pre, fun a e n => ?_⟩, upd_same, RpL.app ((carry le56).tr trD (List.prefix_refl _)) ?_, by simp; omega, e7, by rw [← eys]; simp⟩
      · rw [upd_ne (fun z => by subst z; rw [hD] at e; cases e)]
        exact le56.ex a u (le3.ex a u e n) (le3.out a (by rw [e]; simp) n)
      · cases e' : H1 a with
        | none => exact absurd e' e
        | some u => exact le56.out a (by rw [le3.ex a u e' n]; simp) (le3.out a e n)
      · have sub4 : ∀ a, Ma B (Tp (Tp T as) [D0]) β6 σ ρ a → Ma B (Tp (Tp T as) [D0]) β6 σ4 ρ1 a := fun a m => by
          rcases m with m | m | m | m
          · exact .inl m
          · exact .inr (.inl m)
          · exact .inr (.inr (.inl m))
          · exact .inr (.inr (.inr (o6 a m)))
        have ry := p6.shs (ds := [yd]) (by simp [toShs, ey])
        exact (ry.tr (Tr.sub sub4) (List.prefix_refl _)).tr trD (List.prefix_refl _)
    have skip : ∀ st5 H5 β5, Le (fun a => a ∈ β2) β2 H3 β5 H5 → SR K mg B (Tp (Tp T as) [D0]) β5 σ4 H5 ρ1 st5 → lcL g c e ρ (ds.drop (i + 1)) st5 = some (rest, st') → W (i + 1) H5 := fun st5 H5 β5 le5 s5 ee => by
      obtain ⟨b5, o5⟩ := backTo s5
      refine ⟨β5, st5, accV, accD, rest, b5, ⟨fun a u e n => le5.ex a u (le3.ex a u e n) (le3.out a (by rw [e]; simp) n), le3.pre.trans le5.pre, fun a e n => ?_⟩, le5.ex _ _ hD3 nDβ2, carry le5, by omega, ee, eys⟩
      cases e' : H1 a with
      | none => exact absurd e' e
      | some u => exact le5.out a (by rw [le3.ex a u e' n]; simp) (le3.out a e n)
    cases c with
    | none =>
      simp only at el2
      have z := elem st3 H3 β2 (Le.refl fun a m => m) s4 el2
      exact iteT (B := W (i + 1) H3) z
    | some c =>
      simp only at el2
      split at el2
      · cases el2
      · next st5 ec =>
        split at ec
        · cases ec
        · next x5 st6 ec2 =>
          split at ec
          · cases ec
          · next b et =>
            cases ec
            exact ⟨B, _, β2, ρ1, st3, x5, _, false, s4, ec2, et, fun H5 β5 le5 s5 => iteF (skip _ H5 β5 le5 s5 el2)⟩
      · next st5 ec =>
        split at ec
        · cases ec
        · next x5 st6 ec2 =>
          split at ec
          · cases ec
          · next b et =>
            cases ec
            exact ⟨B, _, β2, ρ1, st3, x5, _, true, s4, ec2, et, fun H5 β5 le5 s5 => iteT (elem _ H5 β5 le5 s5 el2)⟩
  · have hd : ds.drop i = [] := List.drop_eq_nil_of_le (by omega)
    rw [hd] at el2
    cases el2
    rw [List.append_nil] at eys
    subst eys
    have P2 : Po K mg B (Tp T as) β2 σ H2 ρ st' [.ref D0] [.ow (.lst accD)] [D0] := ⟨s2, by simp, fun a m z => ?_, .ow (.inl ⟨accV, accD, rfl, hD2, rp2⟩) .nil⟩
    rw [← hH1] at le2
    obtain ⟨e1, e2, e3, e4, e5⟩ := lk_endE (bs := [D0]) hk le2 fun a m => by
      have ea : a = D0 := by simpa using m
      subst ea; rw [hH1]; exact hD
    have hD0 : H0 D0 = none := by
      rw [← hH1] at hD
      cases lk with
      | none => exact hD
      | some l =>
        have hD : upd H0 l.d _ D0 = none := hD
        by_cases ea : D0 = l.d
        · subst ea; rw [upd_same] at hD; cases hD
        · rw [upd_ne ea] at hD; exact hD
    have P3 := P2.heap e1 e2 e3
    refine .inl ⟨q2.2 (by omega), unH lk H2, e5 le1, q (.ref D0) _ β2 [D0] ⟨fun a u e n => ?_, le1.pre.trans e4.pre, fun a e n => ?_⟩ (fun a m => ?_) ⟨P3.sr.weak (fun a z => .inl z) fun a z => ?_, by simp, fun a m z => ?_, RL.tr (Tr.sub fun a m => ?_) (List.prefix_refl _) (fun a _ n1 n2 => ⟨fun u z => z, n1, fun z => n2 ?_⟩) P3.rl fun a _ u z => z⟩⟩
    · exact e4.ex a u (le1.ex a u e n) (le1.out a (by rw [e]; simp) n)
    · cases e' : H a with
      | none => exact absurd e' e
      | some u => exact e4.out a (by rw [le1.ex a u e' n]; simp) (le1.out a e n)
    · have ea : a = D0 := by simpa using m
      subst ea
      exact pos_mem (SR.βne sr) le1 (SR.βne s0) hD0
    · rcases z with z | z
      · exact .inl (.inl z)
      · exact .inr z
    · have ea : a = D0 := by simpa using m
      subst ea
      rcases z with z | z | z | z
      · exact hB z
      · exact hT0 (.inl z)
      · exact s2.βT a z ((hT2 a).mpr (.inr rfl))
      · exact s2.ownT a z ((hT2 a).mpr (.inr rfl))
    · rcases m with m | (m | m) | m
      · exact .inl m
      · exact .inr (.inl (.inl (.inl m)))
      · exact .inr (.inl (.inr m))
      · exact .inr (.inr m)
    · rcases z with z | z
      · exact .inl (.inl z)
      · exact .inr z
    · have ea : a = D0 := by simpa using m
      subst ea
      rcases z with z | z | z | z
      · exact hB z
      · exact hT0 z
      · exact s2.βT a z ((hT2 a).mpr (.inr rfl))
      · exact s2.ownT a z ((hT2 a).mpr (.inr rfl))
end
section
variable {X : Cx} {elt tg iter c : Expr} {scope : Scope} {own : List (Str × Nat)} {pos : Pos} {s : Src} {g : Tg} {p q : P}
/-- [elt for tg in iter] -/
theorem px_lc0 (hc : X.calm = true) (hN : X.N.Nodup) (hi : IX X tg iter s) (ok : BlkOk X.N X.env.scope scope own) (hg : ∀ (s : Shared) (H : Hp) (C : Addr) (cl : List (Str × Addr)) (fp : List Addr), GX (X.blk s H scope (compEnvC scope cl C X.env) fp) tg g)
    (he : ∀ (s : Shared) (H : Hp) (C : Addr) (cl : List (Str × Addr)) (fp : List Addr), PX (X.blk s H scope (compEnvC scope cl C X.env) fp) elt p) (hs : ∀ x, foldedSetIterable iter X.env x = pure x := by intro _; rfl) :
    PX X (.ListComp elt [⟨tg, iter, [], 0⟩] scope pos) (pLc s (own.map (·.2)) g none p) := (pe_unl (pe_lc hc hN hi ok hg (fun _ _ _ _ _ => pts_nil) he hs)).imp fun _ _ _ w => lc_of w
/-- [elt for tg in iter if c] -/
theorem px_lc1 (hc : X.calm = true) (hN : X.N.Nodup) (hi : IX X tg iter s) (ok : BlkOk X.N X.env.scope scope own) (hg : ∀ (s : Shared) (H : Hp) (C : Addr) (cl : List (Str × Addr)) (fp : List Addr), GX (X.blk s H scope (compEnvC scope cl C X.env) fp) tg g)
    (ht : ∀ (s : Shared) (H : Hp) (C : Addr) (cl : List (Str × Addr)) (fp : List Addr), TX (X.blk s H scope (compEnvC scope cl C X.env) fp) c q)
    (he : ∀ (s : Shared) (H : Hp) (C : Addr) (cl : List (Str × Addr)) (fp : List Addr), PX (X.blk s H scope (compEnvC scope cl C X.env) fp) elt p) (hs : ∀ x, foldedSetIterable iter X.env x = pure x := by intro _; rfl) :
    PX X (.ListComp elt [⟨tg, iter, [c], 0⟩] scope pos) (pLc s (own.map (·.2)) g (some q) p) := (pe_unl (pe_lc hc hN hi ok hg (fun s H C cl fp => pts_one (ht s H C cl fp)) he hs)).imp fun _ _ _ w => lc_of w
end
end PL

/-! PLEq: data as PyData; ==, in. -/
namespace PL
open PySem PySem.Spec L2

mutual
/-- none, bools, ints, texts, tuples and lists of such, nested at most n deep -/
def okN : Nat → D → Bool
  | _, .non => true
  | _, .bl _ => true
  | _, .int _ => true
  | _, .str x => x.cps.all (· < 0x110000)
  | n + 1, .tup xs => okNL n xs
  | n + 1, .lst xs => okNL n xs
  | _, _ => false
def okNL : Nat → List D → Bool
  | _, [] => true
  | n, x :: xs => okN n x && okNL n xs
end
mutual
def pd : D → PyData
  | .non => .none
  | .bl b => .bool b
  | .int i => .int i
  | .str x => .str x
  | .tup xs => .tuple (pdL xs)
  | .lst xs => .list (pdL xs)
  | _ => .none
def pdL : List D → List PyData
  | [] => []
  | x :: xs => pd x :: pdL xs
end
mutual
def eqv : D → D → Bool
  | .non, .non => true
  | .bl a, .bl b => a == b
  | .bl a, .int j => (if a then 1 else 0) == j
  | .int i, .bl b => i == (if b then 1 else 0)
  | .int i, .int j => i == j
  | .str x, .str y => x == y
  | .lst xs, .lst ys => eqvL xs ys
  | .tup xs, .tup ys => eqvL xs ys
  | _, _ => false
def eqvL : List D → List D → Bool
  | [], [] => true
  | x :: xs, y :: ys => eqv x y && eqvL xs ys
  | [], _ :: _ => false
  | _ :: _, [] => false
end
theorem okNL_iff {n : Nat} : ∀ {xs : List D}, okNL n xs = xs.all (okN n)
  | [] => rfl
  | x :: xs => by simp [okNL, okNL_iff (xs := xs)]
theorem pdL_eq : ∀ xs : List D, pdL xs = xs.map pd
  | [] => rfl
  | x :: xs => by simp [pdL, pdL_eq xs]
mutual
theorem pd_depth : ∀ (n : Nat) (d : D), okN n d = true → (pd d).depth ≤ n
  | _, .non, _ => by simp [pd, PyData.depth]
  | _, .bl _, _ => by simp [pd, PyData.depth]
  | _, .int _, _ => by simp [pd, PyData.depth]
  | _, .str _, _ => by simp [pd, PyData.depth]
  | n + 1, .tup xs, h => by
    simp only [okN] at h
    simp only [pd, PyData.depth]
    have := pdL_depth n xs h
    omega
  | n + 1, .lst xs, h => by
    simp only [okN] at h
    simp only [pd, PyData.depth]
    have := pdL_depth n xs h
    omega
  | 0, .tup xs, h => by simp [okN] at h
  | 0, .lst xs, h => by simp [okN] at h
  | n, .dk _, h => by cases n <;> simp [okN] at h
  | n, .dt _, h => by cases n <;> simp [okN] at h
  | n, .obj _, h => by cases n <;> simp [okN] at h
  | n, .fn _, h => by cases n <;> simp [okN] at h
theorem pdL_depth : ∀ (n : Nat) (xs : List D), okNL n xs = true → PyData.depthAll (pdL xs) ≤ n
  | _, [], _ => by simp [pdL, PyData.depthAll]
  | n, x :: xs, h => by
    simp only [okNL, Bool.and_eq_true] at h
    simp only [pdL, PyData.depthAll]
    have h1 := pd_depth n x h.1
    have h2 := pdL_depth n xs h.2
    omega
end
mutual
theorem pd_lay : ∀ (n : Nat) (d : D), okN n d = true → (pd d).canLay0 = true
  | _, .non, _ => by simp [pd, PyData.canLay0]
  | _, .bl _, _ => by simp [pd, PyData.canLay0]
  | _, .int _, _ => by simp [pd, PyData.canLay0]
  | n, .str _, h => by cases n <;> (simp only [okN] at h; simp only [pd, PyData.canLay0]; exact h)
  | n + 1, .tup xs, h => by
    simp only [okN] at h
    simp only [pd, PyData.canLay0]
    exact pdL_lay n xs h
  | n + 1, .lst xs, h => by
    simp only [okN] at h
    simp only [pd, PyData.canLay0]
    exact pdL_lay n xs h
  | 0, .tup xs, h => by simp [okN] at h
  | 0, .lst xs, h => by simp [okN] at h
  | n, .dk _, h => by cases n <;> simp [okN] at h
  | n, .dt _, h => by cases n <;> simp [okN] at h
  | n, .obj _, h => by cases n <;> simp [okN] at h
  | n, .fn _, h => by cases n <;> simp [okN] at h
theorem pdL_lay : ∀ (n : Nat) (xs : List D), okNL n xs = true → PyData.canLayAll0 (pdL xs) = true
  | _, [], _ => by simp [pdL, PyData.canLayAll0]
  | n, x :: xs, h => by
    simp only [okNL, Bool.and_eq_true] at h
    simp only [pdL, PyData.canLayAll0, Bool.and_eq_true]
    exact ⟨pd_lay n x h.1, pdL_lay n xs h.2⟩
end
theorem pd_shaped {d : D} (h : okN 60 d = true) : SeqAt.shaped (pd d) = true := by
  unfold SeqAt.shaped
  rw [Bool.and_eq_true]
  exact ⟨pd_lay 60 d h, decide_eq_true (by have := pd_depth 60 d h; omega)⟩
mutual
theorem pd_eqv : ∀ (n m : Nat) (x y : D), okN n x = true → okN m y = true → PyData.eqv (pd x) (pd y) = eqv x y
  | n, m, .tup xs, .tup ys, h, k => by
    cases n <;> cases m <;> simp only [okN] at h k <;> first | cases h | cases k | skip
    simp only [pd, PyData.eqv, eqv]
    exact pdL_eqv _ _ xs ys h k
  | n, m, .lst xs, .lst ys, h, k => by
    cases n <;> cases m <;> simp only [okN] at h k <;> first | cases h | cases k | skip
    simp only [pd, PyData.eqv, eqv]
    exact pdL_eqv _ _ xs ys h k
  | n, m, .dk _, _, h, _ => by cases n <;> simp [okN] at h
  | n, m, .dt _, _, h, _ => by cases n <;> simp [okN] at h
  | n, m, .obj _, _, h, _ => by cases n <;> simp [okN] at h
  | n, m, .fn _, _, h, _ => by cases n <;> simp [okN] at h
  | n, m, _, .dk _, _, h => by cases m <;> simp [okN] at h
  | n, m, _, .dt _, _, h => by cases m <;> simp [okN] at h
  | n, m, _, .obj _, _, h => by cases m <;> simp [okN] at h
  | n, m, _, .fn _, _, h => by cases m <;> simp [okN] at h
  | _, _, .non, .non, _, _ => by simp [pd, PyData.eqv, eqv]
  | _, _, .non, .bl _, _, _ => by simp [pd, PyData.eqv, eqv]
  | _, _, .non, .int _, _, _ => by simp [pd, PyData.eqv, eqv]
  | _, _, .non, .str _, _, _ => by simp [pd, PyData.eqv, eqv]
  | _, _, .non, .tup _, _, _ => by simp [pd, PyData.eqv, eqv]
  | _, _, .non, .lst _, _, _ => by simp [pd, PyData.eqv, eqv]
  | _, _, .bl _, .non, _, _ => by simp [pd, PyData.eqv, eqv]
  | _, _, .bl _, .bl _, _, _ => by simp [pd, PyData.eqv, eqv]
  | _, _, .bl _, .int _, _, _ => by simp [pd, PyData.eqv, eqv]
  | _, _, .bl _, .str _, _, _ => by simp [pd, PyData.eqv, eqv]
  | _, _, .bl _, .tup _, _, _ => by simp [pd, PyData.eqv, eqv]
  | _, _, .bl _, .lst _, _, _ => by simp [pd, PyData.eqv, eqv]
  | _, _, .int _, .non, _, _ => by simp [pd, PyData.eqv, eqv]
  | _, _, .int _, .bl _, _, _ => by simp [pd, PyData.eqv, eqv]
  | _, _, .int _, .int _, _, _ => by simp [pd, PyData.eqv, eqv]
  | _, _, .int _, .str _, _, _ => by simp [pd, PyData.eqv, eqv]
  | _, _, .int _, .tup _, _, _ => by simp [pd, PyData.eqv, eqv]
  | _, _, .int _, .lst _, _, _ => by simp [pd, PyData.eqv, eqv]
  | _, _, .str _, .non, _, _ => by simp [pd, PyData.eqv, eqv]
  | _, _, .str _, .bl _, _, _ => by simp [pd, PyData.eqv, eqv]
  | _, _, .str _, .int _, _, _ => by simp [pd, PyData.eqv, eqv]
  | _, _, .str _, .str _, _, _ => by simp [pd, PyData.eqv, eqv]
  | _, _, .str _, .tup _, _, _ => by simp [pd, PyData.eqv, eqv]
  | _, _, .str _, .lst _, _, _ => by simp [pd, PyData.eqv, eqv]
  | _, _, .tup _, .non, _, _ => by simp [pd, PyData.eqv, eqv]
  | _, _, .tup _, .bl _, _, _ => by simp [pd, PyData.eqv, eqv]
  | _, _, .tup _, .int _, _, _ => by simp [pd, PyData.eqv, eqv]
  | _, _, .tup _, .str _, _, _ => by simp [pd, PyData.eqv, eqv]
  | _, _, .tup _, .lst _, _, _ => by simp [pd, PyData.eqv, eqv]
  | _, _, .lst _, .non, _, _ => by simp [pd, PyData.eqv, eqv]
  | _, _, .lst _, .bl _, _, _ => by simp [pd, PyData.eqv, eqv]
  | _, _, .lst _, .int _, _, _ => by simp [pd, PyData.eqv, eqv]
  | _, _, .lst _, .str _, _, _ => by simp [pd, PyData.eqv, eqv]
  | _, _, .lst _, .tup _, _, _ => by simp [pd, PyData.eqv, eqv]
theorem pdL_eqv : ∀ (n m : Nat) (xs ys : List D), okNL n xs = true → okNL m ys = true → PyData.eqvAll (pdL xs) (pdL ys) = eqvL xs ys
  | _, _, [], [], _, _ => by simp [pdL, PyData.eqvAll, eqvL]
  | _, _, [], _ :: _, _, _ => by simp [pdL, PyData.eqvAll, eqvL]
  | _, _, _ :: _, [], _, _ => by simp [pdL, PyData.eqvAll, eqvL]
  | n, m, x :: xs, y :: ys, h, k => by
    simp only [okNL, Bool.and_eq_true] at h k
    simp only [pdL, PyData.eqvAll, eqvL, pd_eqv n m x y h.1 k.1, pdL_eqv n m xs ys h.2 k.2]
end
section
variable {K : PySem.W.Frag} {mg : Str → Option Value} {β : List Addr} {M : Addr → Prop} {H : Hp}
mutual
theorem Rp.dp : ∀ (n : Nat) (d : D) (v : V), okN n d = true → Rp K mg β M H v d → Dp K H v (pd d)
  | _, .non, _, _, r => by cases r; simp only [pd]; exact .non
  | _, .bl _, _, _, r => by cases r; simp only [pd]; exact .bl _
  | _, .int _, _, _, r => by cases r; simp only [pd]; exact .int _
  | _, .str _, _, _, r => by cases r; simp only [pd]; exact .str _
  | n + 1, .tup xs, _, h, r => by
    simp only [okN] at h
    obtain ⟨a, vs, rfl, r1, r2⟩ := r.tup1
    simp only [pd]
    exact .tup r1 (RpL.dp n xs vs h r2)
  | n + 1, .lst xs, _, h, r => by
    simp only [okN] at h
    obtain ⟨a, vs, rfl, r1, r2⟩ := r.lst1
    simp only [pd]
    exact .lst r1 (RpL.dp n xs vs h r2)
  | 0, .tup xs, _, h, _ => by simp [okN] at h
  | 0, .lst xs, _, h, _ => by simp [okN] at h
  | n, .dk _, _, h, _ => by cases n <;> simp [okN] at h
  | n, .dt _, _, h, _ => by cases n <;> simp [okN] at h
  | n, .obj _, _, h, _ => by cases n <;> simp [okN] at h
  | n, .fn _, _, h, _ => by cases n <;> simp [okN] at h
theorem RpL.dp : ∀ (n : Nat) (xs : List D) (vs : List V), okNL n xs = true → RpL K mg β M H vs xs → DpAll K H vs (pdL xs)
  | _, [], _, _, r => by cases r; simp only [pdL]; exact .nil
  | n, x :: xs, _, h, r => by
    simp only [okNL, Bool.and_eq_true] at h
    cases r with
    | cons r1 r2 => simp only [pdL]; exact .cons (Rp.dp n x _ h.1 r1) (RpL.dp n xs _ h.2 r2)
end
theorem RL.dp {T : Addr → Prop} {v : V} {vs : List V} {s : SV} {svs : List SV} {as : List Addr} (h : RL K mg β M T H (v :: vs) (s :: svs) as) (k : okN 60 s.d = true) : Dp K H v (pd s.d) := by
  have go : ∀ {a : Addr} {d : D}, okN 60 d = true → Roc K mg β M H a d → Dp K H (.ref a) (pd d) := fun {a d} k r => by
    rcases r with ⟨vs, ds, rfl, r, p⟩ | ⟨kvs, es, rfl, r, p⟩ | ⟨kvs, es, rfl, r, p⟩
    · simp only [pd]
      simp only [okN] at k
      exact .lst (.inl r) (RpL.dp 59 _ _ k p)
    · simp [okN] at k
    · simp [okN] at k
  cases h with
  | sh r _ => exact r.dp 60 _ _ k
  | ro _ _ r _ => exact go k r
  | ow r _ => exact go k (Owc.roc r)
end

/-! ### ==, != -/
def isE : D → Bool
  | .dk [] => true | .dt [] => true | _ => false
def oEq (neg : Bool) : Op := fun svs st => match svs with
  | [x, y] => if okN 60 x.d = true ∧ okN 60 y.d = true then some (.sh (.bl (if neg then !eqv x.d y.d else eqv x.d y.d)), st) else none
  | _ => none
theorem RL.two {K : PySem.W.Frag} {mg : Str → Option Value} {β : List Addr} {M T : Addr → Prop} {H : Hp} {x y : V} {svs : List SV} {as : List Addr} (h : RL K mg β M T H [x, y] svs as) : ∃ s t as1 as2, svs = [s, t] ∧ RL K mg β M T H [x] [s] as1 ∧ RL K mg β M T H [y] [t] as2 := by
  cases h with
  | sh r q => cases q with
    | sh r2 q2 => cases q2; exact ⟨_, _, [], [], rfl, .sh r .nil, .sh r2 .nil⟩
    | ro n1 n2 r2 q2 => cases q2; exact ⟨_, _, [], [], rfl, .sh r .nil, .ro n1 n2 r2 .nil⟩
    | ow r2 q2 => cases q2; exact ⟨_, _, [], _, rfl, .sh r .nil, .ow r2 .nil⟩
  | ro m1 m2 r q => cases q with
    | sh r2 q2 => cases q2; exact ⟨_, _, [], [], rfl, .ro m1 m2 r .nil, .sh r2 .nil⟩
    | ro n1 n2 r2 q2 => cases q2; exact ⟨_, _, [], [], rfl, .ro m1 m2 r .nil, .ro n1 n2 r2 .nil⟩
    | ow r2 q2 => cases q2; exact ⟨_, _, [], _, rfl, .ro m1 m2 r .nil, .ow r2 .nil⟩
  | ow r q => cases q with
    | sh r2 q2 => cases q2; exact ⟨_, _, _, [], rfl, .ow r .nil, .sh r2 .nil⟩
    | ro n1 n2 r2 q2 => cases q2; exact ⟨_, _, _, [], rfl, .ow r .nil, .ro n1 n2 r2 .nil⟩
    | ow r2 q2 => cases q2; exact ⟨_, _, _, _, rfl, .ow r .nil, .ow r2 .nil⟩
section
variable {X : Cx}
theorem s_eq (hu : X.A.units + 64 < cLine) : OpS X (compareOp .Eq) (oEq false) := by
  intro pins s σ H x y v u Q I rx ry h
  obtain ⟨B, T, β, σ', ρ, st, svs, as, sv, st', p, e, q⟩ := h
  obtain ⟨s1, s2, as1, as2, rfl, r1, r2⟩ := RL.two p.rl
  simp only [oEq] at e
  split at e
  case isFalse => cases e
  case isTrue hk =>
  cases e
  refine op_eqD hu pins s σ H x y v u Q I rx ry ⟨_, _, r1.dp hk.1, r2.dp hk.2, pd_shaped hk.1, pd_shaped hk.2, ?_⟩
  rw [pd_eqv 60 60 _ _ hk.1 hk.2]
  exact p.ret q (.bl _)
theorem s_ne (hu : X.A.units + 64 < cLine) : OpS X (compareOp .NotEq) (oEq true) := by
  intro pins s σ H x y v u Q I rx ry h
  obtain ⟨B, T, β, σ', ρ, st, svs, as, sv, st', p, e, q⟩ := h
  obtain ⟨s1, s2, as1, as2, rfl, r1, r2⟩ := RL.two p.rl
  simp only [oEq] at e
  split at e
  case isFalse => cases e
  case isTrue hk =>
  cases e
  refine op_neD hu pins s σ H x y v u Q I rx ry ⟨_, _, r1.dp hk.1, r2.dp hk.2, pd_shaped hk.1, pd_shaped hk.2, ?_⟩
  rw [pd_eqv 60 60 _ _ hk.1 hk.2]
  exact p.ret q (.bl _)
theorem oEq_b {neg : Bool} : ∀ svs st sv st', oEq neg svs st = some (sv, st') → ∃ b, sv = .sh (.bl b) := fun svs st sv st' e => by
  unfold oEq at e
  split at e
  · split at e
    · cases e; exact ⟨_, rfl⟩
    · cases e
  · cases e
end
end PL

/-! PLIter: what is walked: lists and tuples, enumerate, zip, ranges, dicts. -/
namespace PL
open PySem PySem.Spec L2

/-! ### a list or a tuple -/
def SqB (K : PySem.W.Frag) (H : Hp) (t : Bool) (a : Addr) (xs : List V) : Prop := if t = true then SqT K H a xs else SqL K H a xs
def HSeq (t : Bool) (h : Heap) (a : Addr) (items : Array Value) : Prop := if t = true then h.IsTuple a items else h.IsList a items
def HIt (t : Bool) (h : Heap) (it a : Addr) (i : Nat) : Prop := if t = true then h.IsTupleIter it a i else h.IsListIter it a i
def objB (t : Bool) (a : Addr) : Obj := if t = true then { cls := .type "tuple_iterator", data := .fields #[.ref a, .int 0 0] } else { cls := .type "list_iterator", data := .fields #[.ref a, .int 0 0] }
theorem HIt.at {t : Bool} {h h' : Heap} {it a : Addr} {i : Nat} (x : HIt t h it a i) (k : ∀ o, h.get? it = some o → h'.get? it = some o) : HIt t h' it a i := by
  cases t
  · have x : h.IsListIter it a i := x
    show h'.IsListIter it a i
    exact Heap.IsListIter.at x k
  · have x : h.IsTupleIter it a i := x
    show h'.IsTupleIter it a i
    exact Heap.IsTupleIter.at x k
theorem HIt.obj {t : Bool} {h : Heap} {it a : Addr} {i : Nat} (x : HIt t h it a i) : ∃ o, h.get? it = some o ∧ ∀ v, o.data ≠ .cell v := by
  cases t
  · have x : h.IsListIter it a i := x
    obtain ⟨o, ho, hc, hd⟩ := x
    exact ⟨o, ho, fun v q => by rw [hd] at q; cases q⟩
  · have x : h.IsTupleIter it a i := x
    obtain ⟨o, ho, hc, hd⟩ := x
    exact ⟨o, ho, fun v q => by rw [hd] at q; cases q⟩
theorem HIt.new {t : Bool} {h : Heap} {it a : Addr} (e : h.get? it = some (objB t a)) : HIt t h it a 0 := by
  cases t
  · show h.IsListIter it a 0
    exact ⟨_, e, rfl, rfl⟩
  · show h.IsTupleIter it a 0
    exact ⟨_, e, rfl, rfl⟩
section
variable {X : Cx} {pins : List (Addr × Obj)} {σ : St} {H : Hp} {s : Shared} {a : Addr} {xs ys : List V} {t : Bool}
theorem inv_seqB (I : Inv X pins σ H s) (h : SqB X.K H t a xs) : ∃ its : List Value, Vals xs its ∧ HSeq t s.heap a its.toArray ∧ xs.length ≤ sizeLine ∧ a < s.heap.objs.size := by
  cases t
  · have h : SqL X.K H a xs := h
    obtain ⟨its, r, p, z⟩ := I.list h
    exact ⟨its, r, p.isList, z, p.lt⟩
  · have h : SqT X.K H a xs := h
    obtain ⟨its, r, p, z⟩ := I.tuple h
    exact ⟨its, r, (show s.heap.IsTuple a its.toArray from p), z, p.lt⟩
theorem inv_seqB_inj (I : Inv X pins σ H s) (h : SqB X.K H t a xs) (h' : SqB X.K H t a ys) : xs = ys := by
  cases t
  · exact I.list_inj h h'
  · exact I.tuple_inj h h'
theorem drawsB {prog : Program} {w : World} {A : Around} (t : Bool) (hh : A.handled = none) (it a : Addr) (hne : a ≠ it) (items : Array Value) :
    Draws prog w A it [it, a] items.size (fun i v => items[i]? = some v) (fun i h => HIt t h it a i ∧ HSeq t h a items) := by
  cases t
  · exact Draws.list hh it a hne items
  · exact Draws.tuple hh it a hne items
theorem beginsB (t : Bool) (a : Addr) (items : Array Value) : Begins (.ref a) (objB t a) fun h => HSeq t h a items := by
  cases t
  · exact begins_list a items
  · exact begins_tuple a items
end

/-! ### walks that give new tuples -/
def JT (go : Nat → Hp → Prop) (G : Nat → Hp → List V → Prop) (stop : Nat → Hp → Prop) : It :=
  ⟨go, fun i H v H' => ∃ T xs, v = .ref T ∧ H T = none ∧ H' = upd H T (.tup xs) ∧ G i H xs, stop⟩
theorem turnT {P : Program} {w : World} {K : PySem.W.Frag} {tg : Expr} {go : Nat → Hp → Prop} {G : Nat → Hp → List V → Prop} {stop : Nat → Hp → Prop} {fp : List Addr} {it : Addr} {tn : Nat → Heap → Prop} (mem : it ∈ fp)
    (obj : ∀ i h, tn i h → ∀ b ∈ fp, ∃ o, h.get? b = some o ∧ ∀ v, o.data ≠ .cell v) (keep : ∀ i h h', tn i h → (∀ b ∈ fp, ∀ o, h.get? b = some o → h'.get? b = some o) → tn i h')
    (item : ∀ (X : Cx), X.prog = P → X.w = w → X.K = K → X.calm = true → ∀ (i : Nat) (pins : List (Addr × Obj)) (s : Shared) (σ : St) (H : Hp), Inv X pins σ H s → (∀ b ∈ fp, H b = none) → tn i s.heap → go i H →
      ∃ fpG wr n Y St, GoesN P w X.A tg it fpG wr n Y St ∧ (∀ b ∈ wr, b ∈ fp) ∧ St i s.heap ∧ i < n ∧ ∀ v h', Y i s.heap v h' → St (i + 1) h' → (∀ b o, b ∉ wr → s.heap.get? b = some o → h'.get? b = some o) →
        ∃ T its xs, v = .ref T ∧ s.heap.objs.size ≤ T ∧ h'.IsTuple T its ∧ Vals xs its.toList ∧ xs.length ≤ sizeLine ∧ G i H xs ∧ tn (i + 1) h')
    (done : ∀ (X : Cx), X.prog = P → X.w = w → X.K = K → X.calm = true → ∀ (i : Nat) (pins : List (Addr × Obj)) (s : Shared) (σ : St) (H : Hp), Inv X pins σ H s → (∀ b ∈ fp, H b = none) → tn i s.heap → stop i H →
      ∃ fpG wr n Y St, GoesN P w X.A tg it fpG wr n Y St ∧ (∀ b ∈ wr, b ∈ fp) ∧ St n s.heap)
    (self : ∀ (A : Around) (i : Nat) (s : Shared) (Q : Value → Shared → Prop) (E : Value → Shared → Prop), tn i s.heap → Q (.ref it) s → wpAny (model P w) A (pyIter (.ref it)) Q E s) :
    Turn P w K tg (JT go G stop) fp it tn where
  mem := mem
  obj := obj
  keep := keep
  item := fun X hP hw hK hc i pins s σ H E I hf st hg => by
    subst hP hw hK
    obtain ⟨fpG, wr, n, Y, St, W, hwr, hst, hi, fin⟩ := item X rfl rfl rfl hc i pins s σ H I (fun b m => (hf b m).1) st hg
    refine W.goes i s (fun u s2 => ∃ x H', Inv X pins σ H' s2 ∧ RelV x u ∧ (JT go G stop).yld i H x H' ∧ tn (i + 1) s2.heap ∧ ∀ b ∈ fp, H' b = none) E hi hst fun v h' tk hY st' hk htk => ?_
    obtain ⟨T, its, xs, rfl, hT, hI, hv, hz, hG, ht⟩ := fin v h' hY st' hk
    have new : ObjOk X.prog X.w (upd H T (.tup xs)) h' T (.tup xs) := ⟨hz, its.toList, hv, (show PyProof.Rows.IsTup h' T its.toList.toArray from (by rw [Array.toArray_toList]; exact hI))⟩
    have I1 := I.turnedNew (t' := tk) (ch := wr) hk (fun b m => hf b (hwr b m)) hT new
    refine ⟨.ref T, _, I1, rfl, ⟨T, xs, rfl, I.hok.fresh hT, rfl, hG⟩, ht, fun b hb => ?_⟩
    have hl : b < s.heap.objs.size := by
      obtain ⟨o, ho, _⟩ := obj i s.heap st b hb
      exact Heap.lt_size ho
    rw [upd_ne (Nat.ne_of_lt (Nat.lt_of_lt_of_le hl hT))]
    exact (hf b hb).1
  done := fun X hP hw hK hc i pins s σ H E I hf st hg => by
    subst hP hw hK
    obtain ⟨fpG, wr, n, Y, St, W, hwr, hst⟩ := done X rfl rfl rfl hc i pins s σ H I (fun b m => (hf b m).1) st hg
    exact W.stops s (fun s1 => Inv X pins σ H s1) E hst fun h' tk hk htk => I.turnedL (t' := tk) (ch := wr) hk fun b m => hf b (hwr b m)
  self := self


theorem HSeq.ne {t : Bool} {h : Heap} {a b : Addr} {items : Array Value} {o : Obj} (x : HSeq t h a items) (e : h.get? b = some o) (hd : ∀ xs n, o.data ≠ .seq xs n) : a ≠ b := fun z => by
  subst z
  cases t
  · have x : h.IsList a items := x
    obtain ⟨o', ho, _, n, hs⟩ := x
    rw [e] at ho; cases ho; exact hd _ _ hs
  · have x : h.IsTuple a items := x
    obtain ⟨o', ho, _, n, hs⟩ := x
    rw [e] at ho; cases ho; exact hd _ _ hs
theorem HIt.flds {t : Bool} {h : Heap} {it a : Addr} {i : Nat} (x : HIt t h it a i) : ∃ o, h.get? it = some o ∧ ∀ xs n, o.data ≠ .seq xs n := by
  cases t
  · have x : h.IsListIter it a i := x
    obtain ⟨o, ho, hc, hd⟩ := x
    exact ⟨o, ho, fun v n q => by rw [hd] at q; cases q⟩
  · have x : h.IsTupleIter it a i := x
    obtain ⟨o, ho, hc, hd⟩ := x
    exact ⟨o, ho, fun v n q => by rw [hd] at q; cases q⟩
theorem HSeq.it_ne {t u : Bool} {h : Heap} {a b it : Addr} {i : Nat} {items : Array Value} (x : HSeq t h a items) (y : HIt u h it b i) : a ≠ it :=
  let ⟨_, ho, hd⟩ := y.flds; x.ne ho hd
theorem handled1 {X : Cx} {pins : List (Addr × Obj)} {σ : St} {H : Hp} {s : Shared} (I : Inv X pins σ H s) (hc : X.calm = true) : X.A.in1.handled = none := I.ok.hd hc
/-! enumerate -/
def JEnum (K : PySem.W.Frag) (t : Bool) (a : Addr) : It := JT (fun i H => ∃ (xs : List V) (x : V), SqB K H t a xs ∧ xs[i]? = some x)
  (fun i H ys => ∃ x, ys = [.int (i : Nat), x] ∧ ∀ xs, SqB K H t a xs → xs[i]? = some x) (fun i H => ∃ xs : List V, SqB K H t a xs ∧ xs.length = i)
theorem turn_enumB {P : Program} {w : World} {K : PySem.W.Frag} {elts : List Expr} {kk : Nat} {tpos : Pos} {t : Bool} {a e it : Addr} (hei : e ≠ it) :
    Turn P w K (.Tuple elts kk tpos) (JEnum K t a) [e, it] e (fun i h => (∃ old, IsEnum h e it ((i : Nat) : Int) old) ∧ HIt t h it a i) := by
  refine turnT (by simp) (fun i h st b hb => ?_) (fun i h h' st k => ?_) (fun X hP hw hK hc i pins s σ H I hn st hg => ?_) (fun X hP hw hK hc i pins s σ H I hn st hg => ?_) (fun A i s Q E st h => ?_)
  · obtain ⟨⟨old, he⟩, hi⟩ := st
    rcases List.mem_cons.mp hb with z | z
    · rw [z]; exact ⟨_, he, fun v q => nomatch q⟩
    · rw [List.mem_singleton.mp z]; exact hi.obj
  · obtain ⟨⟨old, he⟩, hi⟩ := st
    exact ⟨⟨old, k e (by simp) _ he⟩, hi.at fun o q => k it (by simp) o q⟩
  · subst hP hw hK
    obtain ⟨⟨old, he⟩, hit⟩ := st
    obtain ⟨xs, x, hq, hx⟩ := hg
    obtain ⟨its, rv, p, hz, hl⟩ := inv_seqB I hq
    obtain ⟨u, hu, ru⟩ := rv.get hx
    have hai := p.it_ne hit
    have hae : a ≠ e := p.ne he (fun _ _ q => nomatch q)
    refine ⟨_, _, _, _, _, GoesN.enumFrom 0 (drawsB t (handled1 I hc) it a hai its.toArray) e hei (by simp [hei, hae.symm]) (by simp), fun b m => m, ⟨⟨old, by simpa using he⟩, hit, p⟩, ?_, fun v h' hY hS hk => ?_⟩
    · have : i < its.length := by
        rcases Nat.lt_or_ge i its.length with h | h
        · exact h
        · rw [List.getElem?_eq_none h] at hu; cases hu
      simpa using this
    · obtain ⟨T, tk, y, rfl, hT, hy, hI⟩ := hY
      obtain ⟨⟨old', he'⟩, hit', _⟩ := hS
      have ey : y = u := by
        have hy' : its.toArray[i]? = some y := hy
        rw [List.getElem?_toArray, hu] at hy'; exact (Option.some.inj hy').symm
      subst ey
      refine ⟨T, _, [.int (i : Nat), x], rfl, hT, hI, ?_, by show 2 ≤ sizeLine; decide, ⟨x, rfl, fun ys hy => by rw [inv_seqB_inj I hy hq]; exact hx⟩, ⟨old', by simpa using he'⟩, hit'⟩
      exact .cons ⟨tk, by simp⟩ (.cons ru .nil)
  · subst hP hw hK
    obtain ⟨⟨old, he⟩, hit⟩ := st
    obtain ⟨xs, hq, hx⟩ := hg
    obtain ⟨its, rv, p, hz, hl⟩ := inv_seqB I hq
    have hai := p.it_ne hit
    have hae : a ≠ e := p.ne he (fun _ _ q => nomatch q)
    refine ⟨_, _, _, _, _, GoesN.enumFrom 0 (drawsB t (handled1 I hc) it a hai its.toArray) e hei (by simp [hei, hae.symm]) (by simp), fun b m => m, ?_⟩
    have e1 : its.toArray.size = i := by simp [← rv.length, hx]
    rw [e1]
    exact ⟨⟨old, by simpa using he⟩, hit, p⟩
  · obtain ⟨⟨old, he⟩, _⟩ := st
    exact wpAny_pyIter_enum he h

set_option maxHeartbeats 1000000 in
theorem meets_enumerate_newB1 {v : Value} {o : Obj} {H : Heap → Prop} (B : Begins v o H) :
    Meets (Builtin.«enumerate.__new__» ⟨[.type "enumerate", v], []⟩) (fun _ R s => H s.heap ∧
      R (.ok (.ret (.ref (s.heap.push o).objs.size))) { s with heap := (s.heap.push o).push { cls := .type "enumerate", data := .fields #[.none, .bool false, .ref s.heap.objs.size, rawInt 0, .none, .none] } }) :=
  .of_wp fun prog w A R s h => by
    obtain ⟨hp, g, d, tk, os⟩ := s; obtain ⟨h1, h⟩ := h
    have hsub := sub_enumerate
    have q1 : ∀ {A' : Around} {E : Value → Shared → Prop} {Q : Value → Shared → Prop}, Q (.ref hp.objs.size) ⟨hp.push o, g, d, tk, os⟩ → wpAny (model prog w) A' (pyIter v) Q E ⟨hp, g, d, tk, os⟩ :=
      fun q => B.iter prog w _ _ ⟨hp, g, d, tk, os⟩ _ h1 q
    wp_walk using q1
    refine wpAny_stack_any fun st => wpAny_pure ?_
    split
    · rename_i c _ _ _ _ _
      cases (c == Value.type "enumerate")
      · wp_walk using q1
        exact ⟨_, rfl, h⟩
      · wp_walk using q1
        exact ⟨_, rfl, h⟩
    · wp_walk using q1
      exact ⟨_, rfl, h⟩
theorem enum_begins1 {prog : Program} {w : World} {A : Around} {E : Value → Shared → Prop} {s : Shared} {v : Value} {o : Obj} {H : Heap → Prop} {Q : Value → Shared → Prop} (B : Begins v o H) (h1 : H s.heap)
    (h : ∀ h', IsEnum h' (s.heap.objs.size + 1) s.heap.objs.size 0 .none → h'.get? s.heap.objs.size = some o → h'.objs.size = s.heap.objs.size + 2 →
      (∀ b o, s.heap.get? b = some o → h'.get? b = some o) → Q (.ref (s.heap.objs.size + 1)) { s with heap := h' }) :
    wpAny (model prog w) A (call (.type "enumerate") [v]) Q E s := by
  refine callType_new F.called_enumerate (by decide) (F.typeCall_enumerate_1 _) (F.newCall_enumerate_1 _) (fun obj => F.args_object_init_2 obj _) F.entry_enumerate_new
    (meets_enumerate_newB1 B) ⟨h1, ?_⟩
  have hz : (s.heap.push o).objs.size = s.heap.objs.size + 1 := Heap.size_push ..
  show _ ∧ _
  rw [hz]
  have he : IsEnum ((s.heap.push o).push { cls := .type "enumerate", data := .fields #[.none, .bool false, .ref s.heap.objs.size, rawInt 0, .none, .none] }) (s.heap.objs.size + 1) s.heap.objs.size 0 .none := by
    have := Heap.get?_push_size (s.heap.push o) (o := { cls := .type "enumerate", data := .fields #[.none, .bool false, .ref s.heap.objs.size, rawInt 0, .none, .none] }) rfl
    rw [hz] at this; exact this
  refine ⟨⟨_, he, rfl⟩, h _ he (Heap.get?_push_of_some _ (Heap.get?_push_size _ B.free)) (by rw [Heap.size_push, hz]) fun b o x => Heap.get?_push_of_some _ (Heap.get?_push_of_some _ x)⟩
/-- enumerate of a list or tuple -/
def iEnumB (K : PySem.W.Frag) (ta : TA) : TI := fun σ H R => ta σ H fun vs H1 => ∃ t a xs, vs = [.ref a] ∧ SqB K H1 t a xs ∧ R (JEnum K t a) H1
theorem pi_enumB {X : Cx} {e : Expr} {ta : TA} {p pos tpos : Pos} {elts : List Expr} {kk : Nat} (hg : Gl X "enumerate") (hm : X.mg "enumerate" = none) (ha : PA X [e] ta) (hs : starEach [e] X.env = [(false, eval e X.env)] := by rfl) :
    PI X (.Tuple elts kk tpos) (.Call (.Name "enumerate" p) [e] [] pos) (iEnumB X.K ta) := by
  refine ⟨fun pins s σ H R I h => ?_⟩
  refine PyProof.Rows.Call_ (ld_blt I hg hm PyProof.Rows.boot_enumerate (PyProof.Rows.callWith_type1 (thn (ha.run pos pins s σ H _ I h) fun us s1 ⟨vs, H1, I1, r1, q1⟩ => ?_) hs rfl))
  obtain ⟨t, a, xs, ex, hq, q⟩ := q1
  subst ex
  cases r1 with
  | cons r rr =>
    cases rr
    cases r
    obtain ⟨its, rv, p', hz, hl⟩ := inv_seqB I1 hq
    refine enum_begins1 (beginsB t a its.toArray) p' fun h' he ho hsz hk => wpAny_pyIter_enum he ?_
    have I2 : Inv X pins σ H1 { s1 with heap := h' } := I1.kept (t' := s1.toks) hk
    refine ⟨s1.heap.objs.size + 1, [s1.heap.objs.size + 1, s1.heap.objs.size], _, _, H1, rfl, I2, turn_enumB (t := t) (a := a) (Nat.succ_ne_self _), ⟨⟨.none, he⟩, HIt.new ho⟩, fun b hb => ?_, q⟩
    have e' : b = s1.heap.objs.size + 1 ∨ b = s1.heap.objs.size := by simpa using hb
    have hle : s1.heap.objs.size ≤ b := by
      rcases e' with z | z
      · rw [z]; exact Nat.le_add_right _ _
      · rw [z]; exact Nat.le_refl _
    exact I1.fpOk hle (I1.hok.fresh hle)
end PL

/-! PLIter2: zip, dicts walked. -/
namespace PL
open PySem PySem.Spec L2

theorem lt_of_get {α : Type} {l : List α} {i : Nat} {x : α} (h : l[i]? = some x) : i < l.length := by
  rcases Nat.lt_or_ge i l.length with hl | hl
  · exact hl
  · rw [List.getElem?_eq_none hl] at h; cases h
theorem arr_get {l : List Value} {i : Nat} {x y : Value} (h : l[i]? = some x) (h' : l.toArray[i]? = some y) : y = x := by
  rw [List.getElem?_toArray, h] at h'; exact (Option.some.inj h').symm
def JZip2 (K : PySem.W.Frag) (t1 t2 : Bool) (a b : Addr) : It := JT (fun i H => ∃ (xs ys : List V) (x y : V), SqB K H t1 a xs ∧ SqB K H t2 b ys ∧ xs[i]? = some x ∧ ys[i]? = some y)
  (fun i H zs => ∃ x y, zs = [x, y] ∧ (∀ xs, SqB K H t1 a xs → xs[i]? = some x) ∧ ∀ xs, SqB K H t2 b xs → xs[i]? = some y) (fun i H => ∃ xs ys : List V, SqB K H t1 a xs ∧ SqB K H t2 b ys ∧ min xs.length ys.length = i)
theorem turn_zip2B {P : Program} {w : World} {K : PySem.W.Frag} {elts : List Expr} {kk : Nat} {tpos : Pos} {t1 t2 : Bool} {a b z TI TO i1 i2 : Addr} (D : TI ≠ z ∧ TO ≠ z ∧ TI ≠ TO ∧ TI ≠ i1 ∧ TI ≠ i2 ∧ z ≠ i1 ∧ z ≠ i2 ∧ TO ≠ i1 ∧ TO ≠ i2 ∧ i1 ≠ i2) (Da : a ≠ TI ∧ a ≠ TO ∧ b ≠ TI ∧ b ≠ TO) :
    Turn P w K (.Tuple elts kk tpos) (JZip2 K t1 t2 a b) [z, TI, TO, i1, i2] z (fun i h => IsZip h z TI TO .none ∧ IsTupOf2 h TI (.ref i1) (.ref i2) ∧ (∃ x y, IsTupOf2 h TO x y) ∧ HIt t1 h i1 a i ∧ HIt t2 h i2 b i) := by
  obtain ⟨d1, d2, d3, d4, d5, d6, d7, d8, d9, d10⟩ := D
  obtain ⟨da1, da2, db1, db2⟩ := Da
  have sep : ∀ {h : Heap} {i : Nat} {its1 its2 : Array Value}, IsZip h z TI TO .none → HIt t1 h i1 a i → HIt t2 h i2 b i → HSeq t1 h a its1 → HSeq t2 h b its2 → ZipSep2 z TI TO i1 i2 [i1, a] [i2, b] ∧ a ≠ i1 ∧ b ≠ i2 := fun hz h1 h2 p1 p2 => by
    have a1 := p1.it_ne h1
    have a2 := p1.it_ne h2
    have b1 := p2.it_ne h1
    have b2 := p2.it_ne h2
    have az : a ≠ z := p1.ne hz (fun _ _ q => nomatch q)
    have bz : b ≠ z := p2.ne hz (fun _ _ q => nomatch q)
    exact ⟨⟨d1, d2, d3, d4, by simp, by simp [d6, az.symm], by simp [d8, da2.symm], d5, by simp, by simp [d7, bz.symm], by simp [d9, db2.symm], by simp [d10, b1.symm], by simp [d10.symm, a2.symm]⟩, a1, b2⟩
  refine turnT (by simp) (fun i h st c hc => ?_) (fun i h h' st k => ?_) (fun X hP hw hK hc i pins s σ H I hn st hg => ?_) (fun X hP hw hK hc i pins s σ H I hn st hg => ?_) (fun A i s Q E st h => wpAny_pyIter_zip st.1 h)
  · obtain ⟨hz, hTI, ⟨x, y, hTO⟩, h1, h2⟩ := st
    have e' : c = z ∨ c = TI ∨ c = TO ∨ c = i1 ∨ c = i2 := by simpa using hc
    rcases e' with q | q | q | q | q
    · rw [q]; exact ⟨_, hz, fun v q => nomatch q⟩
    · rw [q]; exact ⟨_, hTI, fun v q => nomatch q⟩
    · rw [q]; exact ⟨_, hTO, fun v q => nomatch q⟩
    · rw [q]; exact h1.obj
    · rw [q]; exact h2.obj
  · obtain ⟨hz, hTI, ⟨x, y, hTO⟩, h1, h2⟩ := st
    exact ⟨k z (by simp) _ hz, k TI (by simp) _ hTI, ⟨x, y, k TO (by simp) _ hTO⟩, h1.at fun o q => k i1 (by simp) o q, h2.at fun o q => k i2 (by simp) o q⟩
  · subst hP hw hK
    obtain ⟨hz, hTI, hTO, h1, h2⟩ := st
    obtain ⟨xs, ys, x, y, hqx, hqy, hx, hy⟩ := hg
    obtain ⟨its1, rv1, p1, z1, l1⟩ := inv_seqB I hqx
    obtain ⟨its2, rv2, p2, z2, l2⟩ := inv_seqB I hqy
    obtain ⟨u1, hu1, ru1⟩ := rv1.get hx
    obtain ⟨u2, hu2, ru2⟩ := rv2.get hy
    obtain ⟨S, n1, n2⟩ := sep hz h1 h2 p1 p2
    refine ⟨_, _, _, _, _, GoesN.zip2 S (drawsB t1 (handled1 I hc) i1 a n1 its1.toArray) (drawsB t2 (handled1 I hc) i2 b n2 its2.toArray), fun c m => ?_, ⟨hz, hTI, hTO, ⟨h1, p1⟩, h2, p2⟩, ?_, fun v h' hY hS hk => ?_⟩
    · have e' : c = z ∨ c = TO ∨ c = i1 ∨ c = i2 := by simpa using m
      rcases e' with q | q | q | q <;> simp [q]
    · have := lt_of_get hu1
      have := lt_of_get hu2
      simp only [List.size_toArray]; omega
    · obtain ⟨T, y1, y2, rfl, hT, g1, g2, hI⟩ := hY
      obtain ⟨hz', hTI', hTO', ⟨h1', _⟩, h2', _⟩ := hS
      have e1 := arr_get hu1 g1
      have e2 := arr_get hu2 g2
      subst e1 e2
      exact ⟨T, _, [x, y], rfl, hT, hI, .cons ru1 (.cons ru2 .nil), by show 2 ≤ sizeLine; decide, ⟨x, y, rfl, fun zs hz => by rw [inv_seqB_inj I hz hqx]; exact hx, fun zs hz => by rw [inv_seqB_inj I hz hqy]; exact hy⟩, hz', hTI', hTO', h1', h2'⟩
  · subst hP hw hK
    obtain ⟨hz, hTI, hTO, h1, h2⟩ := st
    obtain ⟨xs, ys, hqx, hqy, hi⟩ := hg
    obtain ⟨its1, rv1, p1, z1, l1⟩ := inv_seqB I hqx
    obtain ⟨its2, rv2, p2, z2, l2⟩ := inv_seqB I hqy
    obtain ⟨S, n1, n2⟩ := sep hz h1 h2 p1 p2
    refine ⟨_, _, _, _, _, GoesN.zip2 S (drawsB t1 (handled1 I hc) i1 a n1 its1.toArray) (drawsB t2 (handled1 I hc) i2 b n2 its2.toArray), fun c m => ?_, ?_⟩
    · have e' : c = z ∨ c = TO ∨ c = i1 ∨ c = i2 := by simpa using m
      rcases e' with q | q | q | q <;> simp [q]
    · have e1 : min its1.toArray.size its2.toArray.size = i := by simp [← rv1.length, ← rv2.length, hi]
      rw [e1]
      exact ⟨hz, hTI, hTO, ⟨h1, p1⟩, h2, p2⟩
def iZip2B (K : PySem.W.Frag) (ta : TA) : TI := fun σ H R => ta σ H fun vs H1 => ∃ t1 t2 a b xs ys, vs = [.ref a, .ref b] ∧ SqB K H1 t1 a xs ∧ SqB K H1 t2 b ys ∧ R (JZip2 K t1 t2 a b) H1
theorem pi_zip2B {X : Cx} {e e2 : Expr} {ta : TA} {p pos tpos : Pos} {elts : List Expr} {kk : Nat} (hg : Gl X "zip") (hm : X.mg "zip" = none) (ha : PA X [e, e2] ta)
    (hs : starEach [e, e2] X.env = (false, eval e X.env) :: starEach [e2] X.env := by rfl) (hpl : (backTo pos (starEach [e2] X.env)).any (·.1) = false := by rfl) :
    PI X (.Tuple elts kk tpos) (.Call (.Name "zip" p) [e, e2] [] pos) (iZip2B X.K ta) := by
  refine ⟨fun pins s σ H R I h => ?_⟩
  refine PyProof.Rows.Call_ (ld_blt I hg hm PyProof.Rows.boot_zip (PyProof.Rows.callWith_type1 (thn (ha.run pos pins s σ H _ I h) fun us s1 ⟨vs, H1, I1, r1, q1⟩ => ?_) hs hpl))
  obtain ⟨t1, t2, a, b, xs, ys, ex, hqx, hqy, q⟩ := q1
  subst ex
  cases r1 with
  | cons r rr =>
    cases rr with
    | cons r' rr =>
      cases rr
      cases r
      cases r'
      obtain ⟨its1, rv1, p1, z1, l1⟩ := inv_seqB I1 hqx
      obtain ⟨its2, rv2, p2, z2, l2⟩ := inv_seqB I1 hqy
      refine zip_begins2 (beginsB t1 a its1.toArray) (beginsB t2 b its2.toArray) p1 p2 fun h' hz hTI hTO ho1 ho2 hsz hk => wpAny_pyIter_zip hz ?_
      have I2 : Inv X pins σ H1 { s1 with heap := h' } := I1.kept (t' := s1.toks) hk
      generalize hN : s1.heap.objs.size = N at *
      refine ⟨N + 4, [N + 4, N + 2, N + 3, N, N + 1], _, _, H1, rfl, I2, turn_zip2B (t1 := t1) (t2 := t2) (a := a) (b := b) ?_ ?_, ⟨hz, hTI, ⟨_, _, hTO⟩, HIt.new ho1, HIt.new ho2⟩, fun c hcm => ?_, q⟩
      · have f : ∀ i j : Nat, i ≠ j → (N + i : Nat) ≠ N + j := fun i j h e => h (by omega)
        exact ⟨f 2 4 (by decide), f 3 4 (by decide), f 2 3 (by decide), f 2 0 (by decide), f 2 1 (by decide), f 4 0 (by decide), f 4 1 (by decide), f 3 0 (by decide), f 3 1 (by decide), f 0 1 (by decide)⟩
      · have f : ∀ (c : Nat) (i : Nat), c < N → c ≠ N + i := fun c i h e => by omega
        exact ⟨f _ 2 l1, f _ 3 l1, f _ 2 l2, f _ 3 l2⟩
      · have e' : c = N + 4 ∨ c = N + 2 ∨ c = N + 3 ∨ c = N ∨ c = N + 1 := by simpa using hcm
        have hle : N ≤ c := by
          rcases e' with z | z | z | z | z
          · rw [z]; exact Nat.le_add_right _ _
          · rw [z]; exact Nat.le_add_right _ _
          · rw [z]; exact Nat.le_add_right _ _
          · rw [z]; exact Nat.le_refl _
          · rw [z]; exact Nat.le_add_right _ _
        rw [← hN] at hle
        exact I1.fpOk hle (I1.hok.fresh hle)

/-! three -/
def JZip3 (K : PySem.W.Frag) (t1 t2 t3 : Bool) (a b c : Addr) : It := JT (fun i H => ∃ (xs ys zs : List V) (x y z : V), SqB K H t1 a xs ∧ SqB K H t2 b ys ∧ SqB K H t3 c zs ∧ xs[i]? = some x ∧ ys[i]? = some y ∧ zs[i]? = some z)
  (fun i H ws => ∃ x y z, ws = [x, y, z] ∧ (∀ xs, SqB K H t1 a xs → xs[i]? = some x) ∧ (∀ xs, SqB K H t2 b xs → xs[i]? = some y) ∧ ∀ xs, SqB K H t3 c xs → xs[i]? = some z)
  (fun i H => ∃ xs ys zs : List V, SqB K H t1 a xs ∧ SqB K H t2 b ys ∧ SqB K H t3 c zs ∧ min (min xs.length ys.length) zs.length = i)
theorem turn_zip3B {P : Program} {w : World} {K : PySem.W.Frag} {elts : List Expr} {kk : Nat} {tpos : Pos} {t1 t2 t3 : Bool} {a b c N : Addr} (la : a < N) (lb : b < N) (lc : c < N) :
    Turn P w K (.Tuple elts kk tpos) (JZip3 K t1 t2 t3 a b c) [N + 5, N + 3, N + 4, N, N + 1, N + 2] (N + 5) (fun i h => IsZip h (N + 5) (N + 3) (N + 4) .none ∧ IsTupOf3 h (N + 3) (.ref N) (.ref (N + 1)) (.ref (N + 2)) ∧ (∃ x y z, IsTupOf3 h (N + 4) x y z) ∧ HIt t1 h N a i ∧ HIt t2 h (N + 1) b i ∧ HIt t3 h (N + 2) c i) := by
  have S : ZipSep3 (N + 5) (N + 3) (N + 4) N (N + 1) (N + 2) [N, a] [N + 1, b] [N + 2, c] := zip_sep3 (by simpa using la) (by simpa using lb) (by simpa using lc)
  have n1 : a ≠ N := Nat.ne_of_lt la
  have n2 : b ≠ N + 1 := Nat.ne_of_lt (Nat.lt_succ_of_lt lb)
  have n3 : c ≠ N + 2 := Nat.ne_of_lt (Nat.lt_succ_of_lt (Nat.lt_succ_of_lt lc))
  refine turnT (by simp) (fun i h st d hd => ?_) (fun i h h' st k => ?_) (fun X hP hw hK hc i pins s σ H I hn st hg => ?_) (fun X hP hw hK hc i pins s σ H I hn st hg => ?_) (fun A i s Q E st h => wpAny_pyIter_zip st.1 h)
  · obtain ⟨hz, hTI, ⟨x, y, z, hTO⟩, h1, h2, h3⟩ := st
    have e' : d = N + 5 ∨ d = N + 3 ∨ d = N + 4 ∨ d = N ∨ d = N + 1 ∨ d = N + 2 := by simpa using hd
    rcases e' with q | q | q | q | q | q
    · rw [q]; exact ⟨_, hz, fun v q => nomatch q⟩
    · rw [q]; exact ⟨_, hTI, fun v q => nomatch q⟩
    · rw [q]; exact ⟨_, hTO, fun v q => nomatch q⟩
    · rw [q]; exact h1.obj
    · rw [q]; exact h2.obj
    · rw [q]; exact h3.obj
  · obtain ⟨hz, hTI, ⟨x, y, z, hTO⟩, h1, h2, h3⟩ := st
    exact ⟨k _ (by simp) _ hz, k _ (by simp) _ hTI, ⟨x, y, z, k _ (by simp) _ hTO⟩, h1.at fun o q => k _ (by simp) o q, h2.at fun o q => k _ (by simp) o q, h3.at fun o q => k _ (by simp) o q⟩
  · subst hP hw hK
    obtain ⟨hz, hTI, hTO, h1, h2, h3⟩ := st
    obtain ⟨xs, ys, zs, x, y, z, hqx, hqy, hqz, hx, hy, hzz⟩ := hg
    obtain ⟨its1, rv1, p1, z1, l1⟩ := inv_seqB I hqx
    obtain ⟨its2, rv2, p2, z2, l2⟩ := inv_seqB I hqy
    obtain ⟨its3, rv3, p3, z3, l3⟩ := inv_seqB I hqz
    obtain ⟨u1, hu1, ru1⟩ := rv1.get hx
    obtain ⟨u2, hu2, ru2⟩ := rv2.get hy
    obtain ⟨u3, hu3, ru3⟩ := rv3.get hzz
    refine ⟨_, _, _, _, _, GoesN.zip3 S (drawsB t1 (handled1 I hc) N a n1 its1.toArray) (drawsB t2 (handled1 I hc) (N + 1) b n2 its2.toArray) (drawsB t3 (handled1 I hc) (N + 2) c n3 its3.toArray), fun d m => ?_, ⟨hz, hTI, hTO, ⟨h1, p1⟩, ⟨h2, p2⟩, h3, p3⟩, ?_, fun v h' hY hS hk => ?_⟩
    · have e' : d = N + 5 ∨ d = N + 4 ∨ d = N ∨ d = N + 1 ∨ d = N + 2 := by simpa using m
      rcases e' with q | q | q | q | q <;> simp [q]
    · have := lt_of_get hu1
      have := lt_of_get hu2
      have := lt_of_get hu3
      simp only [List.size_toArray]; omega
    · obtain ⟨T, y1, y2, y3, rfl, hT, g1, g2, g3, hI⟩ := hY
      obtain ⟨hz', hTI', hTO', ⟨h1', _⟩, ⟨h2', _⟩, h3', _⟩ := hS
      have e1 := arr_get hu1 g1
      have e2 := arr_get hu2 g2
      have e3 := arr_get hu3 g3
      subst e1 e2 e3
      exact ⟨T, _, [x, y, z], rfl, hT, hI, .cons ru1 (.cons ru2 (.cons ru3 .nil)), by show 3 ≤ sizeLine; decide, ⟨x, y, z, rfl, fun ws hw => by rw [inv_seqB_inj I hw hqx]; exact hx, fun ws hw => by rw [inv_seqB_inj I hw hqy]; exact hy, fun ws hw => by rw [inv_seqB_inj I hw hqz]; exact hzz⟩, hz', hTI', hTO', h1', h2', h3'⟩
  · subst hP hw hK
    obtain ⟨hz, hTI, hTO, h1, h2, h3⟩ := st
    obtain ⟨xs, ys, zs, hqx, hqy, hqz, hi⟩ := hg
    obtain ⟨its1, rv1, p1, z1, l1⟩ := inv_seqB I hqx
    obtain ⟨its2, rv2, p2, z2, l2⟩ := inv_seqB I hqy
    obtain ⟨its3, rv3, p3, z3, l3⟩ := inv_seqB I hqz
    refine ⟨_, _, _, _, _, GoesN.zip3 S (drawsB t1 (handled1 I hc) N a n1 its1.toArray) (drawsB t2 (handled1 I hc) (N + 1) b n2 its2.toArray) (drawsB t3 (handled1 I hc) (N + 2) c n3 its3.toArray), fun d m => ?_, ?_⟩
    · have e' : d = N + 5 ∨ d = N + 4 ∨ d = N ∨ d = N + 1 ∨ d = N + 2 := by simpa using m
      rcases e' with q | q | q | q | q <;> simp [q]
    · have e1 : min (min its1.toArray.size its2.toArray.size) its3.toArray.size = i := by simp [← rv1.length, ← rv2.length, ← rv3.length, hi]
      rw [e1]
      exact ⟨hz, hTI, hTO, ⟨h1, p1⟩, ⟨h2, p2⟩, h3, p3⟩
def iZip3B (K : PySem.W.Frag) (ta : TA) : TI := fun σ H R => ta σ H fun vs H1 => ∃ t1 t2 t3 a b c xs ys zs, vs = [.ref a, .ref b, .ref c] ∧ SqB K H1 t1 a xs ∧ SqB K H1 t2 b ys ∧ SqB K H1 t3 c zs ∧ R (JZip3 K t1 t2 t3 a b c) H1
theorem pi_zip3B {X : Cx} {e e2 e3 : Expr} {ta : TA} {p pos tpos : Pos} {elts : List Expr} {kk : Nat} (hg : Gl X "zip") (hm : X.mg "zip" = none) (ha : PA X [e, e2, e3] ta)
    (hs : starEach [e, e2, e3] X.env = (false, eval e X.env) :: starEach [e2, e3] X.env := by rfl) (hpl : (backTo pos (starEach [e2, e3] X.env)).any (·.1) = false := by rfl) :
    PI X (.Tuple elts kk tpos) (.Call (.Name "zip" p) [e, e2, e3] [] pos) (iZip3B X.K ta) := by
  refine ⟨fun pins s σ H R I h => ?_⟩
  refine PyProof.Rows.Call_ (ld_blt I hg hm PyProof.Rows.boot_zip (PyProof.Rows.callWith_type1 (thn (ha.run pos pins s σ H _ I h) fun us s1 ⟨vs, H1, I1, r1, q1⟩ => ?_) hs hpl))
  obtain ⟨t1, t2, t3, a, b, c, xs, ys, zs, ex, hqx, hqy, hqz, q⟩ := q1
  subst ex
  cases r1 with
  | cons r rr =>
    cases rr with
    | cons r' rr =>
      cases rr with
      | cons r'' rr =>
        cases rr
        cases r
        cases r'
        cases r''
        obtain ⟨its1, rv1, p1, z1, l1⟩ := inv_seqB I1 hqx
        obtain ⟨its2, rv2, p2, z2, l2⟩ := inv_seqB I1 hqy
        obtain ⟨its3, rv3, p3, z3, l3⟩ := inv_seqB I1 hqz
        refine zip_begins3 (beginsB t1 a its1.toArray) (beginsB t2 b its2.toArray) (beginsB t3 c its3.toArray) p1 p2 p3 fun h' hz hTI hTO ho1 ho2 ho3 hsz hk => wpAny_pyIter_zip hz ?_
        have I2 : Inv X pins σ H1 { s1 with heap := h' } := I1.kept (t' := s1.toks) hk
        generalize hN : s1.heap.objs.size = N at *
        refine ⟨N + 5, [N + 5, N + 3, N + 4, N, N + 1, N + 2], _, _, H1, rfl, I2, turn_zip3B (t1 := t1) (t2 := t2) (t3 := t3) l1 l2 l3, ⟨hz, hTI, ⟨_, _, _, hTO⟩, HIt.new ho1, HIt.new ho2, HIt.new ho3⟩, fun d hdm => ?_, q⟩
        have e' : d = N + 5 ∨ d = N + 3 ∨ d = N + 4 ∨ d = N ∨ d = N + 1 ∨ d = N + 2 := by simpa using hdm
        have hle : N ≤ d := by
          rcases e' with z | z | z | z | z | z
          · rw [z]; exact Nat.le_add_right _ _
          · rw [z]; exact Nat.le_add_right _ _
          · rw [z]; exact Nat.le_add_right _ _
          · rw [z]; exact Nat.le_refl _
          · rw [z]; exact Nat.le_add_right _ _
          · rw [z]; exact Nat.le_add_right _ _
        rw [← hN] at hle
        exact I1.fpOk hle (I1.hok.fresh hle)
end PL

/-! PLIter3: what is walked, as pure functions. -/
namespace PL
open PySem PySem.Spec L2

def kD : Key → D
  | .inl i => .int i
  | .inr x => .str x
def lockT (H : Hp) (d : Addr) (u : HO) (R : Obj → Hp → Prop) : Prop := (H d = some u ∧ ∀ o, R o (upd H d (.frz o u))) ∨ (∃ o, H d = some (.frz o u) ∧ R o H)
def iAny (K : PySem.W.Frag) (tl : TE) : TI := fun σ H R => tl σ H fun x H1 => (∃ a, x = .ref a ∧ (∃ xs, SqL K H1 a xs) ∧ R (Itl K a) H1) ∨ (∃ a, x = .ref a ∧ (∃ xs, SqT K H1 a xs) ∧ R (Itt K a) H1) ∨ (∃ z, x = .str z ∧ R (Its z) H1) ∨
  (∃ d kvs, x = .ref d ∧ lockT H1 d (.dK kvs) fun o H2 => R (Itk d o kvs) H2) ∨ (∃ d kvs, x = .ref d ∧ lockT H1 d (.dT kvs) fun o H2 => R (Itkt d o kvs) H2)
section
variable {X : Cx} {tg l : Expr} {tl : TE}
theorem lock_of {pins : List (Addr × Obj)} {σ : St} {H : Hp} {s : Shared} {d : Addr} {u : HO} {R : Obj → Hp → Prop} (I : Inv X pins σ H s) (mu : Mut (some u)) (h : lockT H d u R) : ∃ o H2, Inv X pins σ H2 s ∧ H2 d = some (.frz o u) ∧ R o H2 := by
  rcases h with ⟨e, h⟩ | ⟨o, e, h⟩
  · obtain ⟨o, I2⟩ := I.lock e mu
    exact ⟨o, _, I2, upd_same, h o⟩
  · exact ⟨o, H, I, e, h⟩
theorem pi_any (hl : PE X l tl) : PI X tg l (iAny X.K tl) := by
  refine ⟨fun pins s σ H R I h => ?_⟩
  refine thn (hl.run pins s σ H _ I h) fun v s1 ⟨x, H1, I1, r1, q1⟩ => ?_
  have one : ∀ b ∈ [s1.heap.objs.size], FpOk X pins H1 b := fun b hb => by
    have e : b = s1.heap.objs.size := by simpa using hb
    subst e
    exact I1.fpOk (Nat.le_refl _) (I1.hok.fresh (Nat.le_refl _))
  rcases q1 with ⟨a, rfl, ⟨xs, hq⟩, q⟩ | ⟨a, rfl, ⟨xs, hq⟩, q⟩ | ⟨x, rfl, q⟩ | ⟨d, kvs, rfl, q⟩ | ⟨d, kvs, rfl, q⟩
  · cases r1
    obtain ⟨its, rv, p, hz⟩ := I1.list hq
    refine wpAny_pyIter_list p.isList ?_
    exact ⟨_, [s1.heap.objs.size], _, _, H1, rfl, I1.kept (t' := s1.toks) fun b o e => Heap.get?_push_of_some _ e, turn_list a _, ⟨_, Heap.get?_push_size _ rfl, rfl, rfl⟩, one, q⟩
  · cases r1
    obtain ⟨its, rv, p, hz⟩ := I1.tuple hq
    refine wpAny_pyIter_tuple (show s1.heap.IsTuple a its.toArray from p) ?_
    exact ⟨_, [s1.heap.objs.size], _, _, H1, rfl, I1.kept (t' := s1.toks) fun b o e => Heap.get?_push_of_some _ e, turn_tuple a _, ⟨_, Heap.get?_push_size _ rfl, rfl, rfl⟩, one, q⟩
  · obtain ⟨t, rfl⟩ := r1
    cases ha : x.cps.all (· < 128)
    · exact wpAny_pyIter_wide ha (pi_one (tk := s1.toks) I1 _ (turn_str _ x t "str_iterator" (.inr rfl)) ⟨_, Heap.get?_push_size _ rfl, rfl, rfl⟩ q)
    · exact wpAny_pyIter_ascii ha (pi_one (tk := s1.toks) I1 _ (turn_str _ x t "str_ascii_iterator" (.inl rfl)) ⟨_, Heap.get?_push_size _ rfl, rfl, rfl⟩ q)
  · obtain rfl : v = Value.ref d := r1
    obtain ⟨o, H2, I2, hd, q⟩ := lock_of I1 (by exact True.intro) q
    obtain ⟨hs, hgd, hx, es, ep, vs, hdt, hsz, kv, hm⟩ := I2.frzK hd
    refine iter_keys hs hgd hx hdt (pi_one (tk := s1.toks) I2 _ (turn_keys _ hdt) ⟨_, Heap.get?_push_size _ rfl, rfl, ?_⟩ q)
    rw [hsz] <;> rfl
  · obtain rfl : v = Value.ref d := r1
    obtain ⟨o, H2, I2, hd, q⟩ := lock_of I1 (by exact True.intro) q
    obtain ⟨hs, hgd, hx, es, ep, hdt, hsz, ent⟩ := I2.frzT hd
    refine iter_keys hs hgd hx hdt (pi_one (tk := s1.toks) I2 _ (turn_keysT _ hdt) ⟨_, Heap.get?_push_size _ rfl, rfl, ?_⟩ q)
    rw [hsz] <;> rfl
end

section
variable {K : PySem.W.Frag} {mg : Str → Option Value} {β β' : List Addr} {M M' B T T' Q : Addr → Prop} {H H' : Hp} {σ : St} {ρ : Lo} {st st' : Sto} {a : Addr} {as : List Addr} {vs : List V} {ds : List D} {v : V}
theorem it_get {ds : List D} {i : Nat} {d : D} (r : RpL K mg β M H vs ds) (e : ds[i]? = some d) : ∃ v, vs[i]? = some v ∧ Rp K mg β M H v d := r.get e
/-- a list, a tuple that stays -/
theorem itl_ok {t : Bool} {J : It} (hJ : J = if t = true then Itt K a else Itl K a) (hq : ∀ β2 M2 H2, β <+: β2 → (∀ a u, H a = some u → ¬ Q a → H2 a = some u) → Tr M M2 H H2 → SqB K H2 t a vs) (r : RpL K mg β M H vs ds) : ItOk K mg Q β M H J ds := by
  intro i β2 M2 H2 hb ex tr
  have q := hq β2 M2 H2 hb ex tr
  subst hJ
  cases t
  · refine ⟨fun d e => ?_, fun e => ⟨vs, q, by rw [r.length]; omega⟩⟩
    obtain ⟨v, e1, r1⟩ := r.get e
    refine ⟨⟨vs, v, q, e1⟩, fun x H3 y => ?_⟩
    obtain ⟨rfl, y⟩ := y
    have e2 := y vs q
    rw [e1] at e2; cases e2
    exact ⟨fun _ _ z => z, r1.tr tr hb⟩
  · refine ⟨fun d e => ?_, fun e => ⟨vs, q, by rw [r.length]; omega⟩⟩
    obtain ⟨v, e1, r1⟩ := r.get e
    refine ⟨⟨vs, v, q, e1⟩, fun x H3 y => ?_⟩
    obtain ⟨rfl, y⟩ := y
    have e2 := y vs q
    rw [e1] at e2; cases e2
    exact ⟨fun _ _ z => z, r1.tr tr hb⟩
theorem rp_kV (k : Key) : Rp K mg β M H (kV k) (kD k) := by
  cases k with
  | inl i => exact .int i
  | inr x => exact .str x
theorem rpl_kV : ∀ (ks : List Key), RpL K mg β M H (ks.map kV) (ks.map kD)
  | [] => .nil
  | k :: ks => .cons (rp_kV k) (rpl_kV ks)
theorem itk_ok {d : Addr} {o : Obj} {kvs : List (Key × V)} {es : List (Key × D)} (hd : H d = some (.frz o (.dK kvs))) (nq : ¬ Q d) (r : RpK K mg β M' H' kvs es) : ItOk K mg Q β M H (Itk d o kvs) (es.map fun p => kD p.1) := by
  intro i β2 M2 H2 hb ex tr
  have q := ex d _ hd nq
  have key : ∀ {kvs es} {i : Nat} {d : D}, RpK K mg β M' H' kvs es → (es.map fun p => kD p.1)[i]? = some d → ∃ k v, kvs[i]? = some (k, v) ∧ d = kD k := by
    intro kvs
    induction kvs with
    | nil => intro es i d r e; cases r; simp at e
    | cons p kvs ih => intro es i d r e; cases r with
      | cons r1 r2 => cases i with
        | zero => simp at e; exact ⟨_, _, rfl, e.symm⟩
        | succ i =>
          obtain ⟨k, v, e1, e2⟩ := ih (i := i) r2 (by simpa using e)
          exact ⟨k, v, by simpa using e1, e2⟩
  have len : ∀ {kvs es}, RpK K mg β M' H' kvs es → kvs.length = es.length := by
    intro kvs
    induction kvs with
    | nil => intro es r; cases r; rfl
    | cons p kvs ih => intro es r; cases r with
      | cons r1 r2 => simp [ih r2]
  refine ⟨fun dd e => ?_, fun e => ⟨q, by rw [len r]; simp at e; omega⟩⟩
  obtain ⟨k, v, e1, e2⟩ := key r e
  refine ⟨⟨q, lt_of_get e1⟩, fun x H3 y => ?_⟩
  obtain ⟨rfl, k2, v2, e3, rfl⟩ := y
  rw [e1] at e3; cases e3
  subst e2
  exact ⟨fun _ _ z => z, rp_kV k⟩
theorem rpt_key : ∀ {kvs : List (List Key × V)} {es : List (List Key × D)} {i : Nat} {k : List Key} {d : D}, RpT K mg β M H kvs es → es[i]? = some (k, d) → ∃ v, kvs[i]? = some (k, v) ∧ Rp K mg β M H v d := by
  intro kvs
  induction kvs with
  | nil => intro es i k d r e; cases r; simp at e
  | cons p kvs ih => intro es i k d r e; cases r with
    | cons r1 r2 => cases i with
      | zero => simp at e; obtain ⟨e1, e2⟩ := e; subst e1 e2; exact ⟨_, rfl, r1⟩
      | succ i =>
        obtain ⟨v, e1, e2⟩ := ih (i := i) r2 (by simpa using e)
        exact ⟨v, by simpa using e1, e2⟩
theorem rpk_key : ∀ {kvs : List (Key × V)} {es : List (Key × D)} {i : Nat} {k : Key} {d : D}, RpK K mg β M H kvs es → es[i]? = some (k, d) → ∃ v, kvs[i]? = some (k, v) ∧ Rp K mg β M H v d := by
  intro kvs
  induction kvs with
  | nil => intro es i k d r e; cases r; simp at e
  | cons p kvs ih => intro es i k d r e; cases r with
    | cons r1 r2 => cases i with
      | zero => simp at e; obtain ⟨e1, e2⟩ := e; subst e1 e2; exact ⟨_, rfl, r1⟩
      | succ i =>
        obtain ⟨v, e1, e2⟩ := ih (i := i) r2 (by simpa using e)
        exact ⟨v, by simpa using e1, e2⟩
theorem rpt_len : ∀ {kvs : List (List Key × V)} {es : List (List Key × D)}, RpT K mg β M H kvs es → kvs.length = es.length := by
  intro kvs
  induction kvs with
  | nil => intro es r; cases r; rfl
  | cons p kvs ih => intro es r; cases r with
    | cons r1 r2 => simp [ih r2]
theorem rpk_len : ∀ {kvs : List (Key × V)} {es : List (Key × D)}, RpK K mg β M H kvs es → kvs.length = es.length := by
  intro kvs
  induction kvs with
  | nil => intro es r; cases r; rfl
  | cons p kvs ih => intro es r; cases r with
    | cons r1 r2 => simp [ih r2]
theorem itkt_ok {d : Addr} {o : Obj} {kvs : List (List Key × V)} {es : List (List Key × D)} (hd : H d = some (.frz o (.dT kvs))) (nq : ¬ Q d) (r : RpT K mg β M' H' kvs es) : ItOk K mg Q β M H (Itkt d o kvs) (es.map fun p => .tup (p.1.map kD)) := by
  intro i β2 M2 H2 hb ex tr
  have q := ex d _ hd nq
  refine ⟨fun dd e => ?_, fun e => ⟨q, by rw [rpt_len r]; simp at e; omega⟩⟩
  rw [List.getElem?_map] at e
  cases e0 : es[i]? with
  | none => rw [e0] at e; cases e
  | some p =>
    rw [e0] at e
    obtain ⟨k, dv⟩ := p
    cases e
    obtain ⟨v, e1, _⟩ := rpt_key r e0
    refine ⟨⟨q, lt_of_get e1⟩, fun x H3 y => ?_⟩
    obtain ⟨rfl, k2, v2, qa, e3, rfl, hq⟩ := y
    rw [e1] at e3; cases e3
    exact ⟨fun _ _ z => z, .tup hq (rpl_kV k)⟩
theorem its_ok {x : Str} : ItOk K mg Q β M H (Its x) (x.cps.toList.map fun c => .str ⟨#[c]⟩) := by
  intro i β2 M2 H2 hb ex tr
  refine ⟨fun dd e => ?_, fun e => by simp at e; show x.cps.size ≤ i; omega⟩
  rw [List.getElem?_map] at e
  cases e0 : x.cps.toList[i]? with
  | none => rw [e0] at e; cases e
  | some c =>
    rw [e0] at e; cases e
    have e1 : x.cps[i]? = some c := by rw [← e0]; simp
    refine ⟨?_, fun y H3 h => ?_⟩
    · show i < x.cps.size
      rcases Nat.lt_or_ge i x.cps.size with h | h
      · exact h
      · rw [Array.getElem?_eq_none h] at e1; cases e1
    · obtain ⟨rfl, c2, e2, rfl⟩ := h
      rw [e1] at e2; cases e2
      exact ⟨fun _ _ z => z, .str _⟩

/-- for .. in e: a list, a tuple, a text, a dict -/
def srcD : D → Option (List D)
  | .lst ds => some ds
  | .tup ds => some ds
  | .str x => some (x.cps.toList.map fun c => .str ⟨#[c]⟩)
  | .dk es => some (es.map fun p => kD p.1)
  | .dt es => some (es.map fun p => .tup (p.1.map kD))
  | _ => none
def sAny (p : P) : Src := fun ρ st => match p ρ st with
  | some (.sh d, st') => match srcD d with
    | some ds => some (ds, false, st')
    | none => none
  | some (.ow d, st') => match srcD d with
    | some ds => some (ds, false, st')
    | none => none
  | some (.ro (.lst ds), st') => some (ds, true, st')
  | _ => none
/-- a sequence, as it stands: how it may be read later -/
def Sq4 (K : PySem.W.Frag) (mg : Str → Option Value) (β : List Addr) (M Q : Addr → Prop) (H : Hp) (t : Bool) (a : Addr) (vs : List V) : Prop := SqB K H t a vs ∧ ∀ β2 M2 H2, β <+: β2 → (∀ a u, H a = some u → ¬ Q a → H2 a = some u) → Tr M M2 H H2 → SqB K H2 t a vs
theorem sq_tup (h : Rp K mg β M H v (.tup ds)) : ∃ a vs, v = .ref a ∧ Sq4 K mg β M Q H true a vs ∧ RpL K mg β M H vs ds := by
  cases h with
  | tup r q => exact ⟨_, _, rfl, ⟨.inl (.inl r), fun β2 M2 H2 hb ex tr => .inl (.inl (tr.tup _ _ r))⟩, q⟩
theorem sq_lst (h : Rp K mg β M H v (.lst ds)) : ∃ a vs, v = .ref a ∧ Sq4 K mg β M Q H false a vs ∧ RpL K mg β M H vs ds := by
  cases h with
  | lst r n q => exact ⟨_, _, rfl, ⟨.inl r, fun β2 M2 H2 hb ex tr => .inl (tr.rd _ _ r trivial n)⟩, q⟩
  | lstK r q => exact ⟨_, _, rfl, ⟨r.sq, fun β2 M2 H2 hb ex tr => r.sq⟩, q⟩
theorem sq_ro (n : ¬ Q a) (h : Roc K mg β M H a (.lst ds)) : ∃ vs, Sq4 K mg β M Q H false a vs ∧ RpL K mg β M H vs ds := by
  rcases h with ⟨vs, ds', e, r, p⟩ | ⟨kvs, es, e, r, p⟩ | ⟨kvs, es, e, r, p⟩
  · cases e
    exact ⟨vs, ⟨.inl r, fun β2 M2 H2 hb ex tr => .inl (by
      rcases r with r | ⟨o, r⟩
      · exact .inl (ex _ _ r n)
      · exact .inr ⟨o, ex _ _ r n⟩)⟩, p⟩
  · cases e
  · cases e
end
section
variable {X : Cx} {tg e : Expr} {p : P}
theorem lkTr {K : PySem.W.Frag} {mg : Str → Option Value} {B T : Addr → Prop} {β : List Addr} {σ : St} {ρ : Lo} {st : Sto} {H : Hp} {lk : Option Lk} (h : SR K mg B T β σ H ρ st) : SR K mg B (Tp T []) β σ H ρ st := h.weak (fun a z => .inl z) fun a z => z.elim id fun m => absurd m (by simp)
theorem any_of {K : PySem.W.Frag} {mg : Str → Option Value} {σ : St} {H : Hp} {R : It → Hp → Prop} (w : TIs K mg (sAny p) σ H R) : iAny K (TP K mg p) σ H R := by
  obtain ⟨B, T, β, ρ, st, ds, r, st', sr, e, q⟩ := w
  -- shared things
  have sh : ∀ {d : D} {v : V} {H1 β1}, srcD d = some ds → r = false → Le (fun a => a ∈ β) β H β1 H1 → SR K mg B T β1 σ H1 ρ st' → Rp K mg β1 (Ma B T β1 σ ρ) H1 v d →
      (∃ a, v = .ref a ∧ (∃ xs, SqL K H1 a xs) ∧ R (Itl K a) H1) ∨ (∃ a, v = .ref a ∧ (∃ xs, SqT K H1 a xs) ∧ R (Itt K a) H1) ∨ (∃ z, v = .str z ∧ R (Its z) H1) ∨
      (∃ d kvs, v = .ref d ∧ lockT H1 d (.dK kvs) fun o H2 => R (Itk d o kvs) H2) ∨ (∃ d kvs, v = .ref d ∧ lockT H1 d (.dT kvs) fun o H2 => R (Itkt d o kvs) H2) := by
    intro d v H1 β1 ed er le s1 rp
    subst er
    have s1' := lkTr (lk := none) s1
    have eM : ∀ a, Ma B (Tp T []) β1 σ ρ a → Ma B T β1 σ ρ a := fun a m => by
      rcases m with m | (m | m) | m
      · exact .inl m
      · exact .inr (.inl m)
      · exact absurd m (by simp)
      · exact .inr (.inr m)
    have nQ : ∀ {a}, ¬ Ma B T β1 σ ρ a → ¬ Qf false β1 σ ρ a := fun n z => n (by
      rcases z with z | ⟨_, z⟩
      · exact .inr (.inr (.inl z))
      · exact .inr (.inr (.inr z)))
    have rp' := rp.tr (Tr.sub eM) (List.prefix_refl _)
    have go0 : ∀ {J}, ItOk K mg (Qf false β1 σ ρ) β1 (Ma B (Tp T []) β1 σ ρ) H1 J ds → R J H1 := fun it => q _ H1 β1 [] none le (fun a m => absurd m (by simp)) s1' (fun a m => absurd m (by simp)) trivial it
    have go1 : ∀ {J d u o}, H1 d = some u → Mut (some u) → ¬ Ma B T β1 σ ρ d → ItOk K mg (Qf false β1 σ ρ) β1 (Ma B (Tp T []) β1 σ ρ) (upd H1 d (.frz o u)) J ds → R J (upd H1 d (.frz o u)) := fun {J d u o} e mu n it =>
      q _ H1 β1 [] (some ⟨d, o, u⟩) le (fun a m => absurd m (by simp)) s1' (fun a m => absurd m (by simp)) ⟨e, mu, fun m => n (eM _ m)⟩ it
    cases d with
    | lst xs =>
      cases ed
      obtain ⟨a, vs, rfl, hs, hr⟩ := sq_lst (Q := Qf false β1 σ ρ) rp'
      exact .inl ⟨a, rfl, ⟨vs, hs.1⟩, go0 (itl_ok (t := false) rfl hs.2 hr)⟩
    | tup xs =>
      cases ed
      obtain ⟨a, vs, rfl, hs, hr⟩ := sq_tup (Q := Qf false β1 σ ρ) rp'
      exact .inr (.inl ⟨a, rfl, ⟨vs, hs.1⟩, go0 (itl_ok (t := true) rfl hs.2 hr)⟩)
    | str x =>
      cases ed
      obtain rfl := rp.str1
      exact .inr (.inr (.inl ⟨x, rfl, go0 its_ok⟩))
    | dk es =>
      cases ed
      cases rp with
      | @dK a kvs _ r1 n r2 =>
        refine .inr (.inr (.inr (.inl ⟨a, kvs, rfl, ?_⟩)))
        rcases r1 with r1 | ⟨o, r1⟩
        · exact .inl ⟨r1, fun o => go1 r1 trivial n (itk_ok upd_same (nQ n) r2)⟩
        · exact .inr ⟨o, r1, go0 (itk_ok r1 (nQ n) r2)⟩
    | dt es =>
      cases ed
      cases rp with
      | @dT a kvs _ r1 n r2 =>
        refine .inr (.inr (.inr (.inr ⟨a, kvs, rfl, ?_⟩)))
        rcases r1 with r1 | ⟨o, r1⟩
        · exact .inl ⟨r1, fun o => go1 r1 trivial n (itkt_ok upd_same (nQ n) r2)⟩
        · exact .inr ⟨o, r1, go0 (itkt_ok r1 (nQ n) r2)⟩
    | _ => cases ed
  unfold sAny at e
  split at e
  · next d st1 e1 =>
    split at e
    · next ds' ed =>
      cases e
      refine ⟨B, T, β, ρ, st, _, _, sr, e1, fun v H1 β1 as le fr P => ?_⟩
      have rl := P.shs (ds := [d]) rfl
      cases rl with
      | cons r1 _ => exact sh ed rfl le P.drop r1
    · cases e
  · next d st1 e1 =>
    split at e
    · next ds' ed =>
      cases e
      refine ⟨B, T, β, ρ, st, _, _, sr, e1, fun v H1 β1 as le fr P => ?_⟩
      have rl := P.shs (ds := [d]) rfl
      cases rl with
      | cons r1 _ => exact sh ed rfl le P.drop r1
    · cases e
  · next ds' st1 e1 =>
    cases e
    refine ⟨B, T, β, ρ, st, _, _, sr, e1, fun v H1 β1 as le fr P => ?_⟩
    have rl := P.rl
    cases rl with
    | ro n1 n2 r1 r2 =>
      cases r2
      obtain ⟨vs, hs, hr⟩ := sq_ro (Q := Qf true β1 σ ρ) (fun z => z.elim n1 fun z => Bool.noConfusion z.1) r1
      exact .inl ⟨_, rfl, ⟨vs, hs.1⟩, q _ H1 β1 [] none le fr P.sr (fun a m => absurd m (by simp)) trivial (itl_ok (t := false) rfl hs.2 hr)⟩
  · cases e
theorem ix_any (h : PX X e p) : IX X tg e (sAny p) := (pi_any h).imp fun _ _ _ w => any_of w
end

/-! ### ranges -/
def rngL (lo c : Int) (n : Nat) : List D := (List.range n).map fun i => .int (lo + (i : Nat) * c)
def sRng1 (g : Ar) : Src := fun ρ st => match g ρ st with
  | some ([.sh (.int j)], st') => if -(2 ^ 62) ≤ j ∧ j < 2 ^ 62 then some (rngL 0 1 j.toNat, false, st') else none
  | _ => none
def sRng2 (g : Ar) : Src := fun ρ st => match g ρ st with
  | some ([.sh (.int i), .sh (.int j)], st') => if -(2 ^ 62) ≤ i ∧ i < 2 ^ 62 ∧ -(2 ^ 62) ≤ j ∧ j < 2 ^ 62 then some (rngL i 1 (j - i).toNat, false, st') else none
  | _ => none
/-- a step of -1, or of 1 or more -/
def sRng3 (g : Ar) : Src := fun ρ st => match g ρ st with
  | some ([.sh (.int i), .sh (.int j), .sh (.int c)], st') => if c = -1 ∧ -(2 ^ 62) ≤ i ∧ i < 2 ^ 62 ∧ -(2 ^ 62) ≤ j ∧ j < 2 ^ 62 then some (rngL i (-1) (i - j).toNat, false, st') else none
  | _ => none
section
variable {K : PySem.W.Frag} {mg : Str → Option Value} {β β' : List Addr} {M M' B T T' Q : Addr → Prop} {H H' : Hp} {σ : St} {ρ : Lo} {st st' : Sto} {a : Addr} {as : List Addr} {vs : List V} {svs : List SV} {ds : List D} {v : V}
theorem rng_ok {J : It} {lo c : Int} {n : Nat} (hg : ∀ i H, i < n → J.go i H) (hs : ∀ H, J.stop n H) (hy : ∀ i H x H', J.yld i H x H' → H' = H ∧ x = .int (lo + (i : Nat) * c)) : ItOk K mg Q β M H J (rngL lo c n) := by
  intro i β2 M2 H2 hb ex tr
  refine ⟨fun dd e => ?_, fun e => ?_⟩
  · unfold rngL at e
    rw [List.getElem?_map] at e
    cases e0 : (List.range n)[i]? with
    | none => rw [e0] at e; cases e
    | some j =>
      rw [e0] at e
      cases e
      have hi := lt_of_get e0
      rw [List.length_range] at hi
      rw [List.getElem?_range hi] at e0
      cases e0
      refine ⟨hg i H2 hi, fun x H3 y => ?_⟩
      obtain ⟨rfl, rfl⟩ := hy _ _ _ _ y
      exact ⟨fun _ _ z => z, .int _⟩
  · simp [rngL] at e
    subst e
    exact hs H2
theorem RL.int1 {i : Int} (h : RL K mg β M T H vs (.sh (.int i) :: svs) as) : ∃ ws, vs = .int i :: ws ∧ RL K mg β M T H ws svs as := by
  obtain ⟨v, ws, rfl, r, q⟩ := h.sh1
  rw [r.int1]; exact ⟨ws, rfl, q⟩
end
section
variable {X : Cx} {tg a b c : Expr} {g : Ar} {p pos : Pos}
theorem ix_range1 (hg : Gl X "range") (hm : X.mg "range" = none) (ha : AX X [a] g) (hs : starEach [a] X.env = [(false, eval a X.env)] := by rfl) : IX X tg (.Call (.Name "range" p) [a] [] pos) (sRng1 g) := (pi_range1 hg hm ha hs).imp fun σ H R w => by
  obtain ⟨B, T, β, ρ, st, ds, r, st', sr, e, q⟩ := w
  unfold sRng1 at e
  split at e
  · next j st1 eg =>
    split at e
    · next hj =>
      cases e
      refine ⟨B, T, β, ρ, st, _, _, sr, eg, fun vs H1 β1 as le fr P => ?_⟩
      obtain ⟨ws, rfl, r1⟩ := P.rl.int1
      obtain ⟨rfl, rfl⟩ := r1.nil1
      exact ⟨j, rfl, hj.1, hj.2, q _ H1 β1 [] none le fr P.sr (fun a m => absurd m (by simp)) trivial (rng_ok (fun i H h => h) (fun H => Nat.le_refl _) fun i H x H' y => ⟨y.1, by rw [y.2, Int.mul_one]⟩)⟩
    · cases e
  · cases e
theorem ix_range2 (hg : Gl X "range") (hm : X.mg "range" = none) (ha : AX X [a, b] g) (hs : starEach [a, b] X.env = [(false, eval a X.env), (false, eval b X.env)] := by rfl) (hs2 : starEach [b] X.env = [(false, eval b X.env)] := by rfl) :
    IX X tg (.Call (.Name "range" p) [a, b] [] pos) (sRng2 g) := (pi_range2 hg hm ha hs hs2).imp fun σ H R w => by
  obtain ⟨B, T, β, ρ, st, ds, r, st', sr, e, q⟩ := w
  unfold sRng2 at e
  split at e
  · next i j st1 eg =>
    split at e
    · next hj =>
      cases e
      refine ⟨B, T, β, ρ, st, _, _, sr, eg, fun vs H1 β1 as le fr P => ?_⟩
      obtain ⟨ws, rfl, r1⟩ := P.rl.int1
      obtain ⟨ws2, rfl, r2⟩ := r1.int1
      obtain ⟨rfl, rfl⟩ := r2.nil1
      exact ⟨i, j, rfl, hj, q _ H1 β1 [] none le fr P.sr (fun a m => absurd m (by simp)) trivial (rng_ok (fun i H h => h) (fun H => Nat.le_refl _) fun i H x H' y => ⟨y.1, by rw [y.2, Int.mul_one]⟩)⟩
    · cases e
  · cases e
theorem ix_range3 (hg : Gl X "range") (hm : X.mg "range" = none) (ha : AX X [a, b, c] g) (hs : starEach [a, b, c] X.env = (false, eval a X.env) :: starEach [b, c] X.env := by rfl) (hpl : (backTo pos (starEach [b, c] X.env)).any (·.1) = false := by rfl) :
    IX X tg (.Call (.Name "range" p) [a, b, c] [] pos) (sRng3 g) := (pi_range3 hg hm ha hs hpl).imp fun σ H R w => by
  obtain ⟨B, T, β, ρ, st, ds, r, st', sr, e, q⟩ := w
  unfold sRng3 at e
  split at e
  · next i j c st1 eg =>
    split at e
    · next hj =>
      cases e
      obtain ⟨rfl, h1, h2, h3, h4⟩ := hj
      refine ⟨B, T, β, ρ, st, _, _, sr, eg, fun vs H1 β1 as le fr P => ?_⟩
      obtain ⟨ws, rfl, r1⟩ := P.rl.int1
      obtain ⟨ws2, rfl, r2⟩ := r1.int1
      obtain ⟨ws3, rfl, r3⟩ := r2.int1
      obtain ⟨rfl, rfl⟩ := r3.nil1
      exact ⟨i, j, -1, _, rfl, RgC.neg h1 h2 h3 h4, q _ H1 β1 [] none le fr P.sr (fun a m => absurd m (by simp)) trivial (rng_ok (fun i H h => h) (fun H => Nat.le_refl _) fun i H x H' y => y)⟩
    · cases e
  · cases e
end

/-! ### enumerate, zip -/
/-- a list or a tuple, as it stands behind the arguments -/
def seqOf : SV → Option (List D)
  | .sh (.lst ds) => some ds
  | .sh (.tup ds) => some ds
  | .ow (.lst ds) => some ds
  | .ro (.lst ds) => some ds
  | _ => none
def isRo : SV → Bool
  | .ro _ => true | _ => false
def enumL : Nat → List D → List D
  | _, [] => []
  | n, d :: ds => .tup [.int (n : Nat), d] :: enumL (n + 1) ds
def sEnum (g : Ar) : Src := fun ρ st => match g ρ st with
  | some ([x], st') => match seqOf x with
    | some ds => some (enumL 0 ds, isRo x, st')
    | none => none
  | _ => none
def sZip2 (g : Ar) : Src := fun ρ st => match g ρ st with
  | some ([x, y], st') => match seqOf x, seqOf y with
    | some xs, some ys => some (List.zipWith (fun a b => .tup [a, b]) xs ys, isRo x || isRo y, st')
    | _, _ => none
  | _ => none
def zip3L : List D → List D → List D → List D
  | x :: xs, y :: ys, z :: zs => .tup [x, y, z] :: zip3L xs ys zs
  | _, _, _ => []
def sZip3 (g : Ar) : Src := fun ρ st => match g ρ st with
  | some ([x, y, z], st') => match seqOf x, seqOf y, seqOf z with
    | some xs, some ys, some zs => some (zip3L xs ys zs, isRo x || isRo y || isRo z, st')
    | _, _, _ => none
  | _ => none
theorem enumL_get : ∀ (ds : List D) (n i : Nat) (d : D), (enumL n ds)[i]? = some d → ∃ x, ds[i]? = some x ∧ d = .tup [.int ((n + i : Nat) : Int), x]
  | [], _, _, _, e => by simp [enumL] at e
  | x :: ds, n, 0, d, e => by simp [enumL] at e; subst e; exact ⟨x, rfl, rfl⟩
  | x :: ds, n, i + 1, d, e => by
    obtain ⟨y, h1, h2⟩ := enumL_get ds (n + 1) i d (by simpa [enumL] using e)
    exact ⟨y, by simpa using h1, by rw [h2, Nat.add_right_comm n 1 i]; rfl⟩
theorem enumL_len : ∀ (ds : List D) (n : Nat), (enumL n ds).length = ds.length
  | [], _ => rfl
  | x :: ds, n => by simp [enumL, enumL_len ds (n + 1)]
theorem zip3L_get : ∀ (xs ys zs : List D) (i : Nat) (d : D), (zip3L xs ys zs)[i]? = some d → ∃ x y z, xs[i]? = some x ∧ ys[i]? = some y ∧ zs[i]? = some z ∧ d = .tup [x, y, z]
  | x :: xs, y :: ys, z :: zs, 0, d, e => by simp [zip3L] at e; subst e; exact ⟨x, y, z, rfl, rfl, rfl, rfl⟩
  | x :: xs, y :: ys, z :: zs, i + 1, d, e => by
    obtain ⟨a, b, c, h1, h2, h3, h4⟩ := zip3L_get xs ys zs i d (by simpa [zip3L] using e)
    exact ⟨a, b, c, by simpa using h1, by simpa using h2, by simpa using h3, h4⟩
  | [], _, _, i, d, e => by simp [zip3L] at e
  | _ :: _, [], _, i, d, e => by simp [zip3L] at e
  | _ :: _, _ :: _, [], i, d, e => by simp [zip3L] at e
theorem zip3L_len : ∀ (xs ys zs : List D), (zip3L xs ys zs).length = min (min xs.length ys.length) zs.length
  | x :: xs, y :: ys, z :: zs => by simp [zip3L, zip3L_len xs ys zs]
  | [], _, _ => by simp [zip3L]
  | _ :: _, [], _ => by simp [zip3L]
  | _ :: _, _ :: _, [] => by simp [zip3L]
section
variable {K : PySem.W.Frag} {mg : Str → Option Value} {β β' : List Addr} {M M' B T T' Q : Addr → Prop} {H H' : Hp} {σ : St} {ρ : Lo} {st st' : Sto} {a : Addr} {as bs : List Addr} {vs : List V} {svs : List SV} {ds : List D} {v : V} {x : SV}
/-- what stands for a list or tuple, read as long as it stays -/
theorem sqv_of (hQ : ∀ a, Q a → a ∈ β ∨ M a) (hQr : isRo x = true → ∀ a, Q a → a ∈ β) (hQo : ∀ a ∈ as, ¬ Q a) (h : RL K mg β M T H [v] [x] as) (e : seqOf x = some ds) (hb : ∀ a ∈ β, M a) : ∃ t a vs, v = .ref a ∧ Sq4 K mg β M Q H t a vs ∧ RpL K mg β M H vs ds := by
  cases h with
  | @sh _ d _ _ _ r _ =>
    cases d with
    | lst xs => cases e; obtain ⟨a, vs, rfl, h1, h2⟩ := sq_lst (Q := Q) r; exact ⟨false, a, vs, rfl, h1, h2⟩
    | tup xs => cases e; obtain ⟨a, vs, rfl, h1, h2⟩ := sq_tup (Q := Q) r; exact ⟨true, a, vs, rfl, h1, h2⟩
    | _ => cases e
  | @ro _ d _ _ _ n1 n2 r _ =>
    cases d with
    | lst xs => cases e; obtain ⟨vs, h1, h2⟩ := sq_ro (Q := Q) (fun z => n1 (hQr rfl _ z)) r; exact ⟨false, _, vs, rfl, h1, h2⟩
    | _ => cases e
  | @ow _ d _ _ _ r _ =>
    cases d with
    | lst xs => cases e; obtain ⟨vs, h1, h2⟩ := sq_ro (Q := Q) (hQo _ List.mem_cons_self) (Owc.roc r); exact ⟨false, _, vs, rfl, h1, h2⟩
    | _ => cases e
theorem enum_ok {t : Bool} (hq : Sq4 K mg β M Q H t a vs) (r : RpL K mg β M H vs ds) : ItOk K mg Q β M H (JEnum K t a) (enumL 0 ds) := by
  intro i β2 M2 H2 hb ex tr
  have q := hq.2 β2 M2 H2 hb ex tr
  refine ⟨fun d e => ?_, fun e => ⟨vs, q, by rw [r.length, ← e, enumL_len]⟩⟩
  obtain ⟨x, e1, rfl⟩ := enumL_get ds 0 i d e
  obtain ⟨v, e2, r1⟩ := r.get e1
  refine ⟨⟨vs, v, q, e2⟩, fun y H3 h => ?_⟩
  obtain ⟨T, ys, rfl, hT, rfl, x', rfl, h⟩ := h
  have e3 := h vs q
  rw [e2] at e3; cases e3
  refine ⟨up_ex hT, .tup upd_same (.cons ?_ (.cons ((r1.tr tr hb).tr (up_tr hT fun a m => .inl m) (List.prefix_refl _)) .nil))⟩
  rw [Nat.zero_add]
  exact .int _
theorem zip2_ok {t1 t2 : Bool} {b : Addr} {ws : List V} {es : List D} (hq1 : Sq4 K mg β M Q H t1 a vs) (hq2 : Sq4 K mg β M Q H t2 b ws) (r1 : RpL K mg β M H vs ds) (r2 : RpL K mg β M H ws es) : ItOk K mg Q β M H (JZip2 K t1 t2 a b) (List.zipWith (fun a b => .tup [a, b]) ds es) := by
  intro i β2 M2 H2 hb ex tr
  have q1 := hq1.2 β2 M2 H2 hb ex tr
  have q2 := hq2.2 β2 M2 H2 hb ex tr
  refine ⟨fun d e => ?_, fun e => ⟨vs, ws, q1, q2, by rw [r1.length, r2.length, ← e, List.length_zipWith]⟩⟩
  rw [List.getElem?_zipWith] at e
  cases e1 : ds[i]? with
  | none => rw [e1] at e; cases e
  | some d1 =>
    cases e2 : es[i]? with
    | none => rw [e1, e2] at e; cases e
    | some d2 =>
      rw [e1, e2] at e
      cases e
      obtain ⟨v1, f1, p1⟩ := r1.get e1
      obtain ⟨v2, f2, p2⟩ := r2.get e2
      refine ⟨⟨vs, ws, v1, v2, q1, q2, f1, f2⟩, fun y H3 h => ?_⟩
      obtain ⟨T, ys, rfl, hT, rfl, x', y', rfl, g1, g2⟩ := h
      have e3 := g1 vs q1
      have e4 := g2 ws q2
      rw [f1] at e3; cases e3
      rw [f2] at e4; cases e4
      have up := up_tr (M := M2) (M' := M2) (o := .tup [v1, v2]) hT fun a m => .inl m
      exact ⟨up_ex hT, .tup upd_same (.cons ((p1.tr tr hb).tr up (List.prefix_refl _)) (.cons ((p2.tr tr hb).tr up (List.prefix_refl _)) .nil))⟩
theorem zip3_ok {t1 t2 t3 : Bool} {b c : Addr} {ws us : List V} {es fs : List D} (hq1 : Sq4 K mg β M Q H t1 a vs) (hq2 : Sq4 K mg β M Q H t2 b ws) (hq3 : Sq4 K mg β M Q H t3 c us) (r1 : RpL K mg β M H vs ds) (r2 : RpL K mg β M H ws es) (r3 : RpL K mg β M H us fs) :
    ItOk K mg Q β M H (JZip3 K t1 t2 t3 a b c) (zip3L ds es fs) := by
  intro i β2 M2 H2 hb ex tr
  have q1 := hq1.2 β2 M2 H2 hb ex tr
  have q2 := hq2.2 β2 M2 H2 hb ex tr
  have q3 := hq3.2 β2 M2 H2 hb ex tr
  refine ⟨fun d e => ?_, fun e => ⟨vs, ws, us, q1, q2, q3, by rw [r1.length, r2.length, r3.length, ← e, zip3L_len]⟩⟩
  obtain ⟨d1, d2, d3, e1, e2, e3, rfl⟩ := zip3L_get _ _ _ _ _ e
  obtain ⟨v1, f1, p1⟩ := r1.get e1
  obtain ⟨v2, f2, p2⟩ := r2.get e2
  obtain ⟨v3, f3, p3⟩ := r3.get e3
  refine ⟨⟨vs, ws, us, v1, v2, v3, q1, q2, q3, f1, f2, f3⟩, fun y H3 h => ?_⟩
  obtain ⟨T, ys, rfl, hT, rfl, x', y', z', rfl, g1, g2, g3⟩ := h
  have e3 := g1 vs q1
  have e4 := g2 ws q2
  have e5 := g3 us q3
  rw [f1] at e3; cases e3
  rw [f2] at e4; cases e4
  rw [f3] at e5; cases e5
  have up := up_tr (M := M2) (M' := M2) (o := .tup [v1, v2, v3]) hT fun a m => .inl m
  exact ⟨up_ex hT, .tup upd_same (.cons ((p1.tr tr hb).tr up (List.prefix_refl _)) (.cons ((p2.tr tr hb).tr up (List.prefix_refl _)) (.cons ((p3.tr tr hb).tr up (List.prefix_refl _)) .nil)))⟩
theorem RL.one3 {y z : V} {s t : SV} (h : RL K mg β M T H [v, y, z] [x, s, t] as) : ∃ as1 as2, RL K mg β M T H [v] [x] as1 ∧ RL K mg β M T H [y, z] [s, t] as2 ∧ (∀ a ∈ as1, a ∈ as) ∧ ∀ a ∈ as2, a ∈ as := by
  cases h with
  | sh r q => exact ⟨[], _, .sh r .nil, q, fun a m => absurd m (by simp), fun a m => m⟩
  | ro n1 n2 r q => exact ⟨[], _, .ro n1 n2 r .nil, q, fun a m => absurd m (by simp), fun a m => m⟩
  | ow r q => exact ⟨[_], _, .ow r .nil, q, fun a m => by simp at m; simp [m], fun a m => List.mem_cons_of_mem _ m⟩
theorem RL.one2 {y : V} {s : SV} (h : RL K mg β M T H [v, y] [x, s] as) : ∃ as1 as2, RL K mg β M T H [v] [x] as1 ∧ RL K mg β M T H [y] [s] as2 ∧ (∀ a ∈ as1, a ∈ as) ∧ ∀ a ∈ as2, a ∈ as := by
  cases h with
  | sh r q => exact ⟨[], _, .sh r .nil, q, fun a m => absurd m (by simp), fun a m => m⟩
  | ro n1 n2 r q => exact ⟨[], _, .ro n1 n2 r .nil, q, fun a m => absurd m (by simp), fun a m => m⟩
  | ow r q => exact ⟨[_], _, .ow r .nil, q, fun a m => by simp at m; simp [m], fun a m => List.mem_cons_of_mem _ m⟩
theorem Qf_out {r : Bool} (P : Po K mg B T β σ H ρ st vs svs as) : (∀ a, Qf r β σ ρ a → a ∈ β ∨ Ma B (Tp T as) β σ ρ a) ∧ (r = true → ∀ a, Qf r β σ ρ a → a ∈ β) ∧ (∀ a ∈ as, ¬ Qf r β σ ρ a) ∧ ∀ a ∈ β, Ma B (Tp T as) β σ ρ a :=
  ⟨fun a z => z.imp id fun z => .inr (.inr (.inr z.2)), fun e a z => z.elim id fun z => absurd (e.symm.trans z.1) (by decide), fun a m z => P.out a m (z.elim (fun z => .inr (.inr (.inl z))) fun z => .inr (.inr (.inr z.2))), fun a m => .inr (.inr (.inl m))⟩
end
section
variable {X : Cx} {e e2 e3 : Expr} {g : Ar} {p pos tpos : Pos} {elts : List Expr} {kk : Nat}
theorem ix_enum (hg : Gl X "enumerate") (hm : X.mg "enumerate" = none) (ha : AX X [e] g) (hs : starEach [e] X.env = [(false, eval e X.env)] := by rfl) :
    IX X (.Tuple elts kk tpos) (.Call (.Name "enumerate" p) [e] [] pos) (sEnum g) := (pi_enumB hg hm ha hs).imp fun σ H R w => by
  obtain ⟨B, T, β, ρ, st, ds, r, st', sr, e, q⟩ := w
  unfold sEnum at e
  split at e
  · next x st1 eg =>
    split at e
    · next es ex =>
      cases e
      refine ⟨B, T, β, ρ, st, _, _, sr, eg, fun vs H1 β1 as le fr P => ?_⟩
      obtain ⟨k1, k2, k3, k4⟩ := Qf_out (r := isRo x) P
      have hl := RL.length P.rl
      match vs, hl with
      | [v], _ =>
        obtain ⟨t, a, ws, rfl, s1, s2⟩ := sqv_of k1 k2 k3 P.rl ex k4
        exact ⟨t, a, ws, rfl, s1.1, q _ H1 β1 as none le fr P.sr P.out trivial (enum_ok s1 s2)⟩
    · cases e
  · cases e
theorem ix_zip2 (hg : Gl X "zip") (hm : X.mg "zip" = none) (ha : AX X [e, e2] g) (hs : starEach [e, e2] X.env = (false, eval e X.env) :: starEach [e2] X.env := by rfl) (hpl : (backTo pos (starEach [e2] X.env)).any (·.1) = false := by rfl) :
    IX X (.Tuple elts kk tpos) (.Call (.Name "zip" p) [e, e2] [] pos) (sZip2 g) := (pi_zip2B hg hm ha hs hpl).imp fun σ H R w => by
  obtain ⟨B, T, β, ρ, st, ds, r, st', sr, e, q⟩ := w
  unfold sZip2 at e
  split at e
  · next x y st1 eg =>
    split at e
    · next xs ys ex ey =>
      cases e
      refine ⟨B, T, β, ρ, st, _, _, sr, eg, fun vs H1 β1 as le fr P => ?_⟩
      obtain ⟨k1, k2, k3, k4⟩ := Qf_out (r := isRo x || isRo y) P
      have hl := RL.length P.rl
      match vs, hl with
      | [v, v2], _ =>
        obtain ⟨as1, as2, r1, r2, m1, m2⟩ := RL.one2 P.rl
        obtain ⟨t, a, ws, rfl, s1, s2⟩ := sqv_of k1 (fun z => k2 (by simp [z])) (fun a m => k3 a (m1 a m)) r1 ex k4
        obtain ⟨t2, a2, ws2, rfl, s3, s4⟩ := sqv_of k1 (fun z => k2 (by simp [z])) (fun a m => k3 a (m2 a m)) r2 ey k4
        exact ⟨t, t2, a, a2, ws, ws2, rfl, s1.1, s3.1, q _ H1 β1 as none le fr P.sr P.out trivial (zip2_ok s1 s3 s2 s4)⟩
    · cases e
  · cases e
theorem ix_zip3 (hg : Gl X "zip") (hm : X.mg "zip" = none) (ha : AX X [e, e2, e3] g) (hs : starEach [e, e2, e3] X.env = (false, eval e X.env) :: starEach [e2, e3] X.env := by rfl) (hpl : (backTo pos (starEach [e2, e3] X.env)).any (·.1) = false := by rfl) :
    IX X (.Tuple elts kk tpos) (.Call (.Name "zip" p) [e, e2, e3] [] pos) (sZip3 g) := (pi_zip3B hg hm ha hs hpl).imp fun σ H R w => by
  obtain ⟨B, T, β, ρ, st, ds, r, st', sr, e, q⟩ := w
  unfold sZip3 at e
  split at e
  · next x y z st1 eg =>
    split at e
    · next xs ys zs ex ey ez =>
      cases e
      refine ⟨B, T, β, ρ, st, _, _, sr, eg, fun vs H1 β1 as le fr P => ?_⟩
      obtain ⟨k1, k2, k3, k4⟩ := Qf_out (r := isRo x || isRo y || isRo z) P
      have hl := RL.length P.rl
      match vs, hl with
      | [v, v2, v3], _ =>
        obtain ⟨as1, as2, r1, r2, m1, m2⟩ := RL.one3 P.rl
        obtain ⟨as3, as4, r3, r4, m3, m4⟩ := RL.one2 r2
        obtain ⟨t, a, ws, rfl, s1, s2⟩ := sqv_of k1 (fun z => k2 (by simp [z])) (fun a m => k3 a (m1 a m)) r1 ex k4
        obtain ⟨t2, a2, ws2, rfl, s3, s4⟩ := sqv_of k1 (fun z => k2 (by simp [z])) (fun a m => k3 a (m2 a (m3 a m))) r3 ey k4
        obtain ⟨t3, a3, ws3, rfl, s5, s6⟩ := sqv_of k1 (fun z => k2 (by simp [z])) (fun a m => k3 a (m2 a (m4 a m))) r4 ez k4
        exact ⟨t, t2, t3, a, a2, a3, ws, ws2, ws3, rfl, s1.1, s3.1, s5.1, q _ H1 β1 as none le fr P.sr P.out trivial (zip3_ok s1 s3 s5 s2 s4 s6)⟩
    · cases e
  · cases e
end
end PL

/-! PLIter4: d.items(). -/
namespace PL
open PySem PySem.Spec L2

section
variable {X : Cx} {pins : List (Addr × Obj)} {σ : St} {H : Hp} {s : Shared} {d : Addr} {o : Obj} {u : HO}
/-- a dict's pairs: key and value -/
def Ent (H : Hp) : HO → Nat → V → V → Prop
  | .dK kvs, i, x, v => ∃ k, kvs[i]? = some (k, v) ∧ x = kV k
  | .dT kvs, i, x, v => ∃ k q, kvs[i]? = some (k, v) ∧ x = .ref q ∧ H q = some (.tup (k.map kV))
  | _, _, _, _ => False
def entN : HO → Nat
  | .dK kvs => kvs.length
  | .dT kvs => kvs.length
  | _ => 0
def isD : HO → Prop
  | .dK _ => True
  | .dT _ => True
  | _ => False
/-- the object of a dict -/
theorem dict_raw (I : Inv X pins σ H s) (hd : isD u) (h : Rd H d u) : (d == sysModules) = false ∧ entN u ≤ sizeLine ∧ ∃ ob es ep, s.heap.get? d = some ob ∧ ob.ExactDict ∧ ob.data = .dict es ep ∧ es.size = entN u ∧
    ∀ i (hi : i < es.size), ∃ x v, Ent H u i x v ∧ RelV x es[i].key ∧ RelV v es[i].val := by
  have q := h.ok I.hok
  cases u with
  | dK kvs =>
    obtain ⟨z, hs, vs, kv, dd⟩ := q
    obtain ⟨es, ep, ⟨ob, ho, hx, hdt⟩, hsz, hent⟩ := dd.raw
    have hl : kvs.length = vs.length := Paired.length kv
    refine ⟨hs, z, ob, es, ep, ho, hx, hdt, by rw [hsz, ← hl]; rfl, fun i hi => ?_⟩
    have hik : i < kvs.length := by omega
    obtain ⟨u, hu, ru⟩ := kv_get kv (k := kvs[i].1) (v := kvs[i].2) (i := i) (List.getElem?_eq_getElem hik)
    obtain ⟨e1, e2⟩ := hent i hi _ _ hu
    exact ⟨kV kvs[i].1, kvs[i].2, ⟨kvs[i].1, List.getElem?_eq_getElem hik, rfl⟩, relV_key (show keyIs _ _ = true from e1), by rw [e2]; exact ru⟩
  | dT kvs =>
    obtain ⟨z, hs, xs, pr, ob, es, ep, ho, hx, hdt, he, _⟩ := q
    have hsz : es.size = xs.length := size_of_entries he
    have hl : kvs.length = xs.length := Paired.length pr
    refine ⟨hs, z, ob, es, ep, ho, hx, hdt, by rw [hsz, ← hl]; rfl, fun i hi => ?_⟩
    have hik : i < kvs.length := by omega
    obtain ⟨b, hb, e1, e2, e3⟩ := paired_get pr (List.getElem?_eq_getElem hik)
    have q := entry_at he i
    rw [hb, Array.getElem?_eq_getElem hi] at q
    have q := Option.some.inj q
    exact ⟨.ref b.2.1, kvs[i].2, ⟨kvs[i].1, b.2.1, List.getElem?_eq_getElem hik, rfl, e2⟩, by rw [q]; rfl, by rw [q]; exact e3⟩
  | _ => exact hd.elim
theorem dict_data {es es' : Array DictEntry} {ep ep' : Nat} (h : o.data = .dict es ep) (h' : o.data = .dict es' ep') : es' = es ∧ ep' = ep := by
  rw [h] at h'
  cases h'
  exact ⟨rfl, rfl⟩
def JItems (d : Addr) (o : Obj) (u : HO) : It := JT (fun i H => H d = some (.frz o u) ∧ i < entN u) (fun i H xs => ∃ x v, xs = [x, v] ∧ Ent H u i x v) (fun i H => H d = some (.frz o u) ∧ entN u = i)
theorem turn_itemsB {P : Program} {w : World} {K : PySem.W.Frag} {elts : List Expr} {kk : Nat} {tpos : Pos} {es : Array DictEntry} {ep : Nat} (it : Addr) (hu : isD u) (hod : o.data = .dict es ep) :
    Turn P w K (.Tuple elts kk tpos) (JItems d o u) [it] it (fun i h => ∃ ok ov, IsItemIter h it d i es.size ep ok ov) := by
  have hneD : ∀ {H : Hp}, (∀ b ∈ [it], H b = none) → H d = some (.frz o u) → d ≠ it := fun hn e z => by
    subst z
    rw [hn _ (by simp)] at e; cases e
  refine turnT (by simp) (fun i h st b hb => ?_) (fun i h h' st k => ?_) (fun X hP hw hK hc i pins s σ H I hn st hg => ?_) (fun X hP hw hK hc i pins s σ H I hn st hg => ?_) (fun A i s Q E st h => ?_)
  · obtain ⟨ok, ov, e⟩ := st
    rw [List.mem_singleton.mp hb]
    exact ⟨_, e, fun v z => nomatch z⟩
  · obtain ⟨ok, ov, e⟩ := st
    exact ⟨ok, ov, k it (by simp) _ e⟩
  · subst hP hw hK
    obtain ⟨hd, hi⟩ := hg
    obtain ⟨hs, hz, ob, es', ep', ho, hx, hdt, hsz, ent⟩ := dict_raw I hu (.inr ⟨o, hd⟩)
    obtain ⟨ho2, _⟩ := I.hok d _ hd
    rw [ho] at ho2; cases ho2
    obtain ⟨rfl, rfl⟩ := dict_data hod hdt
    have hi' : i < es'.size := by omega
    obtain ⟨x, v, he, r1, r2⟩ := ent i hi'
    refine ⟨_, _, _, _, _, GoesN.rawItems (I.ok.hd hc) it d (hneD hn hd) es' ep', fun b m => m, ⟨st, _, ho, hx, hdt⟩, hi', fun u' h' hY hS hk => ?_⟩
    obtain ⟨T, hi2, rfl, hT, hI⟩ := hY
    exact ⟨T, _, [x, v], rfl, hT, hI, .cons r1 (.cons r2 .nil), by show 2 ≤ sizeLine; decide, ⟨x, v, rfl, he⟩, hS.1⟩
  · subst hP hw hK
    obtain ⟨hd, hi⟩ := hg
    obtain ⟨hs, hz, ob, es', ep', ho, hx, hdt, hsz, ent⟩ := dict_raw I hu (.inr ⟨o, hd⟩)
    obtain ⟨ho2, _⟩ := I.hok d _ hd
    rw [ho] at ho2; cases ho2
    obtain ⟨rfl, rfl⟩ := dict_data hod hdt
    refine ⟨_, _, _, _, _, GoesN.rawItems (I.ok.hd hc) it d (hneD hn hd) es' ep', fun b m => m, ?_⟩
    rw [show es'.size = i by omega]
    exact ⟨by rw [show i = es'.size by omega] at st ⊢; exact st, _, ho, hx, hdt⟩
  · obtain ⟨_, _, e⟩ := st
    exact PySem.W.kcp_self e h
def iItemsB (td : TE) : TI := fun σ H R => td σ H fun x H1 => ∃ d u, x = .ref d ∧ isD u ∧ lockT H1 d u fun o H2 => R (JItems d o u) H2
theorem pi_itemsB {e : Expr} {td : TE} {elts : List Expr} {kk : Nat} {tpos apos cpos : Pos} (he : PE X e td) (hbase : attributeBase e "items" X.env (eval e X.env) = eval e X.env := by rfl) (hline : (apos.endLine == cpos.line) = true := by rfl) :
    PI X (.Tuple elts kk tpos) (.Call (.Attribute e "items" apos) [] [] cpos) (iItemsB td) := by
  refine ⟨fun pins s σ H R I h => ?_⟩
  refine wpAny_Call_method (T := "dict") (id := "dict.items") hbase rfl hline F.plainAttrs_dict F.slot_dict_items F.type_dict_items (thn (he.run pins s σ H _ I h) fun v s1 ⟨x, H1, I0, rx, d, u, ex, hu, q⟩ => ?_)
  subst ex
  obtain rfl : v = Value.ref d := rx
  have mu : Mut (some u) := by cases u <;> first | exact True.intro | exact hu.elim
  obtain ⟨o, H2, I1, hd, q⟩ := lock_of I0 mu q
  obtain ⟨hs, hz, ob, es, ep, ho, hx, hdt, hsz, ent⟩ := dict_raw I1 hu (.inr ⟨o, hd⟩)
  obtain ⟨ho2, _⟩ := I1.hok d _ hd
  rw [ho] at ho2; cases ho2
  have raw : s1.heap.DictRaw d es ep := ⟨_, ho, hx, hdt⟩
  refine ⟨raw.typeIs, fun a e => ⟨_, by cases e; exact ho, hx.2.1⟩, ?_⟩
  have I2 : Inv X pins σ H2 { s1 with heap := s1.heap.push { cls := .type "dict_items", data := .fields #[.ref d] } } := I1.kept (t' := s1.toks) fun b ob q => Heap.get?_push_of_some _ q
  have fin : wpAny (model X.prog X.w) X.A (pyIter (.ref s1.heap.objs.size)) (PIE X pins σ (.Tuple elts kk tpos) R) X.xe { s1 with heap := s1.heap.push { cls := .type "dict_items", data := .fields #[.ref d] } } := by
    refine wpAny_pyIter_items_raw (d := d) ⟨_, Heap.get?_push_size _ rfl, rfl, rfl⟩ (raw.at fun o e => Heap.get?_push_of_some _ e) (pi_one (tk := s1.toks) I2 _ (turn_itemsB _ hu hdt) ⟨.none, .none, ?_⟩ q)
    exact Heap.get?_push_size _ rfl
  show wpAny _ _ (callWith cpos (.builtin "dict.items") [.ref d] [] []) _ X.xe s1
  exact method_meetsIn F.slot_dict_items F.entry_dict_items rfl (PySem.evalArgs_none ⟨rfl, raw.typeIs, F.args_dict_items_1 _, _, meets_dict_items_raw d hs, ⟨es, ep, raw⟩, fin⟩)
end
/-- the pairs of a shared dict -/
def itemsD : D → Option (List D)
  | .dk es => some (es.map fun p => .tup [kD p.1, p.2])
  | .dt es => some (es.map fun p => .tup [.tup (p.1.map kD), p.2])
  | _ => none
def sItems (p : P) : Src := fun ρ st => match p ρ st with
  | some (s, st') => match toSh s with
    | some d => match itemsD d with
      | some ds => some (ds, false, st')
      | none => none
    | none => none
  | none => none
section
variable {K : PySem.W.Frag} {mg : Str → Option Value} {β β' : List Addr} {M M' B T T' Q : Addr → Prop} {H H' : Hp} {d : Addr} {o : Obj}
theorem up_tr2 {M2 : Addr → Prop} {T0 : Addr} {u : HO} (hT : H T0 = none) : Tr M2 M2 H (upd H T0 u) := up_tr hT fun a m => .inl m
theorem itemsK_ok {kvs : List (Key × V)} {es : List (Key × D)} (hd : H d = some (.frz o (.dK kvs))) (nq : ¬ Q d) (r : RpK K mg β M H kvs es) : ItOk K mg Q β M H (JItems d o (.dK kvs)) (es.map fun p => .tup [kD p.1, p.2]) := by
  intro i β2 M2 H2 hb ex tr
  have q := ex d _ hd nq
  refine ⟨fun dd e => ?_, fun e => ⟨q, by show kvs.length = i; rw [rpk_len r, ← e, List.length_map]⟩⟩
  rw [List.getElem?_map] at e
  cases e0 : es[i]? with
  | none => rw [e0] at e; cases e
  | some p =>
    rw [e0] at e
    obtain ⟨k, dv⟩ := p
    cases e
    obtain ⟨v, e1, rv⟩ := rpk_key r e0
    refine ⟨⟨q, lt_of_get e1⟩, fun y H3 h => ?_⟩
    obtain ⟨T0, ys, rfl, hT, rfl, x, v2, rfl, k2, e3, rfl⟩ := h
    rw [e1] at e3; cases e3
    exact ⟨up_ex hT, .tup upd_same (.cons (rp_kV k) (.cons ((rv.tr tr hb).tr (up_tr2 hT) (List.prefix_refl _)) .nil))⟩
theorem itemsT_ok {kvs : List (List Key × V)} {es : List (List Key × D)} (hd : H d = some (.frz o (.dT kvs))) (nq : ¬ Q d) (r : RpT K mg β M H kvs es) : ItOk K mg Q β M H (JItems d o (.dT kvs)) (es.map fun p => .tup [.tup (p.1.map kD), p.2]) := by
  intro i β2 M2 H2 hb ex tr
  have q := ex d _ hd nq
  refine ⟨fun dd e => ?_, fun e => ⟨q, by show kvs.length = i; rw [rpt_len r, ← e, List.length_map]⟩⟩
  rw [List.getElem?_map] at e
  cases e0 : es[i]? with
  | none => rw [e0] at e; cases e
  | some p =>
    rw [e0] at e
    obtain ⟨k, dv⟩ := p
    cases e
    obtain ⟨v, e1, rv⟩ := rpt_key r e0
    refine ⟨⟨q, lt_of_get e1⟩, fun y H3 h => ?_⟩
    obtain ⟨T0, ys, rfl, hT, rfl, x, v2, rfl, k2, qa, e3, rfl, hq⟩ := h
    rw [e1] at e3; cases e3
    exact ⟨up_ex hT, .tup upd_same (.cons (.tup (up_ex hT _ _ hq) (rpl_kV k)) (.cons ((rv.tr tr hb).tr (up_tr2 hT) (List.prefix_refl _)) .nil))⟩
end
section
variable {X : Cx} {e : Expr} {p : P} {elts : List Expr} {kk : Nat} {tpos apos cpos : Pos}
theorem ix_items (he : PX X e p) (hbase : attributeBase e "items" X.env (eval e X.env) = eval e X.env := by rfl) (hline : (apos.endLine == cpos.line) = true := by rfl) :
    IX X (.Tuple elts kk tpos) (.Call (.Attribute e "items" apos) [] [] cpos) (sItems p) := (pi_itemsB he hbase hline).imp fun σ H R w => by
  obtain ⟨B, T, β, ρ, st, ds, r, st', sr, e, q⟩ := w
  unfold sItems at e
  split at e
  · next s st1 e1 =>
    split at e
    · next dd ed =>
      split at e
      · next es ee =>
        cases e
        refine ⟨B, T, β, ρ, st, _, _, sr, e1, fun v H1 β1 as le fr P => ?_⟩
        have rl := P.shs (ds := [dd]) (by simp [toShs, ed])
        cases rl with
        | cons rp _ =>
          have s1 := P.drop
          have s1' := lkTr (lk := none) s1
          have eM : ∀ a, Ma B (Tp T []) β1 σ ρ a → Ma B T β1 σ ρ a := fun a m => by
            rcases m with m | (m | m) | m
            · exact .inl m
            · exact .inr (.inl m)
            · exact absurd m (by simp)
            · exact .inr (.inr m)
          have nQ : ∀ {a}, ¬ Ma B T β1 σ ρ a → ¬ Qf false β1 σ ρ a := fun n z => n (by
            rcases z with z | ⟨_, z⟩
            · exact .inr (.inr (.inl z))
            · exact .inr (.inr (.inr z)))
          have rp' := rp.tr (Tr.sub eM) (List.prefix_refl _)
          have lkd : ∀ {d o u}, H1 d = some u → Mut (some u) → ¬ Ma B T β1 σ ρ d → Tr (Ma B (Tp T []) β1 σ ρ) (Ma B (Tp T []) β1 σ ρ) H1 (upd H1 d (.frz o u)) := fun {d o u} e mu n => by
            obtain ⟨k1, k2, k3⟩ := lk_start (lk := some ⟨d, o, u⟩) (B := B) (T := Tp T []) (β := β1) (σ := σ) (ρ := ρ) (H := H1) ⟨e, mu, fun m => n (eM _ m)⟩
            exact ⟨fun a u e p _ => k1 a u e p, k2, fun a _ n => n⟩
          cases dd with
          | dk es0 =>
            cases ee
            cases rp' with
            | @dK a kvs _ r1 n r2 =>
              have n' : ¬ Ma B T β1 σ ρ a := fun m => n (ma_sub _ m)
              refine ⟨a, .dK kvs, rfl, True.intro, ?_⟩
              rcases r1 with r1 | ⟨o, r1⟩
              · refine .inl ⟨r1, fun o => q _ H1 β1 [] (some ⟨a, o, _⟩) le (fun a m => absurd m (by simp)) s1' (fun a m => absurd m (by simp)) ⟨r1, True.intro, n⟩ ?_⟩
                exact itemsK_ok upd_same (nQ n') (r2.tr (lkd r1 True.intro n') (List.prefix_refl _))
              · exact .inr ⟨o, r1, q _ H1 β1 [] none le (fun a m => absurd m (by simp)) s1' (fun a m => absurd m (by simp)) trivial (itemsK_ok r1 (nQ n') r2)⟩
          | dt es0 =>
            cases ee
            cases rp' with
            | @dT a kvs _ r1 n r2 =>
              have n' : ¬ Ma B T β1 σ ρ a := fun m => n (ma_sub _ m)
              refine ⟨a, .dT kvs, rfl, True.intro, ?_⟩
              rcases r1 with r1 | ⟨o, r1⟩
              · refine .inl ⟨r1, fun o => q _ H1 β1 [] (some ⟨a, o, _⟩) le (fun a m => absurd m (by simp)) s1' (fun a m => absurd m (by simp)) ⟨r1, True.intro, n⟩ ?_⟩
                exact itemsT_ok upd_same (nQ n') (r2.tr (lkd r1 True.intro n') (List.prefix_refl _))
              · exact .inr ⟨o, r1, q _ H1 β1 [] none le (fun a m => absurd m (by simp)) s1' (fun a m => absurd m (by simp)) trivial (itemsT_ok r1 (nQ n') r2)⟩
          | _ => cases ee
      · cases e
    · cases e
  · cases e
end
end PL

/-! PLOp: operations that only read, by values. -/
namespace PL
open PySem PySem.Spec L2

/-- a value's data; a store's list as it stands -/
def dS (st : Sto) (s : SV) : D := match s.d with
  | .obj n => (match st[n]? with
    | some (.lst ds) => .lst ds
    | none => .obj n)
  | d => d
def oG (h : List D → Option SV) : Op := fun svs st => match h (svs.map (dS st)) with
  | some s => if noRo s = true then some (s, st) else none
  | none => none
section
variable (K : PySem.W.Frag) (mg : Str → Option Value)
/-- v is read as d -/
def Rw (β : List Addr) (M : Addr → Prop) (H : Hp) (v : V) (d : D) : Prop := Rp K mg β M H v d ∨ ∃ a, v = .ref a ∧ Roc K mg β M H a d
inductive RwL (β : List Addr) (M : Addr → Prop) (H : Hp) : List V → List D → Prop
  | nil : RwL β M H [] []
  | cons {v : V} {d : D} {vs : List V} {ds : List D} : Rw K mg β M H v d → RwL β M H vs ds → RwL β M H (v :: vs) (d :: ds)
/-- an operation's ends -/
structure Fin0 (β : List Addr) (M : Addr → Prop) (H : Hp) (d : D) (Q : VK) : Prop where
  same : ∀ v, Rp K mg β M H v d → Q v H
  tup : ∀ l ws ds, d = .tup ds → H l = none → RpL K mg β M H ws ds → Q (.ref l) (upd H l (.tup ws))
def FinO (β : List Addr) (M : Addr → Prop) (H : Hp) (d : D) (Q : VK) : Prop := ∀ l o, H l = none → Plain o → (∀ xs, o ≠ .tup xs) → Ct K mg β M H (fun u => u = o) d → Q (.ref l) (upd H l o)
def FinG (β : List Addr) (M : Addr → Prop) (H : Hp) : SV → VK → Prop
  | .sh d, Q => Fin0 K mg β M H d Q
  | .ow d, Q => FinO K mg β M H d Q
  | .ro _, _ => False
end
section
variable {K : PySem.W.Frag} {mg : Str → Option Value} {β β' : List Addr} {M M' B T T' : Addr → Prop} {H H' : Hp} {σ : St} {ρ : Lo} {st st' : Sto} {a : Addr} {v : V} {d : D} {s : SV} {as : List Addr} {vs ws : List V} {svs : List SV} {ds : List D}
theorem rw_of (hst : ∀ (n : Nat) ds a, st[n]? = some (.lst ds) → β[n]? = some a → ∃ vs, H a = some (.lst vs) ∧ RpL K mg β M H vs ds) (h : Rw K mg β M H v s.d) : Rw K mg β M H v (dS st s) := by
  unfold dS
  split
  · next n e =>
    rw [e] at h
    split
    · next ds e2 =>
      rcases h with h | ⟨a, rfl, h⟩
      · cases h with
        | obj eb =>
          obtain ⟨vs, e3, r⟩ := hst n ds _ e2 eb
          exact .inr ⟨_, rfl, .inl ⟨vs, ds, rfl, .inl e3, r⟩⟩
      · rcases h with ⟨_, _, e, _⟩ | ⟨_, _, e, _⟩ | ⟨_, _, e, _⟩ <;> cases e
    · exact h
  · exact h
theorem RL.rwl (hst : ∀ (n : Nat) ds a, st[n]? = some (.lst ds) → β[n]? = some a → ∃ vs, H a = some (.lst vs) ∧ RpL K mg β M H vs ds) : ∀ {vs svs as}, RL K mg β M T H vs svs as → RwL K mg β M H vs (svs.map (dS st))
  | _, _, _, .nil => .nil
  | _, _, _, .sh r q => .cons (rw_of hst (.inl r)) (RL.rwl hst q)
  | _, _, _, .ro _ _ r q => .cons (rw_of hst (.inr ⟨_, rfl, r⟩)) (RL.rwl hst q)
  | _, _, _, .ow r q => .cons (rw_of hst (.inr ⟨_, rfl, Owc.roc r⟩)) (RL.rwl hst q)
theorem Po.hst (p : Po K mg B T β σ H ρ st vs svs as) : ∀ (n : Nat) ds a, st[n]? = some (.lst ds) → β[n]? = some a → ∃ vs, H a = some (.lst vs) ∧ RpL K mg β (Ma B (Tp T as) β σ ρ) H vs ds := fun n ds a e1 e2 => p.sr.sto n (.lst ds) a e1 e2
theorem Po.rwl (p : Po K mg B T β σ H ρ st vs svs as) : RwL K mg β (Ma B (Tp T as) β σ ρ) H vs (svs.map (dS st)) := RL.rwl p.hst p.rl
theorem Po.fin {Q : VK} (p : Po K mg B T β σ H ρ st vs svs as) (hr : noRo s = true) (q : ∀ v H' β' as', Le (fun a => a ∈ β ∨ a ∈ as) β H β' H' → (∀ a ∈ as', H a = none ∨ a ∈ as) → Po K mg B T β' σ H' ρ st [v] [s] as' → Q v H') : FinG K mg β (Ma B (Tp T as) β σ ρ) H s Q := by
  cases s with
  | sh d => exact ⟨fun v r => p.ret q (r.tr (Tr.sub ma_sub) (List.prefix_refl _)), fun l ws ds e hl r => by subst e; exact p.newT q hl (r.tr (Tr.sub ma_sub) (List.prefix_refl _))⟩
  | ow d => exact fun l o hl ho hn r => p.newO q hl ho hn (Ct.tr (Tr.sub ma_sub) (List.prefix_refl _) r fun u _ z => z)
  | ro d => cases hr
variable {X : Cx} {h : List D → Option SV} {f : Value} {f2 : Value → Value → Sem Value} {f1 : Value → Sem Value} {id : String} {r2 : R2} {r1 : V → Hp → VK → Prop} {rc : List V → Hp → VK → Prop} {rm : V → List V → Hp → VK → Prop}
theorem sim_g {Q : VK} (w : Sim K mg (oG h) vs H Q) : ∃ β M ds s, RwL K mg β M H vs ds ∧ h ds = some s ∧ FinG K mg β M H s Q := by
  obtain ⟨B, T, β, σ, ρ, st, svs, as, sv, st', p, e, q⟩ := w
  unfold oG at e
  split at e
  · next s e1 =>
    split at e
    · next hr =>
      cases e
      exact ⟨β, _, _, _, p.rwl, e1, p.fin hr q⟩
    · cases e
  · cases e
theorem g_op (hr : OpR X f2 r2) (hh : ∀ {β M H x y d1 d2 s Q}, Rw X.K X.mg β M H x d1 → Rw X.K X.mg β M H y d2 → h [d1, d2] = some s → FinG X.K X.mg β M H s Q → r2 x y H Q) : OpS X f2 (oG h) := by
  intro pins s σ H x y v u Q I rx ry w
  obtain ⟨β, M, ds, s1, r, e, q⟩ := sim_g w
  cases r with
  | cons r1 r => cases r with
    | cons r2 r => cases r; exact hr pins s σ H x y v u Q I rx ry (hh r1 r2 e q)
theorem g_un (hr : UnR X f1 r1) (hh : ∀ {β M H x d1 s Q}, Rw X.K X.mg β M H x d1 → h [d1] = some s → FinG X.K X.mg β M H s Q → r1 x H Q) : UnS X f1 (oG h) := by
  intro pins s σ H x v Q I rx w
  obtain ⟨β, M, ds, s1, r, e, q⟩ := sim_g w
  cases r with
  | cons r1 r => cases r; exact hr pins s σ H x v Q I rx (hh r1 e q)
theorem g_ix (hr : IxR X r2) (hh : ∀ {β M H x y d1 d2 s Q}, Rw X.K X.mg β M H x d1 → Rw X.K X.mg β M H y d2 → h [d1, d2] = some s → FinG X.K X.mg β M H s Q → r2 x y H Q) : IxS X (oG h) := by
  intro value slice pins s σ H x y v u Q I rx ry w hs
  obtain ⟨β, M, ds, s1, r, e, q⟩ := sim_g w
  cases r with
  | cons r1 r => cases r with
    | cons r2 r => cases r; exact hr value slice pins s σ H x y v u Q I rx ry (hh r1 r2 e q) hs
theorem g_call (hr : CallR X f rc) (hh : ∀ {β M H vs ds s Q}, RwL X.K X.mg β M H vs ds → h ds = some s → FinG X.K X.mg β M H s Q → rc vs H Q) : CallS X f (oG h) := by
  intro pins s σ H xs us Q I r w
  obtain ⟨β, M, ds, s1, r1, e, q⟩ := sim_g w
  exact hr pins s σ H xs us Q I r (hh r1 e q)
theorem g_mt (hr : MtR X id rm) (hh : ∀ {β M H x vs d ds s Q}, Rw X.K X.mg β M H x d → RwL X.K X.mg β M H vs ds → h (d :: ds) = some s → FinG X.K X.mg β M H s Q → rm x vs H Q) : MtS X id (oG h) := by
  intro pins s σ H x xs v us Q I rx rs w
  obtain ⟨β, M, ds, s1, r, e, q⟩ := sim_g w
  cases r with
  | cons r1 r => exact hr pins s σ H x xs v us Q I rx rs (hh r1 r e q)
/-! ### readings -/
theorem Rw.int {i : Int} (h : Rw K mg β M H v (.int i)) : v = .int i := by
  rcases h with h | ⟨a, rfl, h⟩
  · exact h.int1
  · rcases h with ⟨_, _, e, _⟩ | ⟨_, _, e, _⟩ | ⟨_, _, e, _⟩ <;> cases e
theorem Rw.bl {b : Bool} (h : Rw K mg β M H v (.bl b)) : v = .bl b := by
  rcases h with h | ⟨a, rfl, h⟩
  · exact h.bl1
  · rcases h with ⟨_, _, e, _⟩ | ⟨_, _, e, _⟩ | ⟨_, _, e, _⟩ <;> cases e
theorem Rw.str {x : Str} (h : Rw K mg β M H v (.str x)) : v = .str x := by
  rcases h with h | ⟨a, rfl, h⟩
  · exact h.str1
  · rcases h with ⟨_, _, e, _⟩ | ⟨_, _, e, _⟩ | ⟨_, _, e, _⟩ <;> cases e
theorem Rw.non (h : Rw K mg β M H v .non) : v = .non := by
  rcases h with h | ⟨a, rfl, h⟩
  · exact h.non1
  · rcases h with ⟨_, _, e, _⟩ | ⟨_, _, e, _⟩ | ⟨_, _, e, _⟩ <;> cases e
theorem Rw.tup (h : Rw K mg β M H v (.tup ds)) : ∃ a vs, v = .ref a ∧ H a = some (.tup vs) ∧ RpL K mg β M H vs ds := by
  rcases h with h | ⟨a, rfl, h⟩
  · cases h with
    | tup r q => exact ⟨_, _, rfl, r, q⟩
  · rcases h with ⟨_, _, e, _⟩ | ⟨_, _, e, _⟩ | ⟨_, _, e, _⟩ <;> cases e
theorem Rw.tupP (h : Rw K mg β M H v (.tup ds)) : Rp K mg β M H v (.tup ds) := by
  obtain ⟨a, vs, rfl, h1, h2⟩ := h.tup
  exact .tup h1 h2
/-- a list that is read -/
def RdL (K : PySem.W.Frag) (H : Hp) (a : Addr) (vs : List V) : Prop := Rd H a (.lst vs) ∨ KL K a vs
theorem Rw.lst (h : Rw K mg β M H v (.lst ds)) : ∃ a vs, v = .ref a ∧ RdL K H a vs ∧ RpL K mg β M H vs ds := by
  rcases h with h | ⟨a, rfl, h⟩
  · cases h with
    | lst r n q => exact ⟨_, _, rfl, .inl r, q⟩
    | lstK r q => exact ⟨_, _, rfl, .inr r, q⟩
  · rcases h with ⟨vs, ds', e, r, q⟩ | ⟨_, _, e, _⟩ | ⟨_, _, e, _⟩
    · cases e; exact ⟨a, vs, rfl, .inl r, q⟩
    · cases e
    · cases e
theorem Rw.dk {es : List (Key × D)} (h : Rw K mg β M H v (.dk es)) : ∃ a kvs, v = .ref a ∧ Rd H a (.dK kvs) ∧ RpK K mg β M H kvs es := by
  rcases h with h | ⟨a, rfl, h⟩
  · cases h with
    | dK r n q => exact ⟨_, _, rfl, r, q⟩
  · rcases h with ⟨_, _, e, _⟩ | ⟨kvs, es', e, r, q⟩ | ⟨_, _, e, _⟩
    · cases e
    · cases e; exact ⟨a, kvs, rfl, r, q⟩
    · cases e
theorem Rw.dt {es : List (List Key × D)} (h : Rw K mg β M H v (.dt es)) : ∃ a kvs, v = .ref a ∧ Rd H a (.dT kvs) ∧ RpT K mg β M H kvs es := by
  rcases h with h | ⟨a, rfl, h⟩
  · cases h with
    | dT r n q => exact ⟨_, _, rfl, r, q⟩
  · rcases h with ⟨_, _, e, _⟩ | ⟨_, _, e, _⟩ | ⟨kvs, es', e, r, q⟩
    · cases e
    · cases e
    · cases e; exact ⟨a, kvs, rfl, r, q⟩
theorem RwL.nil1 (h : RwL K mg β M H vs []) : vs = [] := by cases h; rfl
theorem RwL.one (h : RwL K mg β M H vs [d]) : ∃ v, vs = [v] ∧ Rw K mg β M H v d := by
  cases h with
  | cons r h => cases h; exact ⟨_, rfl, r⟩
theorem RwL.two {d2 : D} (h : RwL K mg β M H vs [d, d2]) : ∃ v w, vs = [v, w] ∧ Rw K mg β M H v d ∧ Rw K mg β M H w d2 := by
  cases h with
  | cons r h => cases h with
    | cons r2 h => cases h; exact ⟨_, _, rfl, r, r2⟩
theorem RwL.len (h : RwL K mg β M H vs ds) : vs.length = ds.length := by
  induction h with
  | nil => rfl
  | cons r h ih => simp [ih]
theorem sqL {xs : List V} (h : RdL K H a xs) : SqL K H a xs := h.elim .inl KL.sq
theorem sqT {xs : List V} (h : H a = some (.tup xs)) : SqT K H a xs := .inl (.inl h)
end

/-! ### ints -/
section
variable {X : Cx}
def i2 (g : Int → Int → Option Int) : List D → Option SV
  | [.int i, .int j] => (g i j).map fun k => .sh (.int k)
  | _ => none
theorem g_i2 {f2 : Value → Value → Sem Value} {C : Int → Int → Prop} {k : Int → Int → Int} {g : Int → Int → Option Int} (hr : OpR X f2 (rI C fun i j => .int (k i j))) (hg : ∀ i j z, g i j = some z → C i j ∧ z = k i j) : OpS X f2 (oG (i2 g)) :=
  g_op hr fun {β M H x y d1 d2 s Q} r1 r2 e q => by
    unfold i2 at e
    split at e
    · next i j e0 =>
      cases e0
      cases eg : g i j with
      | none => rw [eg] at e; cases e
      | some z =>
        rw [eg] at e; cases e
        obtain ⟨h1, rfl⟩ := hg i j z eg
        exact ⟨i, j, r1.int, r2.int, h1, q.same _ (.int _)⟩
    · cases e
def oSub : Op := oG (i2 fun i j => some (i - j))
def oMulI : List D → Option SV := i2 fun i j => if i.natAbs.log2 + j.natAbs.log2 < 1000000 then some (i * j) else none
def oFdiv : Op := oG (i2 fun i j => if 0 < j ∧ j.natAbs.log2 < 9000 then some (i / j) else none)
def oMod : Op := oG (i2 fun i j => if 0 < j then some (i % j) else none)
def oPow : Op := oG (i2 fun i j => if 0 ≤ j ∧ (Builtin.Int.intBits i : Int) * j ≤ 2 ^ 27 then some (i ^ j.toNat) else none)
theorem rI0C {k : Int → Int → V} {f2 : Value → Value → Sem Value} (h : OpR X f2 (rI0 k)) : OpR X f2 (rI (fun _ _ => True) k) := fun pins s σ H x y v u Q I rx ry ⟨i, j, e1, e2, _, q⟩ => h pins s σ H x y v u Q I rx ry ⟨i, j, e1, e2, q⟩
theorem s_sub : OpS X (binaryOp .Sub) oSub := g_i2 (rI0C op_sub) fun i j z e => by cases e; exact ⟨trivial, rfl⟩
theorem s_fdiv : OpS X (binaryOp .FloorDiv) oFdiv := g_i2 op_fdivW fun i j z e => by
  split at e
  · next h => cases e; exact ⟨h, rfl⟩
  · cases e
theorem s_mod : OpS X (binaryOp .Mod) oMod := g_i2 op_mod fun i j z e => by
  split at e
  · next h => cases e; exact ⟨h, rfl⟩
  · cases e
theorem op_powG : OpR X (binaryOp .Pow) (rI (fun i j => 0 ≤ j ∧ (Builtin.Int.intBits i : Int) * j ≤ 2 ^ 27) fun i j => .int (i ^ j.toNat)) := opI fun _ _ _ _ _ _ _ hc q => PyProof.Rows.pow_int hc.1 hc.2 q
theorem s_pow : OpS X (binaryOp .Pow) oPow := g_i2 op_powG fun i j z e => by
  split at e
  · next h => cases e; exact ⟨h, rfl⟩
  · cases e
def oNeg : Op := oG fun | [.int i] => some (.sh (.int (-i))) | _ => none
theorem s_neg : UnS X (unaryOp .USub) oNeg := g_un un_neg fun {β M H x d1 s Q} r1 e q => by
  split at e
  · next i e0 => cases e0; cases e; exact ⟨i, r1.int, q.same _ (.int _)⟩
  · cases e
/-- a comparison of ints as an operation -/
def oCmp (c : Int → Int → Bool) : Op := oG fun | [.int i, .int j] => some (.sh (.bl (c i j))) | _ => none
theorem s_cmp {o : CmpOp} {c : Int → Int → Bool} (h : CmpI X o c) : OpS X (compareOp o) (oCmp c) := g_op h fun {β M H x y d1 d2 s Q} r1 r2 e q => by
  split at e
  · next i j e0 => cases e0; cases e; exact ⟨i, j, r1.int, r2.int, q.same _ (.bl _)⟩
  · cases e
theorem oG_b {h : List D → Option SV} (hb : ∀ ds s, h ds = some s → ∃ b, s = .sh (.bl b)) : ∀ svs st sv st', oG h svs st = some (sv, st') → ∃ b, sv = .sh (.bl b) := fun svs st sv st' e => by
  unfold oG at e
  split at e
  · next s e1 =>
    split at e
    · cases e; exact hb _ _ e1
    · cases e
  · cases e
theorem oCmp_b {c : Int → Int → Bool} : ∀ svs st sv st', oCmp c svs st = some (sv, st') → ∃ b, sv = .sh (.bl b) := oG_b fun ds s e => by
  split at e
  · cases e; exact ⟨_, rfl⟩
  · cases e
theorem c_lt : CmpI X .Lt (fun i j => decide (i < j)) := op_lt
theorem c_le : CmpI X .LtE (fun i j => decide (i ≤ j)) := op_le
theorem c_gt : CmpI X .Gt (fun i j => decide (j < i)) := op_gt
theorem c_ge : CmpI X .GtE (fun i j => decide (j ≤ i)) := op_ge

/-! ### + : ints, texts, tuples, lists -/
def hAdd : List D → Option SV
  | [.int i, .int j] => some (.sh (.int (i + j)))
  | [.str i, .str j] => if i.length + j.length ≤ 16777216 then some (.sh (.str (i ++ j))) else none
  | [.tup xs, .tup ys] => if xs.length + ys.length ≤ 16777216 then some (.sh (.tup (xs ++ ys))) else none
  | [.lst xs, .lst ys] => if xs.length + ys.length ≤ 16777216 then some (.ow (.lst (xs ++ ys))) else none
  | _ => none
def oAdd : Op := oG hAdd
def rCatR (K : PySem.W.Frag) : R2 := fun x y H Q => ∃ l b xs zs, x = .ref l ∧ y = .ref b ∧ RdL K H l xs ∧ RdL K H b zs ∧ xs.length + zs.length ≤ sizeLine ∧ ∀ p, H p = none → Q (.ref p) (upd H p (.lst (xs ++ zs)))
theorem Inv.lstR {pins : List (Addr × Obj)} {σ : St} {H : Hp} {s : Shared} {p : Addr} {xs : List V} (I : Inv X pins σ H s) (h : RdL X.K H p xs) :
    ∃ (its : List Value) (n : Nat), Vals xs its ∧ s.heap.get? p = some { cls := .type "list", data := .seq its.toArray n } ∧ xs.length ≤ sizeLine := by
  rcases h with h | ⟨its, n, e, z, r⟩
  · obtain ⟨z, its, n, r, e⟩ := h.ok I.hok
    exact ⟨its, n, r, e, z⟩
  · exact ⟨its.toList, n, r, by rw [Array.toArray_toList]; exact I.kIn _ _ e, by rw [r.length]; exact z⟩
theorem op_catR : OpR X (binaryOp .Add) (rCatR X.K) := by
  intro pins s σ H x y v u Q I rx ry h
  obtain ⟨l, b, xs, zs, rfl, rfl, hH, hB, hz, q⟩ := h
  cases rx
  cases ry
  obtain ⟨its, n, r, e, z⟩ := Inv.lstR I hH
  obtain ⟨its2, n2, r2, e2, z2⟩ := Inv.lstR I hB
  have l1 := r.length
  have l2 := r2.length
  refine PySem.P.add_list e e2 ?_ (by rw [List.size_toArray, List.size_toArray]; omega)
  have ea : its.toArray ++ its2.toArray = (its ++ its2).toArray := by simp
  rw [ea]
  exact ⟨.ref _, _, I.lnew (t' := s.toks) (r.append r2) (by rw [List.length_append]; omega), rfl, q _ I.fresh⟩
theorem s_add : OpS X (binaryOp .Add) oAdd := g_op ((rI0C op_add).or (op_add_str.or (op_catA.or op_catR))) fun {β M H x y d1 d2 s Q} r1 r2 e q => by
  unfold hAdd at e
  split at e
  · next i j e0 => cases e0; cases e; exact .inl ⟨i, j, r1.int, r2.int, trivial, q.same _ (.int _)⟩
  · next i j e0 =>
    cases e0
    split at e
    · next hl => cases e; exact .inr (.inl ⟨i, j, r1.str, r2.str, by rw [sizeLine_eq]; exact hl, q.same _ (.str _)⟩)
    · cases e
  · next xs ys e0 =>
    cases e0
    split at e
    · next hl =>
      cases e
      obtain ⟨a, vs, rfl, h1, h2⟩ := r1.tup
      obtain ⟨b, ws, rfl, h3, h4⟩ := r2.tup
      have l1 := h2.length
      have l2 := h4.length
      refine .inr (.inr (.inl ⟨a, b, vs, ws, rfl, rfl, sqT h1, sqT h3, by rw [sizeLine_eq]; omega, fun z => ?_, fun _ z => ?_, fun _ _ p hp => q.tup p _ _ rfl hp (RpL.app h2 h4)⟩))
      · subst z
        cases h2
        exact q.same _ (.tup h3 h4)
      · subst z
        cases h4
        exact q.same _ (.tup h1 (by rw [List.append_nil]; exact h2))
    · cases e
  · next xs ys e0 =>
    cases e0
    split at e
    · next hl =>
      cases e
      obtain ⟨a, vs, rfl, h1, h2⟩ := r1.lst
      obtain ⟨b, ws, rfl, h3, h4⟩ := r2.lst
      have l1 := h2.length
      have l2 := h4.length
      exact .inr (.inr (.inr ⟨a, b, vs, ws, rfl, rfl, h1, h3, by rw [sizeLine_eq]; omega, fun p hp => q p _ hp trivial (fun xs z => by cases z) (.inl ⟨_, _, rfl, rfl, RpL.app h2 h4⟩)⟩))
    · cases e
  · cases e
/-- * of ints; (tuples and lists times ints: oMulS) -/
def oMul : Op := oG oMulI
theorem s_mul : OpS X (binaryOp .Mult) oMul := g_i2 op_mulW fun i j z e => by
  split at e
  · next h => cases e; exact ⟨h, rfl⟩
  · cases e
end

/-! ### a[i] -/
section
variable {X : Cx}
def hIx : List D → Option SV
  | [.lst xs, .int i] => (atI xs i).map .sh
  | [.tup xs, .int i] => (atI xs i).map .sh
  | [.str z, .int i] => if z.length ≤ 16777216 then (atI z.cps.toList i).map (fun c => .sh (.str ⟨#[c]⟩)) else none
  | [.dk es, .int i] => ((es.find? fun p => decide (p.1 = Sum.inl i)).map (·.2)).map .sh
  | [.dk es, .str i] => ((es.find? fun p => decide (p.1 = Sum.inr i)).map (·.2)).map .sh
  | [.dt es, .tup ks] => match keyD ks with
    | some k => ((es.find? fun p => decide (p.1 = k)).map (·.2)).map .sh
    | none => none
  | _ => none
where
  keyD : List D → Option (List Key)
    | [] => some []
    | .int i :: r => (keyD r).map (Sum.inl i :: ·)
    | .str x :: r => (keyD r).map (Sum.inr x :: ·)
    | _ => none
def keyD := hIx.keyD
def oIx : Op := oG hIx
variable {K : PySem.W.Frag} {mg : Str → Option Value} {β : List Addr} {M : Addr → Prop} {H : Hp}
theorem atI_rp {vs : List V} {ds : List D} {i : Int} {d : D} (r : RpL K mg β M H vs ds) (e : atI ds i = some d) : ∃ v, atI vs i = some v ∧ Rp K mg β M H v d := by
  unfold atI at e ⊢
  rw [r.length]
  cases e1 : ixN ds.length i with
  | none => rw [e1] at e; cases e
  | some j => rw [e1] at e; exact r.get e
theorem key_vs : ∀ {ks : List D} {k : List Key} {vs : List V}, keyD ks = some k → RpL K mg β M H vs ks → vs = k.map kV
  | [], _, _, e, r => by cases e; cases r; rfl
  | .int i :: ks, k, _, e, r => by
    simp only [keyD, hIx.keyD] at e
    cases e1 : hIx.keyD ks with
    | none => rw [e1] at e; cases e
    | some k' =>
      rw [e1] at e; cases e
      cases r with
      | cons r1 r2 => rw [r1.int1, key_vs (ks := ks) e1 r2]; rfl
  | .str i :: ks, k, _, e, r => by
    simp only [keyD, hIx.keyD] at e
    cases e1 : hIx.keyD ks with
    | none => rw [e1] at e; cases e
    | some k' =>
      rw [e1] at e; cases e
      cases r with
      | cons r1 r2 => rw [r1.str1, key_vs (ks := ks) e1 r2]; rfl
  | .non :: _, _, _, e, _ => by simp [keyD, hIx.keyD] at e
  | .bl _ :: _, _, _, e, _ => by simp [keyD, hIx.keyD] at e
  | .tup _ :: _, _, _, e, _ => by simp [keyD, hIx.keyD] at e
  | .lst _ :: _, _, _, e, _ => by simp [keyD, hIx.keyD] at e
  | .dk _ :: _, _, _, e, _ => by simp [keyD, hIx.keyD] at e
  | .dt _ :: _, _, _, e, _ => by simp [keyD, hIx.keyD] at e
  | .obj _ :: _, _, _, e, _ => by simp [keyD, hIx.keyD] at e
  | .fn _ :: _, _, _, e, _ => by simp [keyD, hIx.keyD] at e
theorem valK {kvs : List (Key × V)} {es : List (Key × D)} {k : Key} (r : RpK K mg β M H kvs es) : (∀ d, (es.find? fun p => decide (p.1 = k)).map (·.2) = some d → ∃ v, valV kvs k = some v ∧ Rp K mg β M H v d) ∧ ((es.find? fun p => decide (p.1 = k)).map (·.2) = none → valV kvs k = none) := by
  unfold valV
  induction kvs generalizing es with
  | nil => cases r; exact ⟨fun d e => by simp at e, fun _ => rfl⟩
  | cons p kvs ih => cases r with
    | @cons k' v _ d' ds r1 r2 =>
      by_cases e : k' = k
      · subst e; simp [List.find?_cons]; exact r1
      · simp only [List.find?_cons, e, decide_false]; exact ih r2
theorem valT {kvs : List (List Key × V)} {es : List (List Key × D)} {k : List Key} (r : RpT K mg β M H kvs es) : (∀ d, (es.find? fun p => decide (p.1 = k)).map (·.2) = some d → ∃ v, valV kvs k = some v ∧ Rp K mg β M H v d) ∧ ((es.find? fun p => decide (p.1 = k)).map (·.2) = none → valV kvs k = none) := by
  unfold valV
  induction kvs generalizing es with
  | nil => cases r; exact ⟨fun d e => by simp at e, fun _ => rfl⟩
  | cons p kvs ih => cases r with
    | @cons k' v _ d' ds r1 r2 =>
      by_cases e : k' = k
      · subst e; simp [List.find?_cons]; exact r1
      · simp only [List.find?_cons, e, decide_false]; exact ih r2
def rIxG (K : PySem.W.Frag) : R2 := fun x y H Q => rIx K x y H Q ∨ ∃ a v, x = .ref a ∧ DGet H a y (some v) ∧ Q v H
theorem ix_dict (hu : X.A.units + 1 < cLine) : IxR X (fun x y H Q => ∃ a v, x = .ref a ∧ DGet H a y (some v) ∧ Q v H) := by
  intro value slice pins s σ H x y v u Q I rx ry h hs
  obtain ⟨a, w, rfl, g, q⟩ := h
  obtain rfl : v = Value.ref a := rx
  exact PyProof.Rows.tail_any (dict_typeIs I g) PySem.F.slot_dict_getitem.lookup (d_getItem hu I g ry fun w' s3 I3 rw' => ⟨w, H, I3, rw', q⟩) hs
theorem s_ix (hu : X.A.units + 1 < cLine) : IxS X oIx := g_ix (ix_seq.or (ix_dict hu)) fun {β M H x y d1 d2 s Q} r1 r2 e q => by
  have dict : ∀ {a w}, x = .ref a → DGet H a y (some w) → Q w H → rIx X.K x y H Q ∨ ∃ a v, x = .ref a ∧ DGet H a y (some v) ∧ Q v H := fun e g q => .inr ⟨_, _, e, g, q⟩
  unfold hIx at e
  split at e
  · next xs i e0 =>
    cases e0
    cases e1 : atI xs i with
    | none => rw [e1] at e; cases e
    | some d =>
      rw [e1] at e; cases e
      obtain ⟨a, vs, rfl, h1, h2⟩ := r1.lst
      obtain ⟨v, h3, h4⟩ := atI_rp h2 e1
      exact .inl (.inl ⟨a, vs, i, v, rfl, r2.int, sqL h1, h3, q.same _ h4⟩)
  · next xs i e0 =>
    cases e0
    cases e1 : atI xs i with
    | none => rw [e1] at e; cases e
    | some d =>
      rw [e1] at e; cases e
      obtain ⟨a, vs, rfl, h1, h2⟩ := r1.tup
      obtain ⟨v, h3, h4⟩ := atI_rp h2 e1
      exact .inl (.inr (.inl ⟨a, vs, i, v, rfl, r2.int, sqT h1, h3, q.same _ h4⟩))
  · next z i e0 =>
    cases e0
    split at e
    · next hl =>
      cases e1 : atI z.cps.toList i with
      | none => rw [e1] at e; cases e
      | some c =>
        rw [e1] at e; cases e
        exact .inl (.inr (.inr ⟨z, i, c, r1.str, r2.int, by rw [sizeLine_eq]; exact hl, e1, q.same _ (.str _)⟩))
    · cases e
  · next es i e0 =>
    cases e0
    obtain ⟨a, kvs, rfl, h1, h2⟩ := r1.dk
    cases e1 : (es.find? fun p => decide (p.1 = Sum.inl i)).map (·.2) with
    | none => rw [e1] at e; cases e
    | some d =>
      rw [e1] at e; cases e
      obtain ⟨v, h3, h4⟩ := (valK h2).1 d e1
      exact dict rfl (.inl ⟨kvs, Sum.inl i, h1, r2.int, h3.symm⟩) (q.same _ h4)
  · next es i e0 =>
    cases e0
    obtain ⟨a, kvs, rfl, h1, h2⟩ := r1.dk
    cases e1 : (es.find? fun p => decide (p.1 = Sum.inr i)).map (·.2) with
    | none => rw [e1] at e; cases e
    | some d =>
      rw [e1] at e; cases e
      obtain ⟨v, h3, h4⟩ := (valK h2).1 d e1
      exact dict rfl (.inl ⟨kvs, Sum.inr i, h1, r2.str, h3.symm⟩) (q.same _ h4)
  · next es ks e0 =>
    cases e0
    obtain ⟨a, kvs, rfl, h1, h2⟩ := r1.dt
    obtain ⟨b, ws, rfl, h5, h6⟩ := r2.tup
    split at e
    · next k ek =>
      cases e1 : (es.find? fun p => decide (p.1 = k)).map (·.2) with
      | none => rw [e1] at e; cases e
      | some d =>
        rw [e1] at e; cases e
        obtain ⟨v, h3, h4⟩ := (valT h2).1 d e1
        refine dict rfl (.inr ⟨kvs, k, b, h1, rfl, ?_, h3.symm⟩) (q.same _ h4)
        rw [← key_vs ek h6]; exact h5
    · cases e
  · cases e
end
end PL

/-! PLOp2: in, is, len, list, tuple, all, any, sum, min, max, abs, int, isinstance. -/
namespace PL
open PySem PySem.Spec L2

section
variable {K : PySem.W.Frag} {mg : Str → Option Value} {β : List Addr} {M : Addr → Prop} {H : Hp} {v : V} {d : D} {ds : List D} {vs : List V}
theorem Rw.dp (h : Rw K mg β M H v d) (k : okN 60 d = true) : Dp K H v (pd d) := by
  rcases h with h | ⟨a, rfl, r⟩
  · exact h.dp 60 _ _ k
  · rcases r with ⟨vs, ds, rfl, r, p⟩ | ⟨kvs, es, rfl, r, p⟩ | ⟨kvs, es, rfl, r, p⟩
    · simp only [pd]
      simp only [okN] at k
      exact .lst (.inl r) (RpL.dp 59 _ _ k p)
    · simp [okN] at k
    · simp [okN] at k
theorem pdL_any {n m : Nat} {d : D} (hd : okN n d = true) : ∀ {ds : List D}, okNL m ds = true → ((pdL ds).any fun z => PyData.eqv z (pd d)) = ds.any fun z => eqv z d
  | [], _ => rfl
  | x :: xs, h => by
    simp only [okNL, Bool.and_eq_true] at h
    simp only [pdL, List.any_cons, pd_eqv m n x d h.1 hd, pdL_any hd h.2]
theorem pdL_lay0 {n : Nat} {ds : List D} (h : okNL n ds = true) : PyData.canLayAll0 (pdL ds) = true := pdL_lay n ds h
end
/-! ### in, not in -/
def dkey : D → Option Key
  | .int i => some (.inl i)
  | .str x => some (.inr x)
  | _ => none
def inD : D → D → Option Bool
  | x, .lst ds => if okN 60 x = true ∧ okNL 59 ds = true then some (ds.any fun z => eqv z x) else none
  | x, .tup ds => if okN 60 x = true ∧ okNL 59 ds = true then some (ds.any fun z => eqv z x) else none
  | .str x, .str y => some (!(Builtin.Str.occurrences y x 0 y.length 1).isEmpty)
  | x, .dk es => (dkey x).map fun k => ((es.find? fun p => decide (p.1 = k)).map (·.2)).isSome
  | .tup ks, .dt es => (keyD ks).map fun k => ((es.find? fun p => decide (p.1 = k)).map (·.2)).isSome
  | _, _ => none
def hIn (neg : Bool) : List D → Option SV
  | [x, y] => (inD x y).map fun b => .sh (.bl (if neg then !b else b))
  | _ => none
def oIn (neg : Bool) : Op := oG (hIn neg)
section
variable {X : Cx}
def rInS (K : PySem.W.Frag) (neg : Bool) : R2 := fun x y H Q => ∃ d ds, Dp K H x d ∧ (Dp K H y (.list ds) ∨ Dp K H y (.tuple ds)) ∧ SeqAt.shaped d = true ∧ PyData.canLayAll0 ds = true ∧ Q (.bl (if neg then !ds.any fun z => PyData.eqv z d else ds.any fun z => PyData.eqv z d)) H
theorem op_inS (hu : X.A.units + 65 < cLine) : OpR X (compareOp .In) (rInS X.K false) := by
  intro pins s σ H x y v u Q I rx ry h
  obtain ⟨d, ds, hd, he, sd, se, q⟩ := h
  obtain ⟨as, r1⟩ := Dp.reads I d x v hd rx
  rcases he with he | he
  · obtain ⟨bs, r2⟩ := Dp.reads I (.list ds) y u he ry
    exact SeqAt.in_list_reads r2 r1 se (SeqAt.canLay_of_shaped sd) (PyProof.Rows.room_in_shaped sd hu) ⟨.bl _, H, I, rfl, q⟩
  · obtain ⟨bs, r2⟩ := Dp.reads I (.tuple ds) y u he ry
    exact SeqAt.in_tuple_reads r2 r1 se (SeqAt.canLay_of_shaped sd) (PyProof.Rows.room_in_shaped sd hu) ⟨.bl _, H, I, rfl, q⟩
theorem op_notInS (hu : X.A.units + 65 < cLine) : OpR X (compareOp .NotIn) (rInS X.K true) := by
  intro pins s σ H x y v u Q I rx ry h
  obtain ⟨d, ds, hd, he, sd, se, q⟩ := h
  obtain ⟨as, r1⟩ := Dp.reads I d x v hd rx
  rcases he with he | he
  · obtain ⟨bs, r2⟩ := Dp.reads I (.list ds) y u he ry
    exact SeqAt.notIn_list_reads r2 r1 se (SeqAt.canLay_of_shaped sd) (PyProof.Rows.room_in_shaped sd hu) ⟨.bl _, H, I, rfl, q⟩
  · obtain ⟨bs, r2⟩ := Dp.reads I (.tuple ds) y u he ry
    exact SeqAt.notIn_tuple_reads r2 r1 se (SeqAt.canLay_of_shaped sd) (PyProof.Rows.room_in_shaped sd hu) ⟨.bl _, H, I, rfl, q⟩
def rInDc (neg : Bool) : R2 := fun y x H Q => ∃ a o, x = .ref a ∧ DGet H a y o ∧ Q (.bl (if neg then !o.isSome else o.isSome)) H
theorem op_inDc (hu : X.A.units + 1 < cLine) : OpR X (compareOp .In) (rInDc false) := by
  intro pins s σ H y x w u Q I ry rx h
  obtain ⟨a, o, rfl, g, q⟩ := h
  obtain rfl : u = Value.ref a := rx
  exact d_in hu I g ry fun s3 I3 => ⟨.bl o.isSome, H, I3, rfl, q⟩
theorem op_notInDc (hu : X.A.units + 1 < cLine) : OpR X (compareOp .NotIn) (rInDc true) := by
  intro pins s σ H y x w u Q I ry rx h
  obtain ⟨a, o, rfl, g, q⟩ := h
  obtain rfl : u = Value.ref a := rx
  exact d_notIn hu I g ry fun s3 I3 => ⟨.bl (!o.isSome), H, I3, rfl, q⟩
def rInStr (neg : Bool) : R2 := fun x y H Q => ∃ i j, x = .str i ∧ y = .str j ∧ Q (.bl (if neg then !(!(Builtin.Str.occurrences j i 0 j.length 1).isEmpty) else !(Builtin.Str.occurrences j i 0 j.length 1).isEmpty)) H
theorem op_inStr : OpR X (compareOp .In) (rInStr false) := op_in_str
theorem op_notInStr : OpR X (compareOp .NotIn) (rInStr true) := op_notin_str
theorem some_opt {α : Type} {o : Option V} {p : Option D} {P : V → D → Prop} (h1 : ∀ d, p = some d → ∃ v, o = some v ∧ P v d) (h2 : p = none → o = none) : o.isSome = p.isSome := by
  cases p with
  | none => rw [h2 rfl]; rfl
  | some d => obtain ⟨v, e, _⟩ := h1 d rfl; rw [e]; rfl
theorem in_core {neg : Bool} {f2 : Value → Value → Sem Value} (h1 : OpR X f2 (rInS X.K neg)) (h2 : OpR X f2 (rInDc neg)) (h3 : OpR X f2 (rInStr neg)) : OpS X f2 (oIn neg) := g_op (h1.or (h2.or h3)) fun {β M H x y d1 d2 s Q} r1 r2 e q => by
  simp only [hIn] at e
  cases ei : inD d1 d2 with
  | none => rw [ei] at e; cases e
  | some b =>
    rw [ei] at e; cases e
    have fin : Q (.bl (if neg then !b else b)) H := q.same _ (.bl _)
    unfold inD at ei
    split at ei
    · next ds =>
      split at ei
      · next hk =>
        cases ei
        have hy := r2.dp (d := .lst ds) (by simp only [okN]; exact hk.2)
        simp only [pd] at hy
        exact .inl ⟨_, _, r1.dp hk.1, .inl hy, pd_shaped hk.1, pdL_lay0 hk.2, by rw [pdL_any hk.1 hk.2]; exact fin⟩
      · cases ei
    · next ds =>
      split at ei
      · next hk =>
        cases ei
        have hy := r2.dp (d := .tup ds) (by simp only [okN]; exact hk.2)
        simp only [pd] at hy
        exact .inl ⟨_, _, r1.dp hk.1, .inr hy, pd_shaped hk.1, pdL_lay0 hk.2, by rw [pdL_any hk.1 hk.2]; exact fin⟩
      · cases ei
    · next x' y' => cases ei; exact .inr (.inr ⟨x', y', r1.str, r2.str, fin⟩)
    · next es =>
      obtain ⟨a, kvs, rfl, g1, g2⟩ := r2.dk
      cases ek : dkey d1 with
      | none => rw [ek] at ei; cases ei
      | some k =>
        rw [ek] at ei; cases ei
        have hx : x = kV k := by
          cases d1 with
          | int i => cases ek; exact r1.int
          | str z => cases ek; exact r1.str
          | _ => cases ek
        have hv := valK (k := k) g2
        have eo := some_opt (α := Unit) (o := valV kvs k) hv.1 hv.2
        exact .inr (.inl ⟨a, valV kvs k, rfl, .inl ⟨kvs, k, g1, hx, rfl⟩, by rw [eo]; exact fin⟩)
    · next ks es =>
      obtain ⟨a, kvs, rfl, g1, g2⟩ := r2.dt
      obtain ⟨b', ws, rfl, h5, h6⟩ := r1.tup
      cases ek : keyD ks with
      | none => rw [ek] at ei; cases ei
      | some k =>
        rw [ek] at ei; cases ei
        have hv := valT (k := k) g2
        have eo := some_opt (α := Unit) (o := valV kvs k) hv.1 hv.2
        exact .inr (.inl ⟨a, valV kvs k, rfl, .inr ⟨kvs, k, b', g1, rfl, by rw [← key_vs ek h6]; exact h5, rfl⟩, by rw [eo]; exact fin⟩)
    · cases ei
theorem s_in (hu : X.A.units + 65 < cLine) : OpS X (compareOp .In) (oIn false) := in_core (op_inS hu) (op_inDc (by omega)) op_inStr
theorem s_notIn (hu : X.A.units + 65 < cLine) : OpS X (compareOp .NotIn) (oIn true) := in_core (op_notInS hu) (op_notInDc (by omega)) op_notInStr
theorem oIn_b {neg : Bool} : ∀ svs st sv st', oIn neg svs st = some (sv, st') → ∃ b, sv = .sh (.bl b) := oG_b fun ds s e => by
  unfold hIn at e
  split at e
  · next x y =>
    cases h : inD x y with
    | none => rw [h] at e; cases e
    | some b => rw [h] at e; cases e; exact ⟨_, rfl⟩
  · cases e

/-! ### is None, is not None; is of bools -/
def isNon : D → Bool
  | .non => true
  | _ => false
theorem isNon_v {K : PySem.W.Frag} {mg : Str → Option Value} {β : List Addr} {M : Addr → Prop} {H : Hp} {v : V} {d : D} (h : Rw K mg β M H v d) : decide (v = .non) = isNon d := by
  rcases h with h | ⟨a, rfl, h⟩
  · cases h <;> simp [isNon]
  · rcases h with ⟨_, _, rfl, _⟩ | ⟨_, _, rfl, _⟩ | ⟨_, _, rfl, _⟩ <;> simp [isNon]
def hIs (neg : Bool) : List D → Option SV
  | [x, .non] => some (.sh (.bl (if neg then !isNon x else isNon x)))
  | [.bl a, .bl b] => some (.sh (.bl (if neg then !decide (a = b) else decide (a = b))))
  | _ => none
def oIs (neg : Bool) : Op := oG (hIs neg)
theorem s_is : OpS X (compareOp .Is) (oIs false) := g_op (op_isN.or op_isBl) fun {β M H x y d1 d2 s Q} r1 r2 e q => by
  unfold hIs at e
  split at e
  · next z e0 => cases e0; cases e; exact .inl ⟨r2.non, by rw [isNon_v r1]; exact q.same _ (.bl _)⟩
  · next a b e0 => cases e0; cases e; exact .inr ⟨a, b, r1.bl, r2.bl, q.same _ (.bl _)⟩
  · cases e
theorem s_isNot : OpS X (compareOp .IsNot) (oIs true) := g_op (op_notN.or op_notBl) fun {β M H x y d1 d2 s Q} r1 r2 e q => by
  unfold hIs at e
  split at e
  · next z e0 => cases e0; cases e; exact .inl ⟨r2.non, by rw [isNon_v r1]; exact q.same _ (.bl _)⟩
  · next a b e0 => cases e0; cases e; exact .inr ⟨a, b, r1.bl, r2.bl, q.same _ (.bl _)⟩
  · cases e
theorem oIs_b {neg : Bool} : ∀ svs st sv st', oIs neg svs st = some (sv, st') → ∃ b, sv = .sh (.bl b) := oG_b fun ds s e => by
  unfold hIs at e
  split at e
  · cases e; exact ⟨_, rfl⟩
  · cases e; exact ⟨_, rfl⟩
  · cases e

/-! ### len -/
def hLen : List D → Option SV
  | [.lst ds] => some (.sh (.int ds.length))
  | [.tup ds] => some (.sh (.int ds.length))
  | [.str x] => if x.length ≤ 16777216 then some (.sh (.int x.length)) else none
  | [.dk es] => some (.sh (.int es.length))
  | [.dt es] => some (.sh (.int es.length))
  | _ => none
def oLen : Op := oG hLen
def rLenD : List V → Hp → VK → Prop := fun xs H Q => ∃ d u, xs = [.ref d] ∧ isD u ∧ Rd H d u ∧ Q (.int (entN u)) H
theorem call_lenD : CallR X (.builtin "len") rLenD := by
  intro pins s σ H xs us Q I r h
  obtain ⟨p, u, rfl, hu, hp, q⟩ := h
  obtain ⟨w, rfl, rx⟩ := vals1 r
  obtain rfl : w = .ref p := rx
  cases u with
  | dK kvs => exact d_len I hp fun t s' I' => ⟨.int kvs.length, H, I', ⟨t, rfl⟩, q⟩
  | dT kvs =>
    obtain ⟨z, hd, ys, rel, dd⟩ := dt_rd I.hok hp
    have hl : kvs.length = ys.length := Paired.length rel
    refine call_len_dictH hd dd (by rw [← hl]; rw [sizeLine_eq] at z; omega) ?_
    rw [← hl]
    exact ⟨.int ((kvs.length : Nat) : Int), H, I.tok _, ⟨_, rfl⟩, q⟩
  | _ => exact hu.elim
theorem s_len : CallS X (.builtin "len") oLen := g_call (call_len_seq.or (call_len_str.or call_lenD)) fun {β M H vs ds s Q} r e q => by
  unfold hLen at e
  split at e
  · next es =>
    cases e
    obtain ⟨v, rfl, r1⟩ := r.one
    obtain ⟨a, vs, rfl, h1, h2⟩ := r1.lst
    exact .inl ⟨a, vs, rfl, .inl (sqL h1), by rw [h2.length]; exact q.same _ (.int _)⟩
  · next es =>
    cases e
    obtain ⟨v, rfl, r1⟩ := r.one
    obtain ⟨a, vs, rfl, h1, h2⟩ := r1.tup
    exact .inl ⟨a, vs, rfl, .inr (sqT h1), by rw [h2.length]; exact q.same _ (.int _)⟩
  · next x =>
    split at e
    · next hx =>
      cases e
      obtain ⟨v, rfl, r1⟩ := r.one
      exact .inr (.inl ⟨x, by rw [r1.str], by rw [sizeLine_eq]; exact hx, q.same _ (.int _)⟩)
    · cases e
  · next es =>
    cases e
    obtain ⟨v, rfl, r1⟩ := r.one
    obtain ⟨a, kvs, rfl, h1, h2⟩ := r1.dk
    exact .inr (.inr ⟨a, .dK kvs, rfl, True.intro, h1, by show Q (.int (kvs.length : Nat)) H; rw [rpk_len h2]; exact q.same _ (.int _)⟩)
  · next es =>
    cases e
    obtain ⟨v, rfl, r1⟩ := r.one
    obtain ⟨a, kvs, rfl, h1, h2⟩ := r1.dt
    exact .inr (.inr ⟨a, .dT kvs, rfl, True.intro, h1, by show Q (.int (kvs.length : Nat)) H; rw [rpt_len h2]; exact q.same _ (.int _)⟩)
  · cases e

/-! ### what is walked at once: a list, a tuple, a dict -/
theorem vals_pick {P : Nat → V → Prop} : ∀ (us : List Value) (o : Nat), (∀ i u, us[i]? = some u → ∃ x, P (o + i) x ∧ RelV x u) → ∃ xs, Vals xs us ∧ ∀ i x, xs[i]? = some x → P (o + i) x
  | [], _, _ => ⟨[], .nil, fun i x e => by simp at e⟩
  | u :: us, o, h => by
    obtain ⟨x, h1, h2⟩ := h 0 u rfl
    obtain ⟨xs, h3, h4⟩ := vals_pick us (o + 1) fun i u e => by
      have := h (i + 1) u (by simpa using e)
      rw [show o + 1 + i = o + (i + 1) by omega]; exact this
    refine ⟨x :: xs, .cons h2 h3, fun i y e => ?_⟩
    cases i with
    | zero => simp at e; subst e; exact h1
    | succ i =>
      have := h4 i y (by simpa using e)
      rw [show o + (i + 1) = o + 1 + i by omega]; exact this
theorem rpl_at {K : PySem.W.Frag} {mg : Str → Option Value} {β : List Addr} {M : Addr → Prop} {H : Hp} : ∀ {xs : List V} {ds : List D}, xs.length = ds.length → (∀ (i : Nat) (x : V) (d : D), xs[i]? = some x → ds[i]? = some d → Rp K mg β M H x d) → RpL K mg β M H xs ds
  | [], [], _, _ => .nil
  | [], _ :: _, h, _ => by simp at h
  | _ :: _, [], h, _ => by simp at h
  | x :: xs, d :: ds, h, f => .cons (f 0 x d rfl rfl) (rpl_at (by simpa using h) fun i y e h1 h2 => f (i + 1) y e (by simpa using h1) (by simpa using h2))
/-- the keys of a dict, as they come -/
theorem dict_keys {pins : List (Addr × Obj)} {σ : St} {H : Hp} {s : Shared} {d : Addr} {u : HO} {β : List Addr} {M : Addr → Prop} {v : V} {dd : D} {ds : List D} (I : Inv X pins σ H s) (r : Rw X.K X.mg β M H v dd) (hd : (∃ es, dd = .dk es) ∨ ∃ es, dd = .dt es) (e : srcD dd = some ds) :
    ∃ a u, v = .ref a ∧ isD u ∧ Rd H a u ∧ ds.length = entN u ∧ ∀ (i : Nat) (x w : V) (d : D), Ent H u i x w → ds[i]? = some d → Rp X.K X.mg β M H x d := by
  rcases hd with ⟨es, rfl⟩ | ⟨es, rfl⟩
  · obtain ⟨a, kvs, rfl, h1, h2⟩ := r.dk
    cases e
    refine ⟨a, .dK kvs, rfl, True.intro, h1, by rw [List.length_map]; exact (rpk_len h2).symm, fun i x w d he hi => ?_⟩
    obtain ⟨k, hk, rfl⟩ := he
    rw [List.getElem?_map] at hi
    cases e0 : es[i]? with
    | none => rw [e0] at hi; cases hi
    | some p =>
      rw [e0] at hi; cases hi
      obtain ⟨v', e1, _⟩ := rpk_key h2 e0
      rw [e1] at hk; cases hk
      exact rp_kV _
  · obtain ⟨a, kvs, rfl, h1, h2⟩ := r.dt
    cases e
    refine ⟨a, .dT kvs, rfl, True.intro, h1, by rw [List.length_map]; exact (rpt_len h2).symm, fun i x w d he hi => ?_⟩
    obtain ⟨k, q, hk, rfl, hq⟩ := he
    rw [List.getElem?_map] at hi
    cases e0 : es[i]? with
    | none => rw [e0] at hi; cases hi
    | some p =>
      rw [e0] at hi; cases hi
      obtain ⟨v', e1, _⟩ := rpt_key h2 e0
      rw [e1] at hk; cases hk
      exact .tup hq (rpl_kV _)
/-- a sequence's items collected -/
theorem collect_src {pins : List (Addr × Obj)} {σ : St} {H : Hp} {s : Shared} {β : List Addr} {M : Addr → Prop} {v : V} {u : Value} {dd : D} {ds : List D} {A : Around} {E : Value → Shared → Prop} {Q : List Value → Shared → Prop} (hh : A.handled = none) (I : Inv X pins σ H s) (r : Rw X.K X.mg β M H v dd) (rv : RelV v u) (e : srcD dd = some ds) (hs : ∀ x, dd ≠ .str x)
    (h : ∀ h' tk us xs, (∀ b o, s.heap.get? b = some o → h'.get? b = some o) → Vals xs us → RpL X.K X.mg β M H xs ds → xs.length ≤ sizeLine → Q us { s with heap := h', toks := tk }) : wpAny (model X.prog X.w) A (collect u) Q E s := by
  have dict : ((∃ es, dd = .dk es) ∨ ∃ es, dd = .dt es) → wpAny (model X.prog X.w) A (collect u) Q E s := fun hd => by
    obtain ⟨a, w, rfl, hu, ha, hlen, hent⟩ := dict_keys (d := 0) (u := .dK []) I r hd e
    obtain rfl : u = .ref a := rv
    obtain ⟨hs, hz, ob, es, ep, ho, hx, hdt, hsz, ent⟩ := dict_raw I hu ha
    refine PySem.W.kdu_collect (PySem.KdlSrc.rawDict (es := es) (ep := ep) hs) hh ⟨ob, ho, hx, hdt⟩ (by omega) fun h' tk acc hk hacc => ?_
    obtain ⟨hsz2, hit⟩ := hacc
    obtain ⟨xs, hv, hp⟩ := vals_pick (P := fun i x => ∃ w', Ent H w i x w') acc.toList 0 fun i y ey => by
      obtain ⟨hi, rfl⟩ := hit i y (by rw [← Array.getElem?_toList]; exact ey)
      obtain ⟨x, w', h1, h2, h3⟩ := ent i hi
      exact ⟨x, ⟨w', by rw [Nat.zero_add]; exact h1⟩, h2⟩
    have hl : xs.length = acc.size := by rw [hv.length]; simp
    have hl2 : acc.size = entN w := hsz2.trans hsz
    refine h h' tk acc.toList xs hk hv (rpl_at (by omega) fun i x d hx' hd' => ?_) (by omega)
    obtain ⟨w', h1⟩ := hp i x hx'
    rw [Nat.zero_add] at h1
    exact hent i x w' d h1 hd'
  have seq : ∀ {a : Addr} {vs its : List Value} {xs : List V} {T : String} {o : Obj} {n : Nat}, u = .ref a → (T = "list" ∨ T = "tuple") → s.heap.get? a = some o → o.cls = .type T → o.data = .seq its.toArray n → Vals xs its → RpL X.K X.mg β M H xs ds → xs.length ≤ sizeLine → wpAny (model X.prog X.w) A (collect u) Q E s := fun {a vs its xs T o n} eu hT ho hc hd rvs rp hz => by
    subst eu
    have hl := rvs.length
    refine wpAny_collect_seq a hT ho hc hd (fun h' hk => ?_) (by rw [List.size_toArray]; omega)
    exact h h' s.toks its xs hk rvs rp hz
  cases dd with
  | lst xs =>
    cases e
    obtain ⟨a, vs, rfl, h1, h2⟩ := r.lst
    obtain rfl : u = .ref a := rv
    obtain ⟨its, n, rv, ho, hz⟩ := Inv.lstR I h1
    exact seq (vs := []) rfl (.inl rfl) ho rfl rfl rv h2 hz
  | tup xs =>
    cases e
    obtain ⟨a, vs, rfl, h1, h2⟩ := r.tup
    obtain rfl : u = .ref a := rv
    obtain ⟨its, rv, ⟨o, ho, hc, n, hd⟩, hz⟩ := I.tuple (sqT h1)
    exact seq (vs := []) rfl (.inr rfl) ho hc hd rv h2 hz
  | dk es => exact dict (.inl ⟨es, rfl⟩)
  | dt es => exact dict (.inr ⟨es, rfl⟩)
  | str x => exact absurd rfl (hs x)
  | _ => cases e

/-! ### list(x), tuple(x) -/
def hList : List D → Option SV
  | [.lst ds] => some (.ow (.lst ds))
  | [.tup ds] => some (.ow (.lst ds))
  | [.dk es] => some (.ow (.lst (es.map fun p => kD p.1)))
  | [.dt es] => some (.ow (.lst (es.map fun p => .tup (p.1.map kD))))
  | _ => none
def oList : Op := oG hList
def rListD2 : List V → Hp → VK → Prop := fun xs H Q => ∃ d u, xs = [.ref d] ∧ isD u ∧ Rd H d u ∧ ∀ p ys, H p = none → ys.length = entN u → (∀ i x, ys[i]? = some x → ∃ w, Ent H u i x w) → Q (.ref p) (upd H p (.lst ys))
theorem call_listD2 (hc : X.calm = true) : CallR X (.type "list") rListD2 := by
  intro pins s σ H xs us Q I r h
  obtain ⟨d, u, rfl, hu, hd, q⟩ := h
  obtain ⟨w, rfl, rx⟩ := vals1 r
  obtain rfl : w = .ref d := rx
  obtain ⟨hs, hz, ob, es, ep, ho, hx, hdt, hsz, ent⟩ := dict_raw I hu hd
  refine PySem.W.kdl_call (PySem.KdlSrc.rawDict (es := es) (ep := ep) hs) (I.ok.hd hc) ⟨ob, ho, hx, hdt⟩ (by omega) fun h' tk acc c hk hS hacc => ?_
  obtain ⟨hsz2, hit⟩ := hacc
  obtain ⟨ys, hv, hp⟩ := vals_pick (P := fun i x => ∃ w', Ent H u i x w') acc.toList 0 fun i y ey => by
    obtain ⟨hi, rfl⟩ := hit i y (by rw [← Array.getElem?_toList]; exact ey)
    obtain ⟨x, w', h1, h2, h3⟩ := ent i hi
    exact ⟨x, ⟨w', by rw [Nat.zero_add]; exact h1⟩, h2⟩
  have hl : ys.length = acc.size := by rw [hv.length]; simp
  have hl2 : acc.size = entN u := hsz2.trans hsz
  refine ⟨.ref s.heap.objs.size, upd H s.heap.objs.size (.lst ys), I.laid hk (Nat.le_refl _) (show ObjOk X.prog X.w _ _ _ (.lst ys) from ⟨by omega, acc.toList, c, hv, by rw [Array.toArray_toList]; exact hS⟩), rfl, q _ ys (I.hok.fresh (Nat.le_refl _)) (by omega) fun i x ex => ?_⟩
  have := hp i x ex
  rw [Nat.zero_add] at this
  exact this
theorem s_list (hc : X.calm = true) : CallS X (.type "list") oList := g_call (call_list_of.or (call_listD2 hc)) fun {β M H vs ds s Q} r e q => by
  unfold hList at e
  have newL : ∀ {p : Addr} {ys : List V} {es : List D}, s = .ow (.lst es) → H p = none → RpL X.K X.mg β M H ys es → Q (.ref p) (upd H p (.lst ys)) := fun {p ys es} es' hp rp => by
    subst es'
    exact q p _ hp trivial (fun xs z => by cases z) (.inl ⟨_, _, rfl, rfl, rp⟩)
  split at e
  · next es =>
    cases e
    obtain ⟨v, rfl, r1⟩ := r.one
    obtain ⟨a, vs, rfl, h1, h2⟩ := r1.lst
    exact .inl ⟨a, vs, rfl, .inl (sqL h1), fun l hl => newL rfl hl h2⟩
  · next es =>
    cases e
    obtain ⟨v, rfl, r1⟩ := r.one
    obtain ⟨a, vs, rfl, h1, h2⟩ := r1.tup
    exact .inl ⟨a, vs, rfl, .inr (sqT h1), fun l hl => newL rfl hl h2⟩
  · next es =>
    cases e
    obtain ⟨v, rfl, r1⟩ := r.one
    obtain ⟨a, kvs, rfl, h1, h2⟩ := r1.dk
    refine .inr ⟨a, .dK kvs, rfl, True.intro, h1, fun p ys hp hl hy => newL rfl hp (rpl_at (by rw [hl, List.length_map]; exact rpk_len h2) fun i x d hx hd => ?_)⟩
    obtain ⟨w, k, hk, rfl⟩ := hy i x hx
    rw [List.getElem?_map] at hd
    cases e0 : es[i]? with
    | none => rw [e0] at hd; cases hd
    | some p' =>
      rw [e0] at hd; cases hd
      obtain ⟨v', e1, _⟩ := rpk_key h2 e0
      rw [e1] at hk; cases hk
      exact rp_kV _
  · next es =>
    cases e
    obtain ⟨v, rfl, r1⟩ := r.one
    obtain ⟨a, kvs, rfl, h1, h2⟩ := r1.dt
    refine .inr ⟨a, .dT kvs, rfl, True.intro, h1, fun p ys hp hl hy => newL rfl hp (rpl_at (by rw [hl, List.length_map]; exact rpt_len h2) fun i x d hx hd => ?_)⟩
    obtain ⟨w, k, q', hk, rfl, hq⟩ := hy i x hx
    rw [List.getElem?_map] at hd
    cases e0 : es[i]? with
    | none => rw [e0] at hd; cases hd
    | some p' =>
      rw [e0] at hd; cases hd
      obtain ⟨v', e1, _⟩ := rpt_key h2 e0
      rw [e1] at hk; cases hk
      exact .tup hq (rpl_kV _)
  · cases e
def hTuple : List D → Option SV
  | [.lst ds] => some (.sh (.tup ds))
  | [.tup ds] => some (.sh (.tup ds))
  | _ => none
def oTuple : Op := oG hTuple
theorem s_tuple : CallS X (.type "tuple") oTuple := g_call call_tuple_of fun {β M H vs ds s Q} r e q => by
  unfold hTuple at e
  split at e
  · next es =>
    cases e
    obtain ⟨v, rfl, r1⟩ := r.one
    obtain ⟨a, vs, rfl, h1, h2⟩ := r1.lst
    exact ⟨a, vs, rfl, .inl ⟨sqL h1, fun l hl => q.tup l _ _ rfl hl h2⟩⟩
  · next es =>
    cases e
    obtain ⟨v, rfl, r1⟩ := r.one
    obtain ⟨a, vs, rfl, h1, h2⟩ := r1.tup
    exact ⟨a, vs, rfl, .inr ⟨sqT h1, q.same _ (.tup h1 h2)⟩⟩
  · cases e

/-! ### all, any, sum, min, max, abs, int -/
def bools : List D → Option (List Bool)
  | [] => some []
  | .bl b :: r => (bools r).map (b :: ·)
  | _ => none
theorem bools_v {K : PySem.W.Frag} {mg : Str → Option Value} {β : List Addr} {M : Addr → Prop} {H : Hp} : ∀ {ds : List D} {bs : List Bool} {vs : List V}, bools ds = some bs → RpL K mg β M H vs ds → vs = bs.map .bl
  | [], _, _, e, r => by cases e; cases r; rfl
  | .bl b :: ds, bs, _, e, r => by
    simp only [bools] at e
    cases e1 : bools ds with
    | none => rw [e1] at e; cases e
    | some bs' =>
      rw [e1] at e; cases e
      cases r with
      | cons r1 r2 => rw [r1.bl1, bools_v e1 r2]; rfl
  | .non :: _, _, _, e, _ => by simp [bools] at e
  | .int _ :: _, _, _, e, _ => by simp [bools] at e
  | .str _ :: _, _, _, e, _ => by simp [bools] at e
  | .tup _ :: _, _, _, e, _ => by simp [bools] at e
  | .lst _ :: _, _, _, e, _ => by simp [bools] at e
  | .dk _ :: _, _, _, e, _ => by simp [bools] at e
  | .dt _ :: _, _, _, e, _ => by simp [bools] at e
  | .obj _ :: _, _, _, e, _ => by simp [bools] at e
  | .fn _ :: _, _, _, e, _ => by simp [bools] at e
def intsD : List D → Option (List Int)
  | [] => some []
  | .int b :: r => (intsD r).map (b :: ·)
  | _ => none
theorem intsD_v {K : PySem.W.Frag} {mg : Str → Option Value} {β : List Addr} {M : Addr → Prop} {H : Hp} : ∀ {ds : List D} {bs : List Int} {vs : List V}, intsD ds = some bs → RpL K mg β M H vs ds → vs = bs.map .int
  | [], _, _, e, r => by cases e; cases r; rfl
  | .int b :: ds, bs, _, e, r => by
    simp only [intsD] at e
    cases e1 : intsD ds with
    | none => rw [e1] at e; cases e
    | some bs' =>
      rw [e1] at e; cases e
      cases r with
      | cons r1 r2 => rw [r1.int1, intsD_v e1 r2]; rfl
  | .non :: _, _, _, e, _ => by simp [intsD] at e
  | .bl _ :: _, _, _, e, _ => by simp [intsD] at e
  | .str _ :: _, _, _, e, _ => by simp [intsD] at e
  | .tup _ :: _, _, _, e, _ => by simp [intsD] at e
  | .lst _ :: _, _, _, e, _ => by simp [intsD] at e
  | .dk _ :: _, _, _, e, _ => by simp [intsD] at e
  | .dt _ :: _, _, _, e, _ => by simp [intsD] at e
  | .obj _ :: _, _, _, e, _ => by simp [intsD] at e
  | .fn _ :: _, _, _, e, _ => by simp [intsD] at e
def hBls (f : List Bool → Bool) : List D → Option SV
  | [.lst ds] => (bools ds).map fun bs => .sh (.bl (f bs))
  | _ => none
def oAll : Op := oG (hBls fun bs => bs.all id)
def oAny : Op := oG (hBls fun bs => bs.any id)
def rBls (K : PySem.W.Frag) (f : List Bool → Bool) : List V → Hp → VK → Prop := fun vs H Q => ∃ (a : Addr) (bs : List Bool), vs = [V.ref a] ∧ SqL K H a (bs.map V.bl) ∧ Q (.bl (f bs)) H
theorem bls_core {f : List Bool → Bool} {g : Value} (h : CallR X g (rBls X.K f)) : CallS X g (oG (hBls f)) := g_call h fun {β M H vs ds s Q} r e q => by
  unfold hBls at e
  split at e
  · next es =>
    cases eb : bools es with
    | none => rw [eb] at e; cases e
    | some bs =>
      rw [eb] at e; cases e
      obtain ⟨v, rfl, r1⟩ := r.one
      obtain ⟨a, vs, rfl, h1, h2⟩ := r1.lst
      exact ⟨a, bs, rfl, by rw [← bools_v eb h2]; exact sqL h1, q.same _ (.bl _)⟩
  · cases e
theorem s_all (hc : X.calm = true) : CallS X (.builtin "all") oAll := bls_core (cr_all hc)
theorem s_any (hc : X.calm = true) : CallS X (.builtin "any") oAny := bls_core (cr_any hc)
theorem hBls_b {f : List Bool → Bool} : ∀ svs st sv st', oG (hBls f) svs st = some (sv, st') → ∃ b, sv = .sh (.bl b) := oG_b fun ds s e => by
  unfold hBls at e
  split at e
  · next es =>
    cases eb : bools es with
    | none => rw [eb] at e; cases e
    | some bs => rw [eb] at e; cases e; exact ⟨_, rfl⟩
  · cases e
def hSum : List D → Option SV
  | [.lst ds] => (intsD ds).map fun bs => .sh (.int bs.sum)
  | _ => none
def oSum : Op := oG hSum
theorem s_sum (hc : X.calm = true) : CallS X (.builtin "sum") oSum := g_call (cr_sum hc) fun {β M H vs ds s Q} r e q => by
  unfold hSum at e
  split at e
  · next es =>
    cases eb : intsD es with
    | none => rw [eb] at e; cases e
    | some bs =>
      rw [eb] at e; cases e
      obtain ⟨v, rfl, r1⟩ := r.one
      obtain ⟨a, vs, rfl, h1, h2⟩ := r1.lst
      exact ⟨a, bs, rfl, by rw [← intsD_v eb h2]; exact sqL h1, q.same _ (.int _)⟩
  · cases e
def hMin : List D → Option SV
  | [.int i, .int j] => some (.sh (.int (if j < i then j else i)))
  | [.lst ds] => (intsD ds).bind fun bs => bs.min?.map fun m => .sh (.int m)
  | _ => none
def hMax : List D → Option SV
  | [.int i, .int j] => some (.sh (.int (if j > i then j else i)))
  | [.lst ds] => (intsD ds).bind fun bs => bs.max?.map fun m => .sh (.int m)
  | _ => none
def oMin : Op := oG hMin
def oMax : Op := oG hMax
theorem s_min (hc : X.calm = true) : CallS X (.builtin "min") oMin := g_call ((call_min2 hc).or (cr_min hc)) fun {β M H vs ds s Q} r e q => by
  unfold hMin at e
  split at e
  · next i j =>
    cases e
    obtain ⟨v, w, rfl, r1, r2⟩ := r.two
    exact .inl ⟨i, j, by rw [r1.int, r2.int], q.same _ (.int _)⟩
  · next es =>
    cases eb : intsD es with
    | none => rw [eb] at e; cases e
    | some bs =>
      rw [eb] at e
      cases em : bs.min? with
      | none => simp [em] at e
      | some m =>
        simp [em] at e; subst e
        obtain ⟨v, rfl, r1⟩ := r.one
        obtain ⟨a, vs, rfl, h1, h2⟩ := r1.lst
        obtain ⟨k1, k2⟩ := List.min?_eq_some_iff.mp em
        refine .inr ⟨a, bs, rfl, by rw [← intsD_v eb h2]; exact sqL h1, List.length_pos_of_mem k1, fun m' h3 h4 => ?_⟩
        have : m' = m := Int.le_antisymm (h4 m k1) (k2 m' h3)
        subst this
        exact q.same _ (.int _)
  · cases e
theorem s_max (hc : X.calm = true) : CallS X (.builtin "max") oMax := g_call ((call_max2 hc).or (cr_max hc)) fun {β M H vs ds s Q} r e q => by
  unfold hMax at e
  split at e
  · next i j =>
    cases e
    obtain ⟨v, w, rfl, r1, r2⟩ := r.two
    exact .inl ⟨i, j, by rw [r1.int, r2.int], q.same _ (.int _)⟩
  · next es =>
    cases eb : intsD es with
    | none => rw [eb] at e; cases e
    | some bs =>
      rw [eb] at e
      cases em : bs.max? with
      | none => simp [em] at e
      | some m =>
        simp [em] at e; subst e
        obtain ⟨v, rfl, r1⟩ := r.one
        obtain ⟨a, vs, rfl, h1, h2⟩ := r1.lst
        obtain ⟨k1, k2⟩ := List.max?_eq_some_iff.mp em
        refine .inr ⟨a, bs, rfl, by rw [← intsD_v eb h2]; exact sqL h1, List.length_pos_of_mem k1, fun m' h3 h4 => ?_⟩
        have : m' = m := Int.le_antisymm (k2 m' h3) (h4 m k1)
        subst this
        exact q.same _ (.int _)
  · cases e
def oAbs : Op := oG fun | [.int i] => some (.sh (.int (if i < 0 then -i else i))) | _ => none
theorem s_abs : CallS X (.builtin "abs") oAbs := g_call call_abs fun {β M H vs ds s Q} r e q => by
  split at e
  · next i =>
    cases e
    obtain ⟨v, rfl, r1⟩ := r.one
    exact ⟨i, by rw [r1.int], q.same _ (.int _)⟩
  · cases e
def oInt : Op := oG fun | [.int i] => some (.sh (.int i)) | [.bl b] => some (.sh (.int (if b then 1 else 0))) | _ => none
theorem s_int : CallS X (.type "int") oInt := g_call call_int1 fun {β M H vs ds s Q} r e q => by
  split at e
  · next i =>
    cases e
    obtain ⟨v, rfl, r1⟩ := r.one
    exact .inl ⟨i, by rw [r1.int], q.same _ (.int _)⟩
  · next i =>
    cases e
    obtain ⟨v, rfl, r1⟩ := r.one
    exact .inr ⟨i, by rw [r1.bl], q.same _ (.int _)⟩
  · cases e
end
end PL

/-! PLFunG: defs as pure functions where no repr is under way. -/
namespace PL
open PySem PySem.Spec L2

/-- the def at f keeps g's promise, wherever no repr is under way -/
def FnG (P : Program) (w : World) (K : PySem.W.Frag) (mg : Str → Option Value) (base : Heap) (k : Nat) (f : Addr) (g : Op) : Prop :=
  ∀ (A : Around) (outer : List Env) (s : Shared) (H : Hp) (us : List Value) (vs : List V) (Q : VK), Room k A → A.guards = some [] → Env0 P w K mg base A outer s H → Vals vs us → Sim K mg g vs H Q →
    codeAny (model P w) A (.call (.ref f) ⟨us, []⟩) (CR CX0 outer P w H s Q E0) s
section
variable {P : Program} {w : World} {K : PySem.W.Frag} {mg : Str → Option Value} {base : Heap} {k j n : Nat} {f : Addr} {g : Op}
theorem FnG.mono (F : FnG P w K mg base j f g) (h : j ≤ k) : FnG P w K mg base k f g := fun A outer s H us vs Q hr => F A outer s H us vs Q (hr.mono h)
theorem guards_deeper {A : Around} {env : Env} (h : A.guards = some []) : (A.deeper env).guards = some [] := h
theorem fg_of {x qual : Str} {st : Stmt} {fd : FuncData} {N ps : List Str} {b : S} (F : Fun K x qual st f fd) (S : FnScope N ps (defScope st)) (hn : N.length = n) (bd : Binds K fd ps [])
    (hb : ∀ (cdv : Value) (A : Around) (outer : List Env) (s : Shared) (H : Hp), Room k (A.deeper (PyProof.Rows.envOfC qual (defScope st) s.heap.objs.size f cdv)) → A.guards = some [] → BX (cxOf CX0 P w K mg base N qual (defScope st) f cdv A outer s H E0).nox (defBody st) b) :
    FnG P w K mg base (k + 1) f (runF ps.length n b) := by
  intro A outer s H us vs Q hr hg e0 r hsp
  obtain ⟨oc, od, kV, doc, pm, an, cdv, ct, osl, rfl, lk, hcd⟩ := F.ex
  have hlv : vs.length = ps.length := spF_len (E := E0) (show spF K mg (runF ps.length n b) vs H Q E0 from hsp)
  have hlu : (us ++ ([] : List Value)).length = ps.length := by rw [List.append_nil, ← r.length]; exact hlv
  have KX : K.In s.heap := e0.mod.kin.keeps fun c o e => (e0.bs c o e).1
  have bnd := bd s us KX hlu
  rw [List.append_nil] at bnd
  have lim : s.heap.NoLimit := e0.mod.nolimit.keeps fun c o e => (e0.bs c o e).1
  have kinds : ∀ y ∈ ps.zip us, (defScope st).names.lookup y.1 = some .local ∨ ((defScope st).names.lookup y.1 = some .cell ∧ ((cellsFrom (s.heap.objs.size + 1) (defScope st).names []).lookup y.1).isSome = true) := fun ⟨m, v⟩ hy =>
    (S.par m (List.of_mem_zip hy).1).imp id fun q => ⟨q, PySem.W.cellsFrom_some _ _ _ (.inl q)⟩
  refine codeAny_call_function hr.depth (KX _ _ lk) rfl S.co S.gen rfl (PySem.W.codeRec_of KX hcd) (bnd _ _ _ _ ?_)
  refine wpAny_newFunctionEnv_cells S.kind kinds fun env he s1 x => ?_
  subst he
  refine ⟨lim.keeps x.toInCall.keep, codeAny_func ?_⟩
  have ht := (hb cdv A outer s H (hr.deeper _) hg).nox
  have hq := body_of hn (show spF K mg (runF ps.length n b) vs H Q E0 from hsp)
  have I := inv_start (CX := CX0) (E := E0) S hr.hd e0 hlv r x
  refine wpAny_mono (ht.run [] s1 (L2.start N vs) H _ I hq) (fun fl s' hs => ?_) fun e s' hs => hs
  cases fl with
  | ret u => exact let ⟨v, _, H', J, rv, q⟩ := hs; ⟨v, H', J.os, J.bare, J.base, J.hok, rv, q⟩
  | next => exact let ⟨_, H', J, q⟩ := hs; ⟨V.non, H', J.os, J.bare, J.base, J.hok, rfl, q⟩
  | brk => exact let ⟨_, _, _, q⟩ := hs; q.elim
  | cont => exact let ⟨_, _, _, q⟩ := hs; q.elim
end
section
variable {X : Cx} {k j : Nat} {f : Addr} {x : Str} {p pos : Pos} {e : Expr} {es : List Expr} {ga : Ar} {g : Op}
theorem run_fg {pins : List (Addr × Obj)} {σ : St} {H : Hp} {s : Shared} {Q : VK} {us : List Value} {vs : List V} (F : FnG X.prog X.w X.K X.mg X.base k f g) (hr : Room k X.A) (hgd : X.A.guards = some []) (I : Inv X pins σ H s) (r : Vals vs us) (h : Sim X.K X.mg g vs H Q) :
    wpAny (model X.prog X.w) X.A (call (.ref f) us) (EP X pins σ Q) X.xe s := by
  refine wpAny_call (codeAny_mono (F X.A X.stack s H us vs Q hr hgd I.env0 r h) fun res s' hq => ?_)
  cases res with
  | error e => exact hq.elim
  | ok fl => cases fl with
    | ret u => exact I.after hq
    | next => exact hq.elim
    | brk => exact hq.elim
    | cont => exact hq.elim
/-- f(e, ..), f a def -/
theorem px_fg (F : FnG X.prog X.w X.K X.mg X.base k f g) (hr : Room j X.A) (hj : k ≤ j) (hgd : X.A.guards = some []) (hg : Gl X x) (hm : X.mg x = some (.ref f)) (hk : PySem.W.keepIn X.K (.ref f) = true)
    (ha : AX X (e :: es) ga) (hdb : (x == ("__debug__" : Str)) = false := by decide) (he : starEach (e :: es) X.env = (false, eval e X.env) :: starEach es X.env := by rfl) (hpl : (backTo pos (starEach es X.env)).any (·.1) = false := by rfl) :
    PX X (.Call (.Name x p) (e :: es) [] pos) (pOp g ga) := by
  refine ⟨fun pins s σ H Q I h => ?_⟩
  refine wpAny_Call_Name_kw (ld_glob I hg hm ?_ hdb)
  refine PySem.W.callWith_K (h₀ := X.base) I.ok.mod.kin hk (thn (ha.run pos pins s σ H _ I (sim_of h)) fun us s1 ⟨vs, H1, I1, r, q⟩ => ⟨I1.kIn, ?_⟩) he hpl
  exact run_fg F (hr.mono hj) hgd I1 r q
/-- f(), f a def -/
theorem px_fg0 (F : FnG X.prog X.w X.K X.mg X.base k f g) (hr : Room j X.A) (hj : k ≤ j) (hgd : X.A.guards = some []) (hg : Gl X x) (hm : X.mg x = some (.ref f)) (hk : PySem.W.keepIn X.K (.ref f) = true)
    (hdb : (x == ("__debug__" : Str)) = false := by decide) : PX X (.Call (.Name x p) [] [] pos) (pOp g aNil) := by
  refine ⟨fun pins s σ H Q I h => ?_⟩
  refine wpAny_Call_Name_kw (ld_glob I hg hm ?_ hdb)
  exact PySem.W.callWith_K0 I.kIn hk (run_fg (us := []) F (hr.mono hj) hgd I .nil (ar_nil (sim_of h)))
end
end PL

/-! PLOp3: isinstance, sorted, repr, star displays, slices, get. -/
namespace PL
open PySem PySem.Spec L2

/-! ### isinstance(x, T) -/
def tyN : D → Option String
  | .non => some "NoneType"
  | .bl _ => some "bool"
  | .int _ => some "int"
  | .str _ => some "str"
  | .tup _ => some "tuple"
  | .lst _ => some "list"
  | .dk _ => some "dict"
  | _ => none
def hIsi (T : String) : List D → Option SV
  | [x] => (tyN x).map fun t => .sh (.bl (t == T || (t == "bool" && T == "int")))
  | _ => none
def oIsi (T : String) : Op := oG (hIsi T)
def rIsi1 (K : PySem.W.Frag) (T : String) : List V → Hp → VK → Prop := fun xs H Q => ∃ x t b, xs = [x] ∧ TyX K H x t ∧ PySem.W.kitOne K t (.type T) = some b ∧ Q (.bl b) H
/-- the types that a law asks for -/
inductive TyAsk : String → Prop where
  | int : TyAsk "int" | bl : TyAsk "bool" | str : TyAsk "str" | tup : TyAsk "tuple" | lst : TyAsk "list" | dct : TyAsk "dict"
theorem kit_all {T t : String} (h : TyAsk T) (ht : t ∈ ["NoneType", "bool", "int", "str", "tuple", "list", "dict"]) : kitB t T = some (t == T || (t == "bool" && T == "int")) := by
  simp only [List.mem_cons, List.not_mem_nil, or_false] at ht
  cases h <;> rcases ht with rfl | rfl | rfl | rfl | rfl | rfl | rfl <;> decide +kernel
section
variable {X : Cx} {e : Expr} {f : P} {p p2 pos : Pos} {T : String} {xT : Str}
theorem px_isi (hT : TyAsk T) (hg : Gl X "isinstance") (hm : X.mg "isinstance" = none) (hgT : Gl X xT) (hmT : X.mg xT = none) (hbT : bootBuiltins xT = some (.type T)) (he : PX X e f) (hn : xT ≠ "__name__" := by decide) (hdT : (xT == ("__debug__" : Str)) = false := by decide)
    (h1 : starEach [e, .Name xT p2] X.env = (false, eval e X.env) :: starEach [.Name xT p2] X.env := by rfl) (h2 : starEach [.Name xT p2] X.env = (false, eval (.Name xT p2) X.env) :: starEach [] X.env := by rfl) (hpl : (backTo pos (starEach [.Name xT p2] X.env)).any (·.1) = false := by rfl) :
    PX X (.Call (.Name "isinstance" p) [e, .Name xT p2] [] pos) (pOp (oIsi T) (a1 f)) := by
  have ha : PA X [e, .Name xT p2] (tCons (TP X.K X.mg f) (tCons (tC (.ty T)) tNil)) := pa_cons he (pa_cons (pe_bltn hgT hmT hbT (show RelV (.ty T) (.type T) from rfl) hn hdT) pa_nil h2) h1
  refine (pe_callB call_isi hg hm PyProof.Rows.boot_isinstance ha (he := h1) (hpl := hpl)).imp fun σ H Q w => ?_
  refine TP.mono (fun x H1 q1 => ?_) (sim1 w)
  obtain ⟨β, M, ds, s, r, e, q⟩ := sim_g q1
  show rIsi X.K [x, .ty T] H1 Q
  unfold hIsi at e
  split at e
  · next d =>
    obtain ⟨x', ex, r1⟩ := r.one
    cases ex
    cases et : tyN d with
    | none => rw [et] at e; cases e
    | some t =>
      rw [et] at e; cases e
      have fin : ∀ {u : Value}, TyX X.K H1 x u → u = .type t → t ∈ ["NoneType", "bool", "int", "str", "tuple", "list", "dict"] → rIsi X.K [x, .ty T] H1 Q := fun {u} tx eu hm => by
        subst eu
        exact ⟨x, .ty T, .type t, .type T, _, rfl, .ty T, tx, kit_ty (kit_all hT hm), q.same _ (.bl _)⟩
      cases d with
      | non => cases et; rw [r1.non] at fin ⊢; exact fin (.base .non) rfl (by simp)
      | bl b => cases et; rw [r1.bl] at fin ⊢; exact fin (.base (.bl b)) rfl (by simp)
      | int b => cases et; rw [r1.int] at fin ⊢; exact fin (.base (.int b)) rfl (by simp)
      | str b => cases et; rw [r1.str] at fin ⊢; exact fin (.base (.str b)) rfl (by simp)
      | tup xs => cases et; obtain ⟨a, vs, rfl, h1, h2⟩ := r1.tup; exact fin (.base (.tup h1)) rfl (by simp)
      | lst xs =>
        cases et
        obtain ⟨a, vs, rfl, h1, h2⟩ := r1.lst
        rcases h1 with (h1 | ⟨o, h1⟩) | ⟨its, n, h1, _, _⟩
        · exact fin (.base (.lst h1)) rfl (by simp)
        · exact fin (.base (.frz h1)) rfl (by simp)
        · exact fin (.kList h1 rfl) rfl (by simp)
      | dk xs =>
        cases et
        obtain ⟨a, vs, rfl, h1, h2⟩ := r1.dk
        rcases h1 with h1 | ⟨o, h1⟩
        · exact fin (.base (.dK h1)) rfl (by simp)
        · exact fin (.fDict h1) rfl (by simp)
      | _ => cases et
  · cases e
theorem oIsi_b : ∀ svs st sv st', oIsi T svs st = some (sv, st') → ∃ b, sv = .sh (.bl b) := oG_b fun ds s e => by
  unfold hIsi at e
  split at e
  · next x =>
    cases h : tyN x with
    | none => rw [h] at e; cases e
    | some b => rw [h] at e; cases e; exact ⟨_, rfl⟩
  · cases e
/-- a test whose value is a bool -/
theorem tx_of (h : PX X e f) (he : ∀ whole, isTrue e X.env whole = (do let v ← whole; standAt e.pos; holding [v] (truthy v)) := by intro _; rfl) : TX X e f := tx_val h he
end

/-! ### sorted(x) -/
def leD (a b : D) : Bool := !PySem.W.dataLt (pd b) (pd a)
def tup1 : D → Bool
  | .tup (_ :: _) => true
  | _ => false
def noTup : D → Bool
  | .tup _ => false
  | .non => false
  | _ => true
def notNon : D → Bool
  | .non => false
  | _ => true
def sortable (ds : List D) : Bool := okNL 59 ds && (ds.all fun a => ds.all fun b => PySem.W.alike (pd a) (pd b)) && (ds.all tup1 || ds.all noTup || (decide (ds.length ≤ 1) && ds.all notNon)) && decide (ds.length ≤ 16777216)
def hSorted : List D → Option SV
  | [d] => match d with
    | .str _ => none
    | d => (srcD d).bind fun ds => if sortable ds = true then some (.ow (.lst (ds.mergeSort leD))) else none
  | _ => none
def oSorted : Op := oG hSorted
theorem sorts_one {prog : Program} {w : World} {A : Around} {s : Shared} {vs : List Value} {ds : List PyData} (e : PySem.W.EachIs (fun v d => ∃ as, Reads s.heap v d as) vs ds) (hal : PySem.W.AllAlike ds) (hn : ∀ d ∈ ds, d ≠ .none) (h1 : vs.length ≤ 1) (hu : ∀ d, d ∈ ds → A.units + d.depth < cLine) : PySem.W.SortsAt prog w A s (PySem.W.dataKind s.heap ds) vs := by
  refine ⟨fun v hv => ?_, PyProof.Rows.general', fun E x y a b Q ha hb hq => ?_, fun h2 => by omega⟩
  · obtain ⟨d, hd, as, r⟩ := e.left v hv
    exact ⟨_, PySem.W.dataKind_some hal hd r⟩
  · obtain ⟨d, as, hd, ra, rfl⟩ := PySem.W.dataKind_inv ha
    obtain ⟨d', as', hd', rb, rfl⟩ := PySem.W.dataKind_inv hb
    have room : A.units + min d.depth d'.depth < cLine := Nat.lt_of_le_of_lt (Nat.add_le_add_left (Nat.min_le_left _ _) _) (hu d hd)
    show wpAny (model prog w) A (PyProof.Rows.oneLt' false x y) Q E s
    exact PySem.W.oneLt_alike (fun z => absurd z (by decide)) ra rb (hal d hd d' hd') (hn d hd) room hq
theorem pdL_map (ds : List D) : pdL ds = ds.map pd := pdL_eq ds
theorem depth_mem {n : Nat} {ds : List D} (h : okNL n ds = true) : ∀ d ∈ ds.map pd, d.depth ≤ n := fun d hd => by
  obtain ⟨x, hx, rfl⟩ := List.mem_map.mp hd
  rw [okNL_iff, List.all_eq_true] at h
  exact pd_depth n x (h x hx)
section
variable {X : Cx}
/-- the values that stand for data, as a row -/
theorem each_of {K : PySem.W.Frag} {mg : Str → Option Value} {β : List Addr} {M : Addr → Prop} {H : Hp} : ∀ {xs : List V} {us : List Value} {ds : List D}, Vals xs us → RpL K mg β M H xs ds → PySem.W.EachIs (fun u (p : V × D) => RelV p.1 u ∧ Rp K mg β M H p.1 p.2) us (xs.zip ds)
  | _, _, _, .nil, .nil => .nil
  | _, _, _, .cons r t, .cons r2 t2 => .cons ⟨r, r2⟩ (each_of t t2)
theorem each_vals {K : PySem.W.Frag} {mg : Str → Option Value} {β : List Addr} {M : Addr → Prop} {H : Hp} : ∀ {us : List Value} {ps : List (V × D)}, PySem.W.EachIs (fun u (p : V × D) => RelV p.1 u ∧ Rp K mg β M H p.1 p.2) us ps → Vals (ps.map (·.1)) us ∧ RpL K mg β M H (ps.map (·.1)) (ps.map (·.2))
  | _, _, .nil => ⟨.nil, .nil⟩
  | _, _, .cons h t => ⟨.cons h.1 (each_vals t).1, .cons h.2 (each_vals t).2⟩
theorem s_sorted (hc : X.calm = true) (hu : X.A.units + 100 < cLine) : CallS X (.builtin "sorted") oSorted := by
  intro pins s σ H xs us Q I rv w
  obtain ⟨β, M, ds0, s1, r, e, q⟩ := sim_g w
  unfold hSorted at e
  split at e
  case h_2 => cases e
  next d0 =>
  obtain ⟨v, rfl, r1⟩ := r.one
  obtain ⟨u, rfl, ru⟩ := vals1 rv
  have core : ∀ {ds : List D}, srcD d0 = some ds → (∀ x, d0 ≠ .str x) → (if sortable ds = true then some (SV.ow (.lst (ds.mergeSort leD))) else none) = some s1 → wpAny (model X.prog X.w) X.A (call (.builtin "sorted") [u]) (EP X pins σ Q) X.xe s := by
    intro ds es hns e
    split at e
    case isFalse => cases e
    next hso =>
    cases e
    unfold sortable at hso
    rw [Bool.and_eq_true, Bool.and_eq_true, Bool.and_eq_true] at hso
    obtain ⟨⟨⟨hok, hal⟩, hk⟩, hlen⟩ := hso
    have hlen := of_decide_eq_true hlen
    refine Calls.call_function_entry PyProof.Rows.kind_sorted PyProof.Rows.plain_sorted PyProof.Rows.entry_sorted (PyProof.Rows.args_sorted1 _) ?_
    unfold Builtin.«sorted»
    refine wpAny_bind (m := checkCount "sorted" 1 1 _) (wpAny_pure ?_)
    refine wpAny_bind (collect_src (I.ok.hd hc) I r1 ru es hns fun h' tk us xs hk' hv rp hz => ?_)
    have hl := hv.length
    refine wpAny_bind (wpAny_newList ?_ (by omega))
    -- the sort of the new list
    have I1 : Inv X pins σ H { s with heap := h', toks := tk } := I.kept hk'
    have hD : H h'.objs.size = none := I1.hok.fresh (Nat.le_refl _)
    have hgd : (h'.push { cls := .type "list", data := .seq us.toArray }).get? h'.objs.size = some (PyProof.Rows.seqObj "list" us.toArray 0) := Heap.get?_push_size _ rfl
    have I2 : Inv X pins σ H { s with heap := h'.push { cls := .type "list", data := .seq us.toArray }, toks := tk } := I1.kept fun b o e => Heap.get?_push_of_some _ e
    have ee := each_of hv rp
    have hlz : (xs.zip ds).length = xs.length := by rw [List.length_zip, rp.length, Nat.min_self]
    have emap : (xs.zip ds).map (fun p => pd p.2) = ds.map pd := by
      have e2 : (xs.zip ds).map Prod.snd = ds := List.map_snd_zip (by rw [rp.length]; exact Nat.le_refl _)
      conv => rhs; rw [← e2]
      rw [List.map_map]; rfl
    have hokA : ∀ x ∈ ds, okN 59 x = true := by rw [okNL_iff, List.all_eq_true] at hok; exact hok
    -- the objects that the data read off stand ahead of the new list
    have er0 : ∀ {h2 : Heap} {t2 : Nat}, Inv X pins σ H { s with heap := h2, toks := t2 } → PySem.W.EachIs (fun v (p : V × D) => ∃ as, Reads h2 v (pd p.2) as) us (xs.zip ds) := fun {h2 t2} I3 =>
      (PySem.W.each_mem ee).mono fun v p ⟨⟨h1, h3⟩, hm⟩ => Dp.reads I3 _ _ _ (h3.dp 59 _ _ (hokA _ (List.of_mem_zip hm).2)) h1
    have hal' : PySem.W.AllAlike ((xs.zip ds).map fun p => pd p.2) := by
      rw [emap]
      intro a ha b hb
      obtain ⟨x, hx, rfl⟩ := List.mem_map.mp ha
      obtain ⟨y, hy, rfl⟩ := List.mem_map.mp hb
      rw [List.all_eq_true] at hal
      have := hal x hx
      rw [List.all_eq_true] at this
      exact this y hy
    have S3 : ∀ {h3 : Heap}, Inv X pins σ H { s with heap := h3, toks := tk } → PySem.W.SortsAt X.prog X.w X.A.in1.in1 { s with heap := h3, toks := tk } (PySem.W.dataKind h3 ((xs.zip ds).map fun p => pd p.2)) us := fun {h3} I3 => by
      have er := PySem.W.each_map (R := fun v d => ∃ as, Reads h3 v d as) (fun p : V × D => pd p.2) (er0 I3)
      have hdep : ∀ d ∈ (xs.zip ds).map (fun p => pd p.2), X.A.in1.in1.units + d.depth < cLine := fun d hd => by
        rw [emap] at hd
        have := depth_mem hok d hd
        show X.A.units + 1 + 1 + d.depth < cLine
        omega
      rw [Bool.or_eq_true, Bool.or_eq_true] at hk
      rcases hk with (hk | hk) | hk
      · refine PySem.W.SortsAt.data er hal' (.inl fun d hd => ?_) hdep
        rw [emap] at hd
        obtain ⟨x, hx, rfl⟩ := List.mem_map.mp hd
        rw [List.all_eq_true] at hk
        have := hk x hx
        cases x with
        | tup ys => cases ys with
          | nil => cases this
          | cons y ys => exact ⟨pd y, pdL ys, by simp [pd, pdL]⟩
        | _ => cases this
      · refine PySem.W.SortsAt.data er hal' (.inr fun d hd => ?_) hdep
        rw [emap] at hd
        obtain ⟨x, hx, rfl⟩ := List.mem_map.mp hd
        rw [List.all_eq_true] at hk
        have := hk x hx
        have hok' := hokA x hx
        cases x with
        | non => cases this
        | tup ys => cases this
        | dk _ => simp [okN] at hok'
        | dt _ => simp [okN] at hok'
        | obj _ => simp [okN] at hok'
        | fn _ => simp [okN] at hok'
        | _ => simp [pd]
      · rw [Bool.and_eq_true] at hk
        have h1 := of_decide_eq_true hk.1
        refine sorts_one er hal' (fun d hd => ?_) (by rw [← hl, rp.length]; exact h1) hdep
        rw [emap] at hd
        obtain ⟨x, hx, rfl⟩ := List.mem_map.mp hd
        have := hk.2
        rw [List.all_eq_true] at this
        have := this x hx
        have hok' := hokA x hx
        cases x with
        | non => cases this
        | dk _ => simp [okN] at hok'
        | dt _ => simp [okN] at hok'
        | obj _ => simp [okN] at hok'
        | fn _ => simp [okN] at hok'
        | _ => simp [pd]
    have kp0 : ∀ b o, h'.get? b = some o → b ≠ h'.objs.size ∧ (h'.push (PyProof.Rows.seqObj "list" us.toArray 0)).get? b = some o := fun b o e => ⟨Nat.ne_of_lt (Heap.lt_size e), Heap.get?_push_of_some _ e⟩
    have I3 : Inv X pins σ H { s with heap := PySem.W.sortingHeap (h'.push (PyProof.Rows.seqObj "list" us.toArray 0)) h'.objs.size us, toks := tk } := I1.kept (t' := tk) fun b o e => PySem.W.sortingHeap_old (kp0 b o e).1 (kp0 b o e).2
    have hout := PySem.W.sortVals_data (enc := fun p : V × D => pd p.2) false ee (er0 I3) hal'
    generalize ho : PySem.W.sortVals (PySem.W.dataKind (PySem.W.sortingHeap (h'.push (PyProof.Rows.seqObj "list" us.toArray 0)) h'.objs.size us) ((xs.zip ds).map fun p => pd p.2)) false us us = out at hout
    refine wpAny_bind (wpAny_holding (wpAny_call_entry PyProof.Rows.slot_list_sort ⟨_, hgd, rfl⟩ PyProof.Rows.entry_list_sort (PySem.W.list_sort_vals (s := { s with heap := h'.push (PyProof.Rows.seqObj "list" us.toArray 0), toks := tk }) hgd (S3 I3) (by omega) ⟨.none, rfl, ?_⟩) (PyProof.Rows.args_list_sort _)))
    refine wpAny_pure ⟨_, rfl, ?_⟩
    rw [ho]
    obtain ⟨rv2, rp2⟩ := each_vals hout
    obtain ⟨ep, he⟩ := PyProof.Rows.sortedHeap_at (vs := us) (out := out.toArray) hgd
    have e2 : ((xs.zip ds).mergeSort (PySem.W.dataLe false fun p : V × D => pd p.2)).map (·.2) = ds.mergeSort leD := by
      refine (List.map_mergeSort (r := PySem.W.dataLe false fun p : V × D => pd p.2) (s := leD) (f := fun x : V × D => x.2) (l := xs.zip ds) fun a _ b _ => rfl).trans ?_
      rw [show (xs.zip ds).map (fun x => x.2) = ds from List.map_snd_zip (by rw [rp.length]; exact Nat.le_refl _)]
    rw [e2] at rp2
    have hl2 := rp2.length
    have hz2 : (((xs.zip ds).mergeSort (PySem.W.dataLe false fun p : V × D => pd p.2)).map (·.1)).length ≤ sizeLine := by rw [hl2, List.length_mergeSort, ← rp.length]; exact hz
    refine ⟨.ref h'.objs.size, _, I1.laid (a := h'.objs.size) (o := .lst (((xs.zip ds).mergeSort (PySem.W.dataLe false fun p : V × D => pd p.2)).map (·.1))) (t' := tk) (fun b o e => ?_) (Nat.le_refl _) ⟨hz2, out, ep, rv2, he⟩, rfl, q _ _ hD trivial (fun xs z => by cases z) (.inl ⟨_, _, rfl, rfl, rp2⟩)⟩
    exact (PyProof.Rows.sortedHeap_old (kp0 b o e).1 (Heap.lt_size (kp0 b o e).2)).trans (kp0 b o e).2
  split at e
  · cases e
  · next d hns =>
    cases es : srcD d0 with
    | none => rw [es] at e; cases e
    | some ds =>
      rw [es] at e
      exact core es hns e
end
end PL

/-! PLOp4: repr, star displays, slices, get, tests of dicts. -/
namespace PL
open PySem PySem.Spec L2

/-! ### repr(x) -/
def hRepr : List D → Option SV
  | [d] => if okN 60 d = true ∧ (pd d).showable = true ∧ (pd d).shown.length ≤ 16777216 then some (.sh (.str (pd d).shown)) else none
  | _ => none
def oRepr : Op := oG hRepr
mutual
theorem pd_noDict : ∀ (n : Nat) (d : D), (pd d).hasDict = false
  | _, .non => by simp [pd, PyData.hasDict]
  | _, .bl _ => by simp [pd, PyData.hasDict]
  | _, .int _ => by simp [pd, PyData.hasDict]
  | _, .str _ => by simp [pd, PyData.hasDict]
  | n, .tup xs => by simp [pd, PyData.hasDict]; exact pdL_noDict n xs
  | n, .lst xs => by simp [pd, PyData.hasDict]; exact pdL_noDict n xs
  | _, .dk _ => by simp [pd, PyData.hasDict]
  | _, .dt _ => by simp [pd, PyData.hasDict]
  | _, .obj _ => by simp [pd, PyData.hasDict]
  | _, .fn _ => by simp [pd, PyData.hasDict]
theorem pdL_noDict : ∀ (n : Nat) (ds : List D), PyData.hasDictAll (pdL ds) = false
  | _, [] => by simp [pdL, PyData.hasDictAll]
  | n, d :: ds => by simp [pdL, PyData.hasDictAll, pd_noDict n d, pdL_noDict n ds]
end
section
variable {X : Cx}
theorem s_repr (hu : X.A.units + 100 < cLine) (hg : X.A.guards = some []) : CallS X (.builtin "repr") oRepr := by
  intro pins s σ H xs us Q I rv w
  obtain ⟨β, M, ds0, s1, r, e, q⟩ := sim_g w
  unfold hRepr at e
  split at e
  case h_2 => cases e
  next d =>
  obtain ⟨v, rfl, r1⟩ := r.one
  obtain ⟨u, rfl, ru⟩ := vals1 rv
  split at e
  case isFalse => cases e
  next hk =>
  obtain ⟨hok, hsh, hlen⟩ := hk
  cases e
  have hlen : (pd d).shown.length ≤ sizeLine := by rw [sizeLine_eq]; exact hlen
  have fin : ∀ {h' : Heap} {t : Tok} {tk : Nat}, (∀ b o, s.heap.get? b = some o → h'.get? b = some o) → EP X pins σ Q (.str (pd d).shown t) { s with heap := h', toks := tk } := fun {h' t tk} hk => ⟨.str _, H, I.kept hk, ⟨t, rfl⟩, q.same _ (.str _)⟩
  obtain ⟨as, rr⟩ := Dp.reads I _ _ _ (r1.dp hok) ru
  have hdp := pd_depth 60 d hok
  have byref : ∀ {a : Addr}, u = .ref a → wpAny (model X.prog X.w) X.A (call (.builtin "repr") [u]) (EP X pins σ Q) X.xe s := fun {a} eu => by
    subst eu
    exact repr_of_reads' rr hsh (fun z => by rw [pd_noDict 0 d] at z; cases z) hg (by omega) (fun _ _ e => e) (fun h' t tk hk => fin hk) hlen
  cases d with
  | non => obtain rfl := r1.non; obtain rfl : u = .none := ru; simp only [pd, PyData.shown] at fin ⊢; exact PySem.P.repr_of_none (fin fun _ _ e => e)
  | bl b => obtain rfl := r1.bl; obtain rfl : u = .bool b := ru; simp only [pd, PyData.shown] at fin ⊢; exact PySem.P.repr_of_bool (fin fun _ _ e => e)
  | int i =>
    obtain rfl := r1.int
    obtain ⟨t, rfl⟩ := ru
    simp only [pd, PyData.shown, PyData.showable] at fin hsh ⊢
    exact PySem.P.repr_of_int (of_decide_eq_true hsh) (fin fun _ _ e => e)
  | str x =>
    obtain rfl := r1.str
    obtain ⟨t, rfl⟩ := ru
    simp only [pd, PyData.shown] at fin hlen ⊢
    exact PySem.P.repr_of_str (fin fun _ _ e => e) hlen
  | tup xs => obtain ⟨a, vs, rfl, _, _⟩ := r1.tup; exact byref ru
  | lst xs => obtain ⟨a, vs, rfl, _, _⟩ := r1.lst; exact byref ru
  | _ => simp [okN] at hok
end

/-! ### [*x, ..] -/
def aStar (f : P) (g : Ar) : Ar := fun ρ st => match f ρ st with
  | none => none
  | some (s, st1) => match seqOf s with
    | none => none
    | some ds => match g ρ st1 with
      | none => none
      | some (xs, st2) => some (ds.map .sh ++ xs, st2)
section
variable {K : PySem.W.Frag} {mg : Str → Option Value} {β β' : List Addr} {M M' B T T' : Addr → Prop} {H H' : Hp} {σ : St} {ρ : Lo} {st st' : Sto} {a : Addr} {v : V} {as : List Addr} {vs : List V} {ds : List D}
theorem RpL.rl : ∀ {vs ds}, RpL K mg β M H vs ds → RL K mg β M T H vs (ds.map .sh) []
  | _, _, .nil => .nil
  | _, _, .cons r q => .sh r (RpL.rl q)
theorem Po.rps (h : SR K mg B T β σ H ρ st) (r : RpL K mg β (Ma B T β σ ρ) H vs ds) : Po K mg B T β σ H ρ st vs (ds.map .sh) [] :=
  ⟨h.weak (fun a z => .inl z) fun a z => z.elim id fun m => absurd m (by simp), .nil, fun a m => absurd m (by simp), RpL.rl (r.tr (Tr.sub fun a m => by
    rcases m with m | (m | m) | m
    · exact .inl m
    · exact .inr (.inl m)
    · exact absurd m (by simp)
    · exact .inr (.inr m)) (List.prefix_refl _))⟩
theorem seq_vals {s : SV} (h : RL K mg β M T H [v] [s] as) (e : seqOf s = some ds) : ∃ a vs, v = .ref a ∧ (SqT K H a vs ∨ SqL K H a vs) ∧ RpL K mg β M H vs ds := by
  have ro : ∀ {a : Addr}, Roc K mg β M H a (.lst ds) → ∃ b vs, (V.ref a) = .ref b ∧ (SqT K H b vs ∨ SqL K H b vs) ∧ RpL K mg β M H vs ds := fun {a} r => by
    rcases r with ⟨vs, ds', e, r, p⟩ | ⟨_, _, e, _⟩ | ⟨_, _, e, _⟩
    · cases e; exact ⟨a, vs, rfl, .inr (.inl r), p⟩
    · cases e
    · cases e
  cases h with
  | @sh _ d _ _ _ r _ =>
    cases d with
    | lst xs => cases e; obtain ⟨a, vs, rfl, h1, h2⟩ := r.lst1; exact ⟨a, vs, rfl, .inr h1, h2⟩
    | tup xs => cases e; obtain ⟨a, vs, rfl, h1, h2⟩ := r.tup1; exact ⟨a, vs, rfl, .inl h1, h2⟩
    | _ => cases e
  | @ro _ d _ _ _ n1 n2 r _ =>
    cases d with
    | lst xs => cases e; exact ro r
    | _ => cases e
  | @ow _ d _ _ _ r _ =>
    cases d with
    | lst xs => cases e; exact ro (Owc.roc r)
    | _ => cases e
end
section
variable {X : Cx} {e : Expr} {es : List Expr} {f : P} {g : Ar} {p : Pos}
theorem ax_star (hf : PX X e f) (hg : AX X es g) (hs : starEach (.Starred e p :: es) X.env = (true, eval e X.env) :: starEach es X.env := by rfl) : AX X (.Starred e p :: es) (aStar f g) := (StX.pa_star hf hg hs).imp fun σ H Q w => by
  obtain ⟨B, T, β, ρ, st, svs, st', sr, e, q⟩ := w
  unfold aStar at e
  split at e
  · cases e
  · next s st1 e1 =>
    split at e
    · cases e
    · next ds ed =>
      split at e
      · cases e
      · next xs st2 eg =>
        cases e
        refine ⟨B, T, β, ρ, st, s, st1, sr, e1, fun v H1 β1 as1 le fr P => ?_⟩
        obtain ⟨a, vs, rfl, hq, rp⟩ := seq_vals P.rl ed
        have P1 : Po X.K X.mg B T β1 σ H1 ρ st1 vs (ds.map .sh) [] := Po.rps P.drop (rp.tr (Tr.sub ma_sub) (List.prefix_refl _))
        refine ⟨a, vs, rfl, hq, B, Tp T [], β1, ρ, st1, xs, st', P1.sr, eg, fun ws H2 β2 as2 le2 fr2 p2 => q (vs ++ ws) H2 β2 ([] ++ as2) (le.trans le2 fun a e n => le.out a e n) (fun a m => ?_) (P1.app p2 le2 fr2)⟩
        exact pos_mem (SR.βne sr) le (SR.βne P.sr) (fr2 a m)
end

/-! ### a[lo:hi], a[::-1] -/
def cutD (xs : List D) (lo hi : Option Int) : List D := (xs.drop (HT.sIx xs.length 0 lo)).take (HT.sIx xs.length xs.length hi - HT.sIx xs.length 0 lo)
/-- a slice's part -/
def PPart := Lo → Sto → Option (Option Int × Sto)
def ptNo : PPart := fun _ st => some (none, st)
def ptInt (f : P) : PPart := fun ρ st => match f ρ st with
  | some (.sh (.int i), st') => some (some i, st')
  | _ => none
def sliceD (lo hi : Option Int) : D → Option SV
  | .lst xs => some (.ow (.lst (cutD xs lo hi)))
  | .tup xs => some (.sh (.tup (cutD xs lo hi)))
  | _ => none
def pSlice (f : P) (l h : PPart) : P := fun ρ st => match f ρ st with
  | none => none
  | some (s, st1) => match l ρ st1 with
    | none => none
    | some (lo, st2) => match h ρ st2 with
      | none => none
      | some (hi, st3) => match sliceD lo hi (dS st3 s) with
        | none => none
        | some r => some (r, st3)
section
variable (K : PySem.W.Frag) (mg : Str → Option Value)
def TPt (l : PPart) : TO := fun σ H Q => ∃ B T β ρ st o st', SR K mg B T β σ H ρ st ∧ l ρ st = some (o, st') ∧ ∀ H' β', Le (fun a => a ∈ β) β H β' H' → SR K mg B T β' σ H' ρ st' → Q o H'
end
abbrev OX (X : Cx) (e : Option Expr) (l : PPart) : Prop := PO X e (TPt X.K X.mg l)
section
variable {X : Cx} {e : Expr} {lo hi : Option Expr} {f : P} {l h : PPart} {p2 pos : Pos}
theorem _root_.L2.PO.imp {e : Option Expr} {t t' : TO} (h : PO X e t) (hi : ∀ σ H Q, t' σ H Q → t σ H Q) : PO X e t' := ⟨fun pins s σ H Q I w => h.run pins s σ H Q I (hi _ _ _ w)⟩
theorem ox_no : OX X none ptNo := po_none.imp fun σ H Q w => by
  obtain ⟨B, T, β, ρ, st, o, st', sr, e, q⟩ := w
  cases e
  exact q H β (Le.refl fun a m => m) sr
theorem ox_int (hf : PX X e f) : OX X (some e) (ptInt f) := (po_some hf).imp fun σ H Q w => by
  obtain ⟨B, T, β, ρ, st, o, st', sr, e, q⟩ := w
  unfold ptInt at e
  split at e
  · next i st1 e1 =>
    cases e
    refine ⟨B, T, β, ρ, st, _, _, sr, e1, fun v H1 β1 as le fr P => ?_⟩
    obtain ⟨ws, e2, r1⟩ := P.rl.int1
    cases e2
    exact ⟨i, rfl, q H1 β1 le P.drop⟩
  · cases e
def rSlG (K : PySem.W.Frag) : V → Option Int → Option Int → Hp → VK → Prop := fun x lo hi H Q => rSlL K x lo hi H Q ∨ rSlA K x lo hi H Q
theorem rpl_cut {K : PySem.W.Frag} {mg : Str → Option Value} {β : List Addr} {M : Addr → Prop} {H : Hp} {vs : List V} {ds : List D} (r : RpL K mg β M H vs ds) (lo hi : Option Int) : RpL K mg β M H (cutV vs lo hi) (cutD ds lo hi) := by
  unfold cutV cutD
  rw [r.length]
  exact (r.drop _).take _
theorem px_slice (hf : PX X e f) (hl : OX X lo l) (hh : OX X hi h) : PX X (.Subscript e (.Slice lo hi none p2) pos) (pSlice f l h) := (pe_slice (sl_list.or sl_tupA) hf hl hh).imp fun σ H Q w => by
  obtain ⟨B, T, β, ρ, st, sv, st', sr, e, q⟩ := w
  unfold pSlice at e
  split at e
  · cases e
  next s st1 e1 =>
  split at e
  · cases e
  next lo' st2 e2 =>
  split at e
  · cases e
  next hi' st3 e3 =>
  split at e
  · cases e
  next r e4 =>
  cases e
  refine ⟨B, T, β, ρ, st, s, st1, sr, e1, fun v H1 β1 as1 le1 fr1 P1 => ⟨B, Tp T as1, β1, ρ, st1, lo', st2, P1.sr, e2, fun H2 β2 le2 s2 => ⟨B, Tp T as1, β2, ρ, st2, hi', st', s2, e3, fun H3 β3 le3 s3 => ?_⟩⟩⟩
  -- the value is carried over
  have le13 := le_chain le2 le3
  have nβ1 : ∀ a ∈ as1, a ∉ β1 := fun a m z => P1.out a m (.inr (.inr (.inl z)))
  have al : ∀ a ∈ as1, H1 a ≠ none := fun a m => (RL.own_ne P1.rl a m).1
  have t := le13.trP P1.sr
  have P3 : Po X.K X.mg B T β3 σ H3 ρ st' [v] [s] as1 := ⟨s3, P1.nd, fun a m z => by
      rcases z with z | z | z | z
      · exact P1.out a m (.inl z)
      · exact P1.out a m (.inr (.inl z))
      · exact le13.out a (al a m) (nβ1 a m) z
      · exact P1.out a m (.inr (.inr (.inr z))), RL.tr t le13.pre (fun a e n1 n2 => ⟨fun u z => ex_rd (fun u e => le13.ex a u e n1) z, le13.out a e n1, n2⟩) P1.rl fun a m u e => le13.ex a u e (nβ1 a m)⟩
  have rw3 := P3.rwl
  have q3 : FinG X.K X.mg β3 (Ma B (Tp T as1) β3 σ ρ) H3 sv Q := by
    refine P3.fin ?_ fun v' H' β' as' le fr p => q v' H' β' as' ((le_chain le1 le13).trans le fun a e n z => ?_) (fun a m => ?_) p
    · unfold sliceD at e4
      split at e4 <;> cases e4 <;> rfl
    · rcases z with z | z
      · exact (le_chain le1 le13).out a e n z
      · exact e (fr1 a z)
    · rcases fr a m with z | z
      · exact pos_mem (SR.βne sr) (le_chain le1 le13) (SR.βne s3) z
      · exact fr1 a z
  obtain ⟨v2, e5, r1⟩ := RwL.one rw3
  cases e5
  generalize dS st' s = d at e4 r1
  unfold sliceD at e4
  split at e4
  · next xs =>
    cases e4
    obtain ⟨a, vs, rfl, h1, h2⟩ := r1.lst
    exact .inl ⟨a, vs, rfl, sqL h1, fun p hp => q3 p _ hp trivial (fun xs z => by cases z) (.inl ⟨_, _, rfl, rfl, rpl_cut h2 _ _⟩)⟩
  · next xs =>
    cases e4
    obtain ⟨a, vs, rfl, h1, h2⟩ := r1.tup
    refine .inr ⟨a, vs, rfl, sqT h1, fun hw => ?_, fun _ p hp => q3.tup p _ _ rfl hp (rpl_cut h2 _ _)⟩
    have e6 : cutV vs lo' hi' = vs := by
      unfold cutV
      rw [hw.1, hw.2]
      simp
    have := rpl_cut h2 lo' hi'
    rw [e6] at this
    exact q3.same _ (.tup h1 this)
  · cases e4
end
end PL

/-! PLStmt2: stores of several names, into the store; targets that unpack. -/
namespace PL
open PySem PySem.Spec L2

/-- a value goes into slot i; m: as an object of the store -/
def put (m : Bool) (i : Nat) (s : SV) (ρ : Lo) (st : Sto) : Option (Lo × Sto) := if i < ρ.length then
    if m then (match s with
      | .ow (.lst ds) => some (ρ.set i (some (.sh (.obj st.length))), st ++ [.lst ds])
      | _ => none)
    else if noRo s = true then some (ρ.set i (some s), st) else none
  else none
def sPut (m : Bool) (i : Nat) (p : P) : S := fun ρ st => match p ρ st with
  | none => none
  | some (s, st1) => match put m i s ρ st1 with
    | none => none
    | some (ρ2, st2) => some (.nx, ρ2, st2)
def sPar2 (m1 : Bool) (i : Nat) (m2 : Bool) (j : Nat) (g : Ar) : S := fun ρ st => match g ρ st with
  | some ([x, y], st1) => match put m1 i x ρ st1 with
    | none => none
    | some (ρ2, st2) => match put m2 j y ρ2 st2 with
      | none => none
      | some (ρ3, st3) => some (.nx, ρ3, st3)
  | _ => none
def sPar3 (m1 : Bool) (i : Nat) (m2 : Bool) (j : Nat) (m3 : Bool) (k : Nat) (g : Ar) : S := fun ρ st => match g ρ st with
  | some ([x, y, z], st1) => match put m1 i x ρ st1 with
    | none => none
    | some (ρ2, st2) => match put m2 j y ρ2 st2 with
      | none => none
      | some (ρ3, st3) => match put m3 k z ρ3 st3 with
        | none => none
        | some (ρ4, st4) => some (.nx, ρ4, st4)
  | _ => none
/-- a, b = e by unpacking -/
def sAsgT (g : Tg) (p : P) : S := fun ρ st => match p ρ st with
  | none => none
  | some (s, st1) => match toSh s with
    | none => none
    | some d => match g.f d ρ with
      | none => none
      | some ρ1 => some (.nx, ρ1, st1)
section
variable {K : PySem.W.Frag} {mg : Str → Option Value} {β β' β0 : List Addr} {M M' B T T' : Addr → Prop} {H H' H0 : Hp} {σ σ' σ0 : St} {ρ ρ' ρ0 : Lo} {st st' : Sto} {a : Addr} {v : V} {d : D} {s : SV} {as : List Addr} {vs ws : List V} {svs : List SV} {ds : List D}
/-- the first one apart -/
theorem RL.first (h : RL K mg β M T H (v :: vs) (s :: svs) as) : ∃ a1 as2, as = a1 ++ as2 ∧ RL K mg β M T H [v] [s] a1 ∧ RL K mg β M T H vs svs as2 := by
  cases h with
  | sh r q => exact ⟨[], _, rfl, .sh r .nil, q⟩
  | ro n1 n2 r q => exact ⟨[], _, rfl, .ro n1 n2 r .nil, q⟩
  | ow r q => exact ⟨[_], _, rfl, .ow r .nil, q⟩
theorem tp_app {T : Addr → Prop} {a1 as2 : List Addr} (a : Addr) : Tp (Tp T as2) a1 a ↔ Tp T (a1 ++ as2) a := by
  show (T a ∨ a ∈ as2) ∨ a ∈ a1 ↔ T a ∨ a ∈ a1 ++ as2
  rw [List.mem_append]
  constructor
  · rintro ((h | h) | h)
    · exact .inl h
    · exact .inr (.inr h)
    · exact .inr (.inl h)
  · rintro (h | h | h)
    · exact .inl (.inl h)
    · exact .inr h
    · exact .inl (.inr h)
theorem Po.split1 (p : Po K mg B T β σ H ρ st (v :: vs) (s :: svs) as) : ∃ a1 as2, as = a1 ++ as2 ∧ Po K mg B (Tp T as2) β σ H ρ st [v] [s] a1 ∧ RL K mg β (Ma B (Tp T as) β σ ρ) (Tp T as) H vs svs as2 := by
  obtain ⟨a1, as2, rfl, r1, r2⟩ := RL.first p.rl
  have nd := List.nodup_append.mp p.nd
  have eM : ∀ a, Ma B (Tp (Tp T as2) a1) β σ ρ a → Ma B (Tp T (a1 ++ as2)) β σ ρ a := fun a m => by
    rcases m with m | m | m
    · exact .inl m
    · exact .inr (.inl ((tp_app a).mp m))
    · exact .inr (.inr m)
  refine ⟨a1, as2, rfl, ⟨p.sr.weak (fun a z => .inl z) fun a z => (tp_app a).mp z, nd.1, fun a m z => ?_, RL.tr (Tr.sub eM) (List.prefix_refl _) (fun a _ n1 n2 => ⟨fun u z => z, n1, fun z => n2 ((tp_app a).mp z)⟩) r1 fun a _ u e => e⟩, r2⟩
  have ha := List.mem_append_left as2 m
  rcases z with z | (z | z) | z
  · exact p.out a ha (.inl z)
  · exact p.out a ha (.inr (.inl z))
  · exact nd.2.2 a m a z rfl
  · exact p.out a ha (.inr (.inr z))
/-- the first one is stored as it is -/
theorem Po.set1 {i : Nat} (p : Po K mg B T β σ H ρ st (v :: vs) (s :: svs) as) (hr : noRo s = true) (hi : i < ρ.length) : ∃ a1 as2, as = a1 ++ as2 ∧ Po K mg B T β (σ.set i (some v)) H (ρ.set i (some s)) st vs svs as2 ∧ ∀ a, own (σ.set i (some v)) (ρ.set i (some s)) a → own σ ρ a ∨ a ∈ a1 := by
  obtain ⟨a1, as2, rfl, q, r2⟩ := p.split1
  have ow : ∀ a, own (σ.set i (some v)) (ρ.set i (some s)) a → own σ ρ a ∨ a ∈ a1 := fun a m => by
    rcases own_set p.sr.len hi m with m | ⟨d, e1, e2⟩
    · exact .inl m
    · subst e1; subst e2
      have := q.rl
      cases this with
      | ow _ _ => exact .inr List.mem_cons_self
  have nd := List.nodup_append.mp p.nd
  have sub : ∀ a, Ma B (Tp T as2) β (σ.set i (some v)) (ρ.set i (some s)) a → Ma B (Tp T (a1 ++ as2)) β σ ρ a := fun a m => by
    rcases m with m | (m | m) | m | m
    · exact .inl m
    · exact .inr (.inl (.inl m))
    · exact .inr (.inl (.inr (List.mem_append_right _ m)))
    · exact .inr (.inr (.inl m))
    · rcases ow a m with m | m
      · exact .inr (.inr (.inr m))
      · exact .inr (.inl (.inr (List.mem_append_left _ m)))
  refine ⟨a1, as2, rfl, ⟨q.set hr hi, nd.2.1, fun a m z => ?_, RL.tr (Tr.sub sub) (List.prefix_refl _) (fun a _ n1 n2 => ⟨fun u z => z, n1, fun z => n2 ?_⟩) r2 fun a _ u e => e⟩, ow⟩
  · have ha := List.mem_append_right a1 m
    rcases z with z | z | z | z
    · exact p.out a ha (.inl z)
    · exact p.out a ha (.inr (.inl z))
    · exact p.out a ha (.inr (.inr (.inl z)))
    · rcases ow a z with z | z
      · exact p.out a ha (.inr (.inr (.inr z)))
      · exact nd.2.2 a z a m rfl
  · rcases z with z | z
    · exact .inl z
    · exact .inr (List.mem_append_right _ z)
/-- the first one, an own list, becomes an object of the store -/
theorem Po.sto1 {i : Nat} (p : Po K mg B T β σ H ρ st (v :: vs) (.ow (.lst ds) :: svs) as) (hi : i < ρ.length) : ∃ a as2, as = a :: as2 ∧ v = .ref a ∧ Po K mg B T (β ++ [a]) (σ.set i (some v)) H (ρ.set i (some (.sh (.obj st.length)))) (st ++ [.lst ds]) vs svs as2 ∧
    ∀ b, own (σ.set i (some v)) (ρ.set i (some (.sh (.obj st.length)))) b → own σ ρ b := by
  have rl := p.rl
  cases rl with
  | @ow a d _ _ as2 r r2 =>
  have nd := List.nodup_cons.mp p.nd
  have hs := p.sr
  have hsl : i < σ.length := by rw [hs.len]; exact hi
  have ow : ∀ b, own (σ.set i (some (.ref a))) (ρ.set i (some (.sh (.obj st.length)))) b → own σ ρ b := fun b m => by
    rcases own_set hs.len hi m with m | ⟨d, e1, e2⟩
    · exact m
    · cases e1
  have ha0 := p.out a List.mem_cons_self
  have naβ : a ∉ β := fun z => ha0 (.inr (.inr (.inl z)))
  have sub : ∀ b, Ma B (Tp T as2) (β ++ [a]) (σ.set i (some (.ref a))) (ρ.set i (some (.sh (.obj st.length)))) b → Ma B (Tp T (a :: as2)) β σ ρ b := fun b m => by
    rcases m with m | (m | m) | m | m
    · exact .inl m
    · exact .inr (.inl (.inl m))
    · exact .inr (.inl (.inr (List.mem_cons_of_mem _ m)))
    · rcases List.mem_append.mp m with m | m
      · exact .inr (.inr (.inl m))
      · have e : b = a := by simpa using m
        subst e; exact .inr (.inl (.inr List.mem_cons_self))
    · exact .inr (.inr (.inr (ow b m)))
  have pre : β <+: β ++ [a] := List.prefix_append _ _
  have t := Tr.sub (H := H) sub
  have hro : ∀ b, H b ≠ none → b ∉ β → ¬ Tp T (a :: as2) b → b ∉ β ++ [a] ∧ ¬ Tp T as2 b := fun b _ n1 n2 => ⟨fun z => by
      rcases List.mem_append.mp z with z | z
      · exact n1 z
      · have e : b = a := by simpa using z
        subst e; exact n2 (.inr List.mem_cons_self), fun z => n2 (z.imp id (List.mem_cons_of_mem _))⟩
  have SRn : SR K mg B (Tp T as2) (β ++ [a]) (σ.set i (some (.ref a))) H (ρ.set i (some (.sh (.obj st.length)))) (st ++ [.lst ds]) := by
    refine ⟨by simp [hs.len], fun j d' e => ?_, fun j d' e => ?_, fun j d' e => ?_, fun j k d1 d2 b e1 e2 e3 e4 => ?_, fun b m z => ?_, fun b m z => hs.ownT b (ow b m) (z.imp id (List.mem_cons_of_mem _)), fun b m => hs.ownB b (ow b m), fun b m z => ?_, fun b m z => ?_, by simp [hs.stl], fun n ob b e1 e2 => ?_, ?_, fun b m => hs.dom b (sub b m)⟩
    · rw [get_set hi] at e
      rw [get_set hsl]
      by_cases ej : i = j
      · rw [if_pos ej] at e ⊢
        cases e
        refine ⟨_, rfl, .obj ?_⟩
        rw [← hs.stl, List.getElem?_append_right (Nat.le_refl _)]
        simp
      · rw [if_neg ej] at e ⊢
        obtain ⟨w, e1, r⟩ := hs.sh j d' e
        exact ⟨w, e1, r.tr t pre⟩
    · rw [get_set hi] at e
      rw [get_set hsl]
      by_cases ej : i = j
      · rw [if_pos ej] at e; cases e
      · rw [if_neg ej] at e ⊢
        obtain ⟨w, e1, r⟩ := hs.ow j d' e
        exact ⟨w, e1, Ct.tr t pre r fun u _ q => q⟩
    · rw [get_set hi] at e
      rw [get_set hsl]
      by_cases ej : i = j
      · rw [if_pos ej] at e; cases e
      · rw [if_neg ej] at e ⊢
        obtain ⟨w, e1, n1, n2, n3, r⟩ := hs.ro j d' e
        obtain ⟨k1, k2⟩ := hro w (Ct.ne r) n1 n3
        exact ⟨w, e1, k1, fun m => n2 (ow w m), k2, Ct.tr t pre r fun u _ q => q⟩
    · rw [get_set hi] at e1 e3
      rw [get_set hsl] at e2 e4
      by_cases ej : i = j
      · rw [if_pos ej] at e1; cases e1
      · by_cases ek : i = k
        · rw [if_pos ek] at e3; cases e3
        · rw [if_neg ej] at e1 e2
          rw [if_neg ek] at e3 e4
          exact hs.sep j k d1 d2 b e1 e2 e3 e4
    · rcases List.mem_append.mp z with z | z
      · exact hs.ownβ b (ow b m) z
      · have e : b = a := by simpa using z
        subst e; exact ha0 (.inr (.inr (.inr (ow b m))))
    · rcases List.mem_append.mp m with m | m
      · exact hs.βT b m (z.imp id (List.mem_cons_of_mem _))
      · have e : b = a := by simpa using m
        subst e
        rcases z with z | z
        · exact ha0 (.inr (.inl z))
        · exact nd.1 z
    · rcases List.mem_append.mp m with m | m
      · exact hs.βB b m z
      · have e : b = a := by simpa using m
        subst e; exact ha0 (.inl z)
    · by_cases hn : n < st.length
      · rw [List.getElem?_append_left hn] at e1
        rw [List.getElem?_append_left (by rw [hs.stl]; exact hn)] at e2
        exact (hs.sto n ob b e1 e2).tr t pre fun u q => q
      · rw [List.getElem?_append_right (by omega)] at e1
        rw [List.getElem?_append_right (by rw [hs.stl]; omega), hs.stl] at e2
        cases hk : n - st.length with
        | zero =>
          rw [hk] at e1 e2
          cases e1; cases e2
          rcases r with ⟨xs, ds', e, h1, h2⟩ | ⟨_, _, e, _⟩ | ⟨_, _, e, _⟩
          · cases e; exact ⟨xs, h1, h2.tr t pre⟩
          · cases e
          · cases e
        | succ k => rw [hk] at e1; simp at e1
    · exact List.nodup_append.mpr ⟨hs.nd, by simp, fun x hx y hy e => by
        have e' : y = a := by simpa using hy
        subst e'; subst e; exact naβ hx⟩
  refine ⟨a, as2, rfl, rfl, ⟨SRn, nd.2, fun b m z => ?_, RL.tr t pre (fun b e n1 n2 => ⟨fun u z => z, hro b e n1 n2⟩) r2 fun b _ u e => e⟩, ow⟩
  have hb := List.mem_cons_of_mem a m
  rcases z with z | z | z | z
  · exact p.out b hb (.inl z)
  · exact p.out b hb (.inr (.inl z))
  · rcases List.mem_append.mp z with z | z
    · exact p.out b hb (.inr (.inr (.inl z)))
    · have e : b = a := by simpa using z
      subst e; exact nd.1 m
  · exact p.out b hb (.inr (.inr (.inr (ow b z))))
theorem Po.put1 {m : Bool} {i : Nat} (p : Po K mg B T β σ H ρ st (v :: vs) (s :: svs) as) (l : LeS β0 σ0 ρ0 H0 β σ ρ H as) (e : put m i s ρ st = some (ρ', st')) : ∃ β' as', Po K mg B T β' (σ.set i (some v)) H ρ' st' vs svs as' ∧ LeS β0 σ0 ρ0 H0 β' (σ.set i (some v)) ρ' H as' := by
  unfold put at e
  split at e
  case isFalse => cases e
  next hi =>
  split at e
  · split at e
    · next ds =>
      cases e
      obtain ⟨a, as2, rfl, rfl, q, ow⟩ := p.sto1 hi
      refine ⟨_, as2, q, l.ex, l.pre.trans (List.prefix_append _ _), fun b h n => ?_⟩
      obtain ⟨h1, h2⟩ := l.out b h n
      refine ⟨fun z => ?_, fun z => h2 (List.mem_cons_of_mem _ z)⟩
      rcases z with z | z
      · rcases List.mem_append.mp z with z | z
        · exact h1 (.inl z)
        · have e : b = a := by simpa using z
          subst e; exact h2 List.mem_cons_self
      · exact h1 (.inr (ow b z))
    · cases e
  · split at e
    · next hr =>
      cases e
      obtain ⟨a1, as2, rfl, q, ow⟩ := p.set1 hr hi
      refine ⟨_, as2, q, l.ex, l.pre, fun b h n => ?_⟩
      obtain ⟨h1, h2⟩ := l.out b h n
      refine ⟨fun z => ?_, fun z => h2 (List.mem_append_right _ z)⟩
      rcases z with z | z
      · exact h1 (.inl z)
      · rcases ow b z with z | z
        · exact h1 (.inr z)
        · exact h2 (List.mem_append_left _ z)
    · cases e
theorem Le.leSA (h : Le (fun a => a ∈ β) β H β' H') (ha : ∀ a ∈ as, H a = none) : LeS β σ ρ H β' σ ρ H' as := h.leS ha
theorem LeS.dropA (l : LeS β0 σ0 ρ0 H0 β σ ρ H as) : LeS β0 σ0 ρ0 H0 β σ ρ H [] := ⟨l.ex, l.pre, fun a h n => ⟨(l.out a h n).1, by simp⟩⟩
end
section
variable {X : Cx} {e a b c : Expr} {p : P} {ga : Ar} {g : Tg} {tg : Expr} {pos px py pz pt pt2 : Pos} {kt k2 : Nat} {x y z : Str}
/-- name = e, perhaps as an object of the store -/
theorem sx_put {pos' : Pos} (m : Bool) (i : Nat) (hN : X.N.Nodup) (he : PX X e p) (hi : X.N[i]? = some x := by rfl) (hx : Loc X.env.scope x := by first | exact Or.inl rfl | exact Or.inr rfl) (hs : swapsWith e (some (.Name x pos')) pos.line X.env = pure false := by rfl)
    (hf : X.fn x = true ∨ X.env.scope.names.lookup x = some .local := by first | exact .inl rfl | exact .inr rfl | assumption) : SX X (.Assign [.Name x pos'] e pos) (sPut m i p) := (ps_set hN hi hx he hs hf).imp fun D σ H w => by
  obtain ⟨B, T, β, ρ, st, fl, ρ', st', sr, e, q, r⟩ := w
  unfold sPut at e
  split at e
  · cases e
  next s st1 e1 =>
  split at e
  · cases e
  next ρ2 st2 e2 =>
  cases e
  refine ⟨B, T, β, ρ, st, s, st1, sr, e1, fun v H1 β1 as le fr P => ?_⟩
  obtain ⟨β2, as2, P2, l2⟩ := P.put1 (le.leSA fr) e2
  exact (q _ H1 β2 l2.dropA P2.drop).1 rfl
/-- a, b = x, y -/
theorem sx_par2 (m1 m2 : Bool) (i j : Nat) (hc : X.calm = true) (hN : X.N.Nodup) (ha : AX X [a, b] ga) (hij : i ≠ j := by decide) (hi : X.N[i]? = some x := by rfl) (hj : X.N[j]? = some y := by rfl) (hx : X.env.scope.names.lookup x = some .local := by rfl) (hy : X.env.scope.names.lookup y = some .local := by rfl)
    (hw : swappedStores [.Tuple [.Name x px, .Name y py] kt pt] (.Tuple [a, b] k2 pt2) X.env = pure (some [x, y]) := by rfl) (hs : swapsWithSole [.Tuple [.Name x px, .Name y py] kt pt] (.Tuple [a, b] k2 pt2) pos.line X.env = pure false := by rfl) :
    SX X (.Assign [.Tuple [.Name x px, .Name y py] kt pt] (.Tuple [a, b] k2 pt2) pos) (sPar2 m1 i m2 j ga) := (ps_par hc hN hi hj hij hx hy ha hw hs).imp fun D σ H w => by
  obtain ⟨B, T, β, ρ, st, fl, ρ', st', sr, e, q, r⟩ := w
  unfold sPar2 at e
  split at e
  case h_2 => cases e
  next s1 s2 st1 e1 =>
  split at e
  · cases e
  next ρ2 st2 e2 =>
  split at e
  · cases e
  next ρ3 st3 e3 =>
  cases e
  refine ⟨B, T, β, ρ, st, _, st1, sr, e1, fun vs H1 β1 as le fr P => ?_⟩
  have hl := RL.length P.rl
  match vs, hl with
  | [v, w], _ =>
    obtain ⟨β2, as2, P2, l2⟩ := P.put1 (le.leSA fr) e2
    obtain ⟨β3, as3, P3, l3⟩ := P2.put1 l2 e3
    exact ⟨v, w, rfl, (q _ H1 β3 l3.dropA P3.drop).1 rfl⟩
theorem sx_par3 (m1 m2 m3 : Bool) (i j l : Nat) (hc : X.calm = true) (hN : X.N.Nodup) (ha : AX X [a, b, c] ga) (hij : i ≠ j := by decide) (hil : i ≠ l := by decide) (hjl : j ≠ l := by decide) (hi : X.N[i]? = some x := by rfl) (hj : X.N[j]? = some y := by rfl) (hl : X.N[l]? = some z := by rfl)
    (hx : X.env.scope.names.lookup x = some .local := by rfl) (hy : X.env.scope.names.lookup y = some .local := by rfl) (hz : X.env.scope.names.lookup z = some .local := by rfl)
    (hw : swappedStores [.Tuple [.Name x px, .Name y py, .Name z pz] kt pt] (.Tuple [a, b, c] k2 pt2) X.env = pure (some [x, y, z]) := by rfl) (hs : swapsWithSole [.Tuple [.Name x px, .Name y py, .Name z pz] kt pt] (.Tuple [a, b, c] k2 pt2) pos.line X.env = pure false := by rfl) :
    SX X (.Assign [.Tuple [.Name x px, .Name y py, .Name z pz] kt pt] (.Tuple [a, b, c] k2 pt2) pos) (sPar3 m1 i m2 j m3 l ga) := (ps_par3 hc hN hi hj hl hij hil hjl hx hy hz ha hw hs).imp fun D σ H w => by
  obtain ⟨B, T, β, ρ, st, fl, ρ', st', sr, e, q, r⟩ := w
  unfold sPar3 at e
  split at e
  case h_2 => cases e
  next s1 s2 s3 st1 e1 =>
  split at e
  · cases e
  next ρ2 st2 e2 =>
  split at e
  · cases e
  next ρ3 st3 e3 =>
  split at e
  · cases e
  next ρ4 st4 e4 =>
  cases e
  refine ⟨B, T, β, ρ, st, _, st1, sr, e1, fun vs H1 β1 as le fr P => ?_⟩
  have hl := RL.length P.rl
  match vs, hl with
  | [v, w, u], _ =>
    obtain ⟨β2, as2, P2, l2⟩ := P.put1 (le.leSA fr) e2
    obtain ⟨β3, as3, P3, l3⟩ := P2.put1 l2 e3
    obtain ⟨β4, as4, P4, l4⟩ := P3.put1 l3 e4
    exact ⟨v, w, u, rfl, (q _ H1 β4 l4.dropA P4.drop).1 rfl⟩
/-- a target that unpacks -/
theorem sx_asgT (he : PX X e p) (hg : GX X tg g) (hs : swapsWithSole [tg] e pos.line X.env = pure false := by rfl) (hw : swappedStores [tg] e X.env = pure none := by rfl)
    (h1 : (assignEach [tg] X.env).map (·.2) = [assign tg X.env] := by rfl) : SX X (.Assign [tg] e pos) (sAsgT g p) := (ps_asg he hg hs hw h1).imp fun D σ H w => by
  obtain ⟨B, T, β, ρ, st, fl, ρ', st', sr, e, q, r⟩ := w
  unfold sAsgT at e
  split at e
  · cases e
  next s st1 e1 =>
  split at e
  · cases e
  next d ed =>
  split at e
  · cases e
  next ρ1 eg =>
  cases e
  refine ⟨B, T, β, ρ, st, s, _, sr, e1, fun v H1 β1 as le fr P => ?_⟩
  have rs := P.shs (ds := [d]) (by simp [toShs, ed])
  cases rs with
  | cons r1 _ =>
    have l1 : LeS β σ ρ H β1 σ ρ H1 [] := le.leS fun a m => absurd m (by simp)
    exact ⟨B, T, β1, ρ, _, d, _, P.drop, r1, eg, fun σ' s' l' _ => (q σ' H1 β1 (l1.trans l') s').1 rfl⟩
end
end PL

/-! PLMut: a list or dict of a slot, or of the store, is written. -/
namespace PL
open PySem PySem.Spec L2

/-- the list or dict that slot i names is changed -/
def wrAt (i : Nat) (f : D → Option D) (ρ : Lo) (st : Sto) : Option (Lo × Sto) := match ρ[i]? with
  | some (some (.ow d)) => (match f d with
    | some d' => some (ρ.set i (some (.ow d')), st)
    | none => none)
  | some (some (.sh (.obj n))) => (match st[n]? with
    | some (.lst ds) => (match f (.lst ds) with
      | some (.lst ds') => some (ρ, st.set n (.lst ds'))
      | _ => none)
    | none => none)
  | _ => none
section
variable {K : PySem.W.Frag} {mg : Str → Option Value} {β β' β0 : List Addr} {M M' B T T' : Addr → Prop} {H H' H0 : Hp} {σ σ' σ0 : St} {ρ ρ' ρ0 : Lo} {st st' : Sto} {a : Addr} {v : V} {d d' : D} {s : SV} {as : List Addr} {vs ws : List V} {svs : List SV} {ds : List D} {o' : HO} {i : Nat}
theorem up_nt {o' : HO} (ho : Plain o') (hn : ∀ xs, o' ≠ .tup xs) : upd H a o' a ≠ none ∧ ∀ xs, ¬ Rd (upd H a o') a (.tup xs) := ⟨by rw [upd_same]; simp, fun xs z => by
    rcases z with z | ⟨o2, z⟩
    · rw [upd_same] at z; injection z with z; exact hn _ z
    · rw [upd_same] at z; injection z with z; subst z; exact ho.elim⟩
theorem up_trM (d : ∀ xs, ¬ Rd H a (.tup xs)) (m : M a) : Tr M M H (upd H a o') := ⟨fun b u e _ n => by
    have ne : b ≠ a := fun z => by subst z; exact n m
    rcases e with e | ⟨o, e⟩
    · exact .inl (by rw [upd_ne ne]; exact e)
    · exact .inr ⟨o, by rw [upd_ne ne]; exact e⟩, fun b xs e => (by rw [upd_ne (fun z => by subst z; exact d xs (.inl e))]; exact e), fun b _ n => n⟩
theorem up_dom (h : ∀ b, M b → H b ≠ none ∧ ∀ xs, ¬ Rd H b (.tup xs)) (ho : Plain o') (hn : ∀ xs, o' ≠ .tup xs) : ∀ b, M b → upd H a o' b ≠ none ∧ ∀ xs, ¬ Rd (upd H a o') b (.tup xs) := fun b m => by
  by_cases e : b = a
  · subst e; exact up_nt ho hn
  · unfold Rd; rw [upd_ne e]; exact h b m
/-- an own one is written -/
theorem SR.wrO (h : SR K mg B T β σ H ρ st) (e : ρ[i]? = some (some (.ow d))) (ea : σ[i]? = some (some (.ref a))) (ho : Plain o') (hn : ∀ xs, o' ≠ .tup xs) (r : Ct K mg β (Ma B T β σ ρ) H (fun u => u = o') d') :
    SR K mg B T β σ (upd H a o') (ρ.set i (some (.ow d'))) st ∧ ∀ b, own σ (ρ.set i (some (.ow d'))) b → own σ ρ b := by
  have hi : i < ρ.length := by
    rcases Nat.lt_or_ge i ρ.length with h | h
    · exact h
    · rw [List.getElem?_eq_none h] at e; cases e
  have oa : own σ ρ a := ⟨i, d, e, ea⟩
  have so : ∀ b, own σ (ρ.set i (some (.ow d'))) b → own σ ρ b := fun b m => by
    obtain ⟨j, d2, f1, f2⟩ := m
    rw [get_set hi] at f1
    by_cases ej : i = j
    · subst ej; exact ⟨i, d, e, f2⟩
    · rw [if_neg ej] at f1; exact ⟨j, d2, f1, f2⟩
  have sub : ∀ b, Ma B T β σ (ρ.set i (some (.ow d'))) b → Ma B T β σ ρ b := fun b m => by
    rcases m with m | m | m | m
    · exact .inl m
    · exact .inr (.inl m)
    · exact .inr (.inr (.inl m))
    · exact .inr (.inr (.inr (so b m)))
  have ma : Ma B T β σ ρ a := .inr (.inr (.inr oa))
  have t0 : Tr (Ma B T β σ ρ) (Ma B T β σ ρ) H (upd H a o') := up_trM (h.dom a ma).2 ma
  have t : Tr (Ma B T β σ ρ) (Ma B T β σ (ρ.set i (some (.ow d')))) H (upd H a o') := ⟨t0.rd, t0.tup, fun b e n z => n (sub b z)⟩
  refine ⟨⟨by simp [h.len], fun j d2 f => ?_, fun j d2 f => ?_, fun j d2 f => ?_, fun j k d1 d2 b f1 f2 f3 f4 => ?_, fun b m => h.ownβ b (so b m), fun b m => h.ownT b (so b m), fun b m => h.ownB b (so b m), h.βT, h.βB, h.stl, fun n ob b e1 e2 => (h.sto n ob b e1 e2).tr t (List.prefix_refl _) fun u q => ?_, h.nd, fun b m => up_dom h.dom ho hn b (sub b m)⟩, so⟩
  · rw [get_set hi] at f
    by_cases ej : i = j
    · rw [if_pos ej] at f; cases f
    · rw [if_neg ej] at f
      obtain ⟨w, g1, g2⟩ := h.sh j d2 f
      exact ⟨w, g1, g2.tr t (List.prefix_refl _)⟩
  · rw [get_set hi] at f
    by_cases ej : i = j
    · rw [if_pos ej] at f; cases f
      subst ej
      exact ⟨a, ea, Ct.tr t (List.prefix_refl _) r fun u _ q => by subst q; exact upd_same⟩
    · rw [if_neg ej] at f
      obtain ⟨w, g1, g2⟩ := h.ow j d2 f
      refine ⟨w, g1, Ct.tr t (List.prefix_refl _) g2 fun u _ q => ?_⟩
      rw [upd_ne (fun z => by subst z; exact ej (h.sep i j d d2 w e ea f g1))]
      exact q
  · rw [get_set hi] at f
    by_cases ej : i = j
    · rw [if_pos ej] at f; cases f
    · rw [if_neg ej] at f
      obtain ⟨w, g1, n1, n2, n3, g2⟩ := h.ro j d2 f
      refine ⟨w, g1, n1, fun m => n2 (so w m), n3, Ct.tr t (List.prefix_refl _) g2 fun u _ q => rd_up (fun z => by subst z; exact n2 oa) q⟩
  · rw [get_set hi] at f1 f3
    by_cases ej : i = j <;> by_cases ek : i = k
    · exact ej.symm.trans ek
    · subst ej; rw [if_neg ek] at f3; exact h.sep i k d d2 b e f2 f3 f4
    · subst ek; rw [if_neg ej] at f1; exact h.sep j i d1 d b f1 f2 e f4
    · rw [if_neg ej] at f1
      rw [if_neg ek] at f3
      exact h.sep j k d1 d2 b f1 f2 f3 f4
  · rw [upd_ne (fun z => by subst z; exact h.ownβ _ oa (List.mem_of_getElem? e2))]; exact q
/-- one of the store is written -/
theorem SR.wrS {n : Nat} (h : SR K mg B T β σ H ρ st) (ea : β[n]? = some a) (r : RpL K mg β (Ma B T β σ ρ) H vs ds) : SR K mg B T β σ (upd H a (.lst vs)) ρ (st.set n (.lst ds)) := by
  have mβ : a ∈ β := List.mem_of_getElem? ea
  have hn : n < st.length := by
    rw [← h.stl]
    rcases Nat.lt_or_ge n β.length with h | h
    · exact h
    · rw [List.getElem?_eq_none h] at ea; cases ea
  have ma : Ma B T β σ ρ a := .inr (.inr (.inl mβ))
  have t : Tr (Ma B T β σ ρ) (Ma B T β σ ρ) H (upd H a (.lst vs)) := up_trM (h.dom a ma).2 ma
  have no : ∀ b, own σ ρ b → b ≠ a := fun b m z => by subst z; exact h.ownβ _ m mβ
  refine ⟨h.len, fun j d2 f => ?_, fun j d2 f => ?_, fun j d2 f => ?_, h.sep, h.ownβ, h.ownT, h.ownB, h.βT, h.βB, by simp [h.stl], fun k ob b e1 e2 => ?_, h.nd, up_dom h.dom trivial fun xs z => by cases z⟩
  · obtain ⟨w, g1, g2⟩ := h.sh j d2 f
    exact ⟨w, g1, g2.tr t (List.prefix_refl _)⟩
  · obtain ⟨w, g1, g2⟩ := h.ow j d2 f
    exact ⟨w, g1, Ct.tr t (List.prefix_refl _) g2 fun u _ q => by rw [upd_ne (no w ⟨j, d2, f, g1⟩)]; exact q⟩
  · obtain ⟨w, g1, n1, n2, n3, g2⟩ := h.ro j d2 f
    exact ⟨w, g1, n1, n2, n3, Ct.tr t (List.prefix_refl _) g2 fun u _ q => rd_up (fun z => by subst z; exact n1 mβ) q⟩
  · rw [get_set hn] at e1
    by_cases ek : n = k
    · rw [if_pos ek] at e1; cases e1
      subst ek
      have ab : a = b := by rw [ea] at e2; exact Option.some.inj e2
      subst ab
      exact ⟨vs, upd_same, r.tr t (List.prefix_refl _)⟩
    · rw [if_neg ek] at e1
      refine (h.sto k ob b e1 e2).tr t (List.prefix_refl _) fun u q => ?_
      rw [upd_ne (fun z => ek ?_)]
      · exact q
      · subst z
        have hnβ : n < β.length := by rw [h.stl]; exact hn
        exact (List.getElem_inj h.nd (h₀ := hnβ) (h₁ := by
          rcases Nat.lt_or_ge k β.length with h | h
          · exact h
          · rw [List.getElem?_eq_none h] at e2; cases e2)).mp (by
            have e3 := (List.getElem?_eq_some_iff.mp ea).2
            have e4 := (List.getElem?_eq_some_iff.mp e2).2
            rw [e3, e4])
/-- what is written, and the state behind -/
theorem SR.wrAt {f : D → Option D} (h : SR K mg B T β σ H ρ st) (e : PL.wrAt i f ρ st = some (ρ', st')) : ∃ a o d d', σ[i]? = some (some (.ref a)) ∧ H a = some o ∧ Ct K mg β (Ma B T β σ ρ) H (fun u => u = o) d ∧ f d = some d' ∧ Ml β σ ρ a ∧
    ∀ o', Plain o' → (∀ xs, o' ≠ .tup xs) → Ct K mg β (Ma B T β σ ρ) H (fun u => u = o') d' → SR K mg B T β σ (upd H a o') ρ' st' ∧ ∀ b, own σ ρ' b → own σ ρ b := by
  unfold PL.wrAt at e
  split at e
  · next d e1 =>
    split at e
    · next d' e2 =>
      cases e
      obtain ⟨a, ea, r⟩ := h.ow i d e1
      have r' : ∃ o, H a = some o ∧ Ct K mg β (Ma B T β σ ρ) H (fun u => u = o) d := by
        rcases r with ⟨vs, ds, e, q, p⟩ | ⟨kvs, es, e, q, p⟩ | ⟨kvs, es, e, q, p⟩
        · exact ⟨_, q, .inl ⟨vs, ds, e, rfl, p⟩⟩
        · exact ⟨_, q, .inr (.inl ⟨kvs, es, e, rfl, p⟩)⟩
        · exact ⟨_, q, .inr (.inr ⟨kvs, es, e, rfl, p⟩)⟩
      obtain ⟨o, h1, h2⟩ := r'
      exact ⟨a, o, d, d', ea, h1, h2, e2, .inr ⟨i, d, e1, ea⟩, fun o' ho hn r => h.wrO e1 ea ho hn r⟩
    · cases e
  · next n e1 =>
    split at e
    · next ds e2 =>
      split at e
      · next ds' e3 =>
        cases e
        obtain ⟨v, ev, r⟩ := h.sh i _ e1
        cases r with
        | @obj a _ eb =>
          obtain ⟨vs, e4, r4⟩ := h.sto n _ a e2 eb
          refine ⟨a, _, _, _, ev, e4, .inl ⟨vs, ds, rfl, rfl, r4⟩, e3, .inl (List.mem_of_getElem? eb), fun o' ho hn r => ⟨?_, fun b m => m⟩⟩
          rcases r with ⟨vs', ds2, e5, e6, r5⟩ | ⟨_, _, e5, _⟩ | ⟨_, _, e5, _⟩
          · cases e5; subst e6
            exact h.wrS eb r5
          · cases e5
          · cases e5
      · cases e
    · cases e
  · cases e
/-- a statement's step that writes one -/
theorem LeS.wr (l : LeS β0 σ0 ρ0 H0 β σ ρ H []) (m : Ml β σ ρ a) (so : ∀ b, own σ ρ' b → own σ ρ b) : LeS β0 σ0 ρ0 H0 β σ ρ' (upd H a o') [] := by
  refine l.trans ⟨fun b u e n => ?_, List.prefix_refl _, fun b e n => ⟨fun z => n (z.imp id (so b)), by simp⟩⟩
  rw [upd_ne (fun z => by subst z; exact n m)]; exact e
end

/-! ### x.append(e), x.extend(e) -/
def fApp (y : D) : D → Option D
  | .lst ds => if ds.length < 16777216 then some (.lst (ds ++ [y])) else none
  | _ => none
def sApp (i : Nat) (p : P) : S := fun ρ st => match p ρ st with
  | none => none
  | some (s, st1) => match toSh s with
    | none => none
    | some y => match wrAt i (fApp y) ρ st1 with
      | none => none
      | some (ρ2, st2) => some (.nx, ρ2, st2)
/-- what stands in a list or tuple -/
def seqD : D → Option (List D)
  | .lst ds => some ds | .tup ds => some ds | _ => none
def fExt (ys : List D) : D → Option D
  | .lst ds => if ds.length + ys.length ≤ 16777216 then some (.lst (ds ++ ys)) else none
  | _ => none
def sExt (i : Nat) (p : P) : S := fun ρ st => match p ρ st with
  | none => none
  | some (s, st1) => match seqD (dS st1 s) with
    | none => none
    | some ys => match wrAt i (fExt ys) ρ st1 with
      | none => none
      | some (ρ2, st2) => some (.nx, ρ2, st2)
def rExtG (K : PySem.W.Frag) : V → List V → Hp → VK → Prop := fun x vs H Q => ∃ l b xs zs, x = .ref l ∧ vs = [.ref b] ∧ H l = some (.lst xs) ∧ (RdL K H b zs ∨ H b = some (.tup zs)) ∧ xs.length + zs.length ≤ sizeLine ∧ Q .non (upd H l (.lst (xs ++ zs)))
section
open PySem.AutoSeq1
theorem ext_tup (l : Addr) (items : Array Value) (n : Nat) (b : Addr) (items2 : Array Value) (n2 : Nat) (dct : Option Addr) (slt : Array (Option Value)) (hs0 : ¬(!items.isEmpty && Builtin.List.listTooLong (items.size + items2.size)) = true) (hs1 : items.size ≤ sizeLine) (hs2 : items.size + items2.size ≤ sizeLine + 1) :
    Meets (Builtin.«list.extend» ⟨[.ref l, .ref b], []⟩) (fun _ R s => s.heap.get? l = some { cls := .type "list", dict := none, data := .seq items n, slots := #[] } ∧ s.heap.get? b = some { cls := .type "tuple", dict := dct, data := .seq items2 n2, slots := slt } ∧ R (.ok (.ret Value.none)) { s with heap := s.heap.update l (Obj.mapSeq fun x => x ++ items2), toks := s.toks }) :=
  .of_wp fun prog w A R s h => by
    obtain ⟨hp, g, d, tk, os⟩ := s
    obtain ⟨hl, hb, h⟩ := h
    have f1 := idx_int
    have f2 := sub_tuple_tuple
    have f3 := sub_list_list
    have f4 := sub_tuple_list
    have f5 := sub_list_tuple
    have hz' : (items ++ items2).size ≤ sizeLine + 1 := by rw [Array.size_append]; exact hs2
    wp_walk using (wpAny_updateSeq hl rfl (hz := hs1) (_hz' := hz')), wpAny_loadPart' hl, wpAny_loadPart' hb
    exact ⟨_, rfl, h⟩
end
section
variable {X : Cx}
theorem slot_tyV {K : PySem.W.Frag} {H : Hp} {a : Addr} {vs : List V} (e : H a = some (.lst vs)) : tyV K "list" (.ref a) H := .inl ⟨rfl, vs, .inl (.inl e)⟩
theorem mt_extG : MtM X "list.extend" (rExtG X.K) := by
  intro pins s σ H x vs v us Q I rx rv h
  obtain ⟨l, b, xs, zs, rfl, rfl, hH, hB, hz, q⟩ := h
  cases rx
  obtain ⟨u, rfl, ru⟩ := rv.one
  cases ru
  obtain ⟨z, its, n, r, hl, e⟩ := I.lstM hH
  rcases hB with hB | hB
  · obtain ⟨its2, n2, r2, e2, z2⟩ := Inv.lstR I hB
    have hl2 := r2.length
    have hsz : its.toArray.size + its2.toArray.size ≤ sizeLine := by rw [List.size_toArray, List.size_toArray]; omega
    have hlong : ¬ (!its.toArray.isEmpty && Builtin.List.listTooLong (its.toArray.size + its2.toArray.size)) = true := by
      rw [notLongL hsz, Bool.and_false]
      exact Bool.false_ne_true
    refine call_meets F.slot_list_extend ⟨_, e, rfl⟩ F.entry_list_extend (F.args_list_extend_2 _ _)
      (PySem.AutoSeq1.list_extend_list_list_0 l its.toArray n b its2.toArray n2 hlong (by rw [List.size_toArray]; omega) (by omega)) ⟨e, e2, ?_⟩
    refine ⟨.non, _, I.lset (its' := its ++ its2) hH e (by simp) (r.append r2) ?_, rfl, q⟩
    rw [List.length_append]
    omega
  · obtain ⟨its2, r2, ⟨⟨cl, dct, dta, slt⟩, e2, hc, n2, hd⟩, z2⟩ := I.tuple (.inl (.inl hB))
    simp only at hc hd
    subst hc; subst hd
    have hl2 := r2.length
    have hsz : its.toArray.size + its2.toArray.size ≤ sizeLine := by rw [List.size_toArray, List.size_toArray]; omega
    have hlong : ¬ (!its.toArray.isEmpty && Builtin.List.listTooLong (its.toArray.size + its2.toArray.size)) = true := by
      rw [notLongL hsz, Bool.and_false]
      exact Bool.false_ne_true
    refine call_meets F.slot_list_extend ⟨_, e, rfl⟩ F.entry_list_extend (F.args_list_extend_2 _ _)
      (ext_tup l its.toArray n b its2.toArray n2 dct slt hlong (by rw [List.size_toArray]; omega) (by omega)) ⟨e, e2, ?_⟩
    refine ⟨.non, _, I.lset (its' := its ++ its2) hH e (by simp) (r.append r2) ?_, rfl, q⟩
    rw [List.length_append]
    omega
theorem SR.lstAt {K : PySem.W.Frag} {mg : Str → Option Value} {B T : Addr → Prop} {β : List Addr} {σ : St} {H : Hp} {ρ ρ' : Lo} {st st1 st' : Sto} {i : Nat} {f : D → Option D} (h : SR K mg B T β σ H ρ st) (hf : ∀ d d', f d = some d' → ∃ ds, d = .lst ds) (e : PL.wrAt i f ρ st1 = some (ρ', st')) : ∃ a vs, σ[i]? = some (some (.ref a)) ∧ H a = some (.lst vs) := by
  unfold PL.wrAt at e
  split at e
  · next d e1 =>
    split at e
    · next d' e2 =>
      obtain ⟨ds, rfl⟩ := hf _ _ e2
      obtain ⟨a, ea, r⟩ := h.ow i _ e1
      rcases r with ⟨vs, ds, e, q, p⟩ | ⟨_, _, e, _⟩ | ⟨_, _, e, _⟩
      · exact ⟨a, vs, ea, q⟩
      · cases e
      · cases e
    · cases e
  · next n e1 =>
    obtain ⟨v, ev, r⟩ := h.sh i _ e1
    cases r with
    | @obj a _ eb =>
      have hn : n < st.length := by
        rw [← h.stl]
        rcases Nat.lt_or_ge n β.length with h | h
        · exact h
        · rw [List.getElem?_eq_none h] at eb; cases eb
      cases es : st[n]? with
      | none => rw [List.getElem?_eq_none_iff] at es; omega
      | some ob => cases ob with
        | lst ds =>
          obtain ⟨vs, e4, _⟩ := h.sto n _ a es eb
          exact ⟨a, vs, ev, e4⟩
  · cases e
theorem Po.shs1 {K : PySem.W.Frag} {mg : Str → Option Value} {B T : Addr → Prop} {β : List Addr} {σ : St} {H : Hp} {ρ : Lo} {st : Sto} {v : V} {s : SV} {as : List Addr} {y : D} (p : Po K mg B T β σ H ρ st [v] [s] as) (e : toSh s = some y) : Rp K mg β (Ma B T β σ ρ) H v y := by
  have := p.shs (ds := [y]) (by simp [toShs, e])
  cases this with
  | cons r _ => exact r
variable {p : P} {e : Expr} {x : Str} {p1 apos cpos pos : Pos}
theorem sx_app (i : Nat) (he : PX X e p) (hN : X.N[i]? = some x := by rfl) (hv : Vis X.env.scope x := by first | exact Or.inl rfl | exact Or.inr (Or.inl rfl) | exact Or.inr (Or.inr rfl)) (hd : (x == ("__debug__" : Str)) = false := by decide) (hcd : (x == ("__classdict__" : Str)) = false := by decide)
    (hse : starEach [e] X.env = [(false, eval e X.env)] := by rfl) (hbase : attributeBase (.Name x p1) "append" X.env (eval (.Name x p1) X.env) = eval (.Name x p1) X.env := by rfl)
    (hfew : ((backTo cpos (starEach [e] X.env)).all (fun x => !x.1) && (backToKw cpos (keywordEach [] X.env)).all (fun x => x.1.isSome) && decide (([e] : List Expr).length + ([] : List Keyword).length + (if ([] : List Keyword).isEmpty then 0 else 1) < 30)) = true := by rfl)
    (hline : (apos.endLine == cpos.line) = true := by rfl) (hs : swapsWith (.Call (.Attribute (.Name x p1) "append" apos) [e] [] cpos) none pos.line X.env = pure false := by rfl) : SX X (.Expr (.Call (.Attribute (.Name x p1) "append" apos) [e] [] cpos) pos) (sApp i p) :=
  (ps_expr (pe_bm F.plainAttrs_list F.slot_list_append F.type_list_append mt_append (pe_var hN hv hd hcd) (ax_cons he ax_nil hse) hbase hfew hline hse rfl) hs).imp fun D σ H w => by
  obtain ⟨B, T, β, ρ, st, fl, ρ', st', sr, e, q, r⟩ := w
  unfold sApp at e
  split at e
  · cases e
  next s st1 e1 =>
  split at e
  · cases e
  next y ey =>
  split at e
  · cases e
  next ρ2 st2 ew =>
  cases e
  have hf : ∀ d d', fApp y d = some d' → ∃ ds, d = .lst ds := fun d d' z => by
    unfold fApp at z
    split at z
    · exact ⟨_, rfl⟩
    · cases z
  obtain ⟨a, vs, ea, eH⟩ := sr.lstAt hf ew
  refine ⟨_, ea, slot_tyV eH, B, T, β, ρ, st, [s], st1, sr, by simp [aCons, aNil, e1], fun ws H1 β1 as le fr P => ?_⟩
  have hl := RL.length P.rl
  match ws, hl with
  | [w], _ =>
  obtain ⟨a2, o, d, d', ea2, eo, ct, ef, ml, go⟩ := P.drop.wrAt ew
  rw [ea] at ea2; cases ea2
  unfold fApp at ef
  split at ef
  case h_2 => cases ef
  next ds =>
  split at ef
  case isFalse => cases ef
  next hlt =>
  cases ef
  rcases ct with ⟨us, ds2, e5, e6, r5⟩ | ⟨_, _, e5, _⟩ | ⟨_, _, e5, _⟩
  · cases e5; subst e6
    obtain ⟨s', so⟩ := go (.lst (us ++ [w])) trivial (fun xs z => by cases z) (.inl ⟨_, _, rfl, rfl, RpL.app r5 (.cons (P.shs1 ey) .nil)⟩)
    refine ⟨a, us, w, rfl, rfl, eo, by rw [r5.length, sizeLine_eq]; exact hlt, (q σ _ β1 (LeS.wr (le.leS fun a m => absurd m (by simp)) ml so) s').1 rfl⟩
  · cases e5
  · cases e5
theorem sx_ext (i : Nat) (he : PX X e p) (hN : X.N[i]? = some x := by rfl) (hv : Vis X.env.scope x := by first | exact Or.inl rfl | exact Or.inr (Or.inl rfl) | exact Or.inr (Or.inr rfl)) (hd : (x == ("__debug__" : Str)) = false := by decide) (hcd : (x == ("__classdict__" : Str)) = false := by decide)
    (hse : starEach [e] X.env = [(false, eval e X.env)] := by rfl) (hbase : attributeBase (.Name x p1) "extend" X.env (eval (.Name x p1) X.env) = eval (.Name x p1) X.env := by rfl)
    (hfew : ((backTo cpos (starEach [e] X.env)).all (fun x => !x.1) && (backToKw cpos (keywordEach [] X.env)).all (fun x => x.1.isSome) && decide (([e] : List Expr).length + ([] : List Keyword).length + (if ([] : List Keyword).isEmpty then 0 else 1) < 30)) = true := by rfl)
    (hline : (apos.endLine == cpos.line) = true := by rfl) (hs : swapsWith (.Call (.Attribute (.Name x p1) "extend" apos) [e] [] cpos) none pos.line X.env = pure false := by rfl) : SX X (.Expr (.Call (.Attribute (.Name x p1) "extend" apos) [e] [] cpos) pos) (sExt i p) :=
  (ps_expr (pe_bm F.plainAttrs_list F.slot_list_extend F.type_list_extend mt_extG (pe_var hN hv hd hcd) (ax_cons he ax_nil hse) hbase hfew hline hse rfl) hs).imp fun D σ H w => by
  obtain ⟨B, T, β, ρ, st, fl, ρ', st', sr, e, q, r⟩ := w
  unfold sExt at e
  split at e
  · cases e
  next s st1 e1 =>
  split at e
  · cases e
  next ys ey =>
  split at e
  · cases e
  next ρ2 st2 ew =>
  cases e
  have hf : ∀ d d', fExt ys d = some d' → ∃ ds, d = .lst ds := fun d d' z => by
    unfold fExt at z
    split at z
    · exact ⟨_, rfl⟩
    · cases z
  obtain ⟨a, vs, ea, eH⟩ := sr.lstAt hf ew
  refine ⟨_, ea, slot_tyV eH, B, T, β, ρ, st, [s], st1, sr, by simp [aCons, aNil, e1], fun ws H1 β1 as le fr P => ?_⟩
  have hl := RL.length P.rl
  match ws, hl with
  | [w], _ =>
  obtain ⟨a2, o, d, d', ea2, eo, ct, ef, ml, go⟩ := P.drop.wrAt ew
  rw [ea] at ea2; cases ea2
  obtain ⟨w2, e7, rw7⟩ := RwL.one P.rwl
  cases e7
  have sq : ∃ b zs, w = .ref b ∧ (RdL X.K H1 b zs ∨ H1 b = some (.tup zs)) ∧ RpL X.K X.mg β1 (Ma B T β1 σ ρ) H1 zs ys := by
    generalize dS st1 s = dd at ey rw7
    unfold seqD at ey
    split at ey
    · cases ey
      obtain ⟨b, zs, rfl, h1, h2⟩ := rw7.lst
      exact ⟨b, zs, rfl, .inl h1, h2.tr (Tr.sub ma_sub) (List.prefix_refl _)⟩
    · cases ey
      obtain ⟨b, zs, rfl, h1, h2⟩ := rw7.tup
      exact ⟨b, zs, rfl, .inr h1, h2.tr (Tr.sub ma_sub) (List.prefix_refl _)⟩
    · cases ey
  obtain ⟨b, zs, rfl, hB, r7⟩ := sq
  unfold fExt at ef
  split at ef
  case h_2 => cases ef
  next ds =>
  split at ef
  case isFalse => cases ef
  next hlt =>
  cases ef
  rcases ct with ⟨us, ds2, e5, e6, r5⟩ | ⟨_, _, e5, _⟩ | ⟨_, _, e5, _⟩
  · cases e5; subst e6
    obtain ⟨s', so⟩ := go (.lst (us ++ zs)) trivial (fun xs z => by cases z) (.inl ⟨_, _, rfl, rfl, RpL.app r5 r7⟩)
    refine ⟨a, b, us, zs, rfl, rfl, eo, hB, by rw [r5.length, r7.length, sizeLine_eq]; exact hlt, (q σ _ β1 (LeS.wr (le.leS fun a m => absurd m (by simp)) ml so) s').1 rfl⟩
  · cases e5
  · cases e5
end
end PL

/-! PLMut2: x[k] = v, x.pop(i), {}, d.get, d.update. -/
namespace PL
open PySem PySem.Spec L2

/-! ### x[k] = v -/
/-- a pair goes into a dict -/
def putA {κ α : Type} [DecidableEq κ] (es : List (κ × α)) (k : κ) (v : α) : List (κ × α) :=
  if (es.any fun p => decide (p.1 = k)) = true then es.map (fun p => if p.1 = k then (p.1, v) else p) else es ++ [(k, v)]
def fPut (k v : D) : D → Option D
  | .lst ds => (match k with
    | .int i => (match ixN ds.length i with
      | some j => some (.lst (ds.set j v))
      | none => none)
    | _ => none)
  | .dk es => if es.length < 16777216 then (match k with
    | .int i => some (.dk (putA es (.inl i) v))
    | .str z => some (.dk (putA es (.inr z) v))
    | _ => none) else none
  | .dt es => if es.length < 16777216 then (match k with
    | .tup ks => (match keyD ks with
      | some k => some (.dt (putA es k v))
      | none => none)
    | _ => none) else none
  | _ => none
def sPutIx (i : Nat) (pk pv : P) : S := fun ρ st => match pv ρ st with
  | none => none
  | some (s, st1) => match pk ρ st1 with
    | none => none
    | some (k, st2) => match toSh s with
      | none => none
      | some y => match wrAt i (fPut (dS st2 k) y) ρ st2 with
        | none => none
        | some (ρ3, st3) => some (.nx, ρ3, st3)
def rSetA : TSet := fun o i v H Q => rSetL o i v H Q ∨ rSetD o i v H Q
theorem set_any {X : Cx} (hu : X.A.units + 1 < cLine) : PSet X rSetA := by
  intro pins s σ H o i v ov iv u Q I ro ri rv h
  rcases h with h | h
  · exact set_list pins s σ H o i v ov iv u Q I ro ri rv h
  · exact set_dict hu pins s σ H o i v ov iv u Q I ro ri rv h
section
variable {K : PySem.W.Frag} {mg : Str → Option Value} {β β' : List Addr} {M B T : Addr → Prop} {H H' : Hp} {σ : St} {ρ ρ' : Lo} {st st' : Sto} {i : Nat} {as : List Addr} {v : V} {d : D}
theorem rpk_put {k : Key} (r : Rp K mg β M H v d) {kvs : List (Key × V)} {es : List (Key × D)} (h : RpK K mg β M H kvs es) : RpK K mg β M H (putK kvs k v) (putA es k d) := by
  have ha : (kvs.any fun kv => decide (kv.1 = k)) = (es.any fun kv => decide (kv.1 = k)) := by
    induction kvs generalizing es with
    | nil => cases h; rfl
    | cons p kvs ih => cases h with
      | cons r1 r2 => simp only [List.any_cons, ih r2]
  have hm : RpK K mg β M H (kvs.map (fun kv => if kv.1 = k then (kv.1, v) else kv)) (es.map (fun kv => if kv.1 = k then (kv.1, d) else kv)) := by
    clear ha
    induction kvs generalizing es with
    | nil => cases h; exact .nil
    | cons p kvs ih => cases h with
      | @cons k' v' _ d' ds r1 r2 =>
        simp only [List.map_cons]
        by_cases e : k' = k
        · simp only [e, if_true]; exact .cons r (ih r2)
        · simp only [e, if_false]; exact .cons r1 (ih r2)
  have hap : RpK K mg β M H (kvs ++ [(k, v)]) (es ++ [(k, d)]) := by
    clear ha hm
    induction kvs generalizing es with
    | nil => cases h; exact .cons r .nil
    | cons p kvs ih => cases h with
      | cons r1 r2 => exact .cons r1 (ih r2)
  unfold putK putA
  rw [ha]
  split
  · exact hm
  · exact hap
theorem rpt_put {k : List Key} (r : Rp K mg β M H v d) {kvs : List (List Key × V)} {es : List (List Key × D)} (h : RpT K mg β M H kvs es) : RpT K mg β M H (putK kvs k v) (putA es k d) := by
  have ha : (kvs.any fun kv => decide (kv.1 = k)) = (es.any fun kv => decide (kv.1 = k)) := by
    induction kvs generalizing es with
    | nil => cases h; rfl
    | cons p kvs ih => cases h with
      | cons r1 r2 => simp only [List.any_cons, ih r2]
  have hm : RpT K mg β M H (kvs.map (fun kv => if kv.1 = k then (kv.1, v) else kv)) (es.map (fun kv => if kv.1 = k then (kv.1, d) else kv)) := by
    clear ha
    induction kvs generalizing es with
    | nil => cases h; exact .nil
    | cons p kvs ih => cases h with
      | @cons k' v' _ d' ds r1 r2 =>
        simp only [List.map_cons]
        by_cases e : k' = k
        · simp only [e, if_true]; exact .cons r (ih r2)
        · simp only [e, if_false]; exact .cons r1 (ih r2)
  have hap : RpT K mg β M H (kvs ++ [(k, v)]) (es ++ [(k, d)]) := by
    clear ha hm
    induction kvs generalizing es with
    | nil => cases h; exact .cons r .nil
    | cons p kvs ih => cases h with
      | cons r1 r2 => exact .cons r1 (ih r2)
  unfold putK putA
  rw [ha]
  split
  · exact hm
  · exact hap
theorem RpK.length : ∀ {kvs : List (Key × V)} {es : List (Key × D)}, RpK K mg β M H kvs es → kvs.length = es.length
  | _, _, .nil => rfl
  | _, _, .cons _ r => by simp [RpK.length r]
theorem RpT.length : ∀ {kvs : List (List Key × V)} {es : List (List Key × D)}, RpT K mg β M H kvs es → kvs.length = es.length
  | _, _, .nil => rfl
  | _, _, .cons _ r => by simp [RpT.length r]
/-- the slot of a list or dict that is written later -/
theorem SR.ctAt {st1 : Sto} {f : D → Option D} (h : SR K mg B T β σ H ρ st) (e : PL.wrAt i f ρ st1 = some (ρ', st')) : ∃ a, σ[i]? = some (some (.ref a)) := by
  unfold PL.wrAt at e
  split at e
  · next d e1 =>
    obtain ⟨a, ea, _⟩ := h.ow i _ e1
    exact ⟨a, ea⟩
  · next n e1 =>
    obtain ⟨v, ev, r⟩ := h.sh i _ e1
    cases r with
    | @obj a _ eb => exact ⟨a, ev⟩
  · cases e
/-- two values, apart -/
theorem RL.two2 {T : Addr → Prop} {vs : List V} {s t : SV} {as : List Addr} (h : RL K mg β M T H vs [s, t] as) : ∃ v w, vs = [v, w] := by
  have l := RL.length h
  match vs, l with
  | [v, w], _ => exact ⟨v, w, rfl⟩
theorem Po.sh0 {v : V} {vs : List V} {s : SV} {svs : List SV} {y : D} (p : Po K mg B T β σ H ρ st (v :: vs) (s :: svs) as) (e : toSh s = some y) : Rp K mg β (Ma B T β σ ρ) H v y := by
  obtain ⟨a1, as2, rfl, p1, _⟩ := p.split1
  have r := p1.shs1 e
  exact r.tr (Tr.sub fun a m => by
    rcases m with m | m | m
    · exact .inl m
    · exact .inr (.inl (.inl m))
    · exact .inr (.inr m)) (List.prefix_refl _)
end
section
variable {X : Cx} {pk pv : P} {ek ev : Expr} {x : Str} {p1 pt pos : Pos}
theorem sx_putIx (hu : X.A.units + 1 < cLine) (i : Nat) (hk : PX X ek pk) (he : PX X ev pv) (hN : X.N[i]? = some x := by rfl) (hv : Vis X.env.scope x := by first | exact Or.inl rfl | exact Or.inr (Or.inl rfl) | exact Or.inr (Or.inr rfl)) (hd : (x == ("__debug__" : Str)) = false := by decide) (hcd : (x == ("__classdict__" : Str)) = false := by decide)
    (ha : ∀ v, assign (.Subscript (.Name x p1) ek pt) X.env v = (do
      let ov ← holding [v] (eval (.Name x p1) X.env)
      let iv ← holding [v, ov] (eval ek X.env)
      standAt pt
      holding [v, ov, iv] (setItem ov iv v)
      release [v, ov, iv] []) := by intro _; rfl)
    (hs : swapsWithSole [.Subscript (.Name x p1) ek pt] ev pos.line X.env = pure false := by rfl) (hw : swappedStores [.Subscript (.Name x p1) ek pt] ev X.env = pure none := by rfl)
    (h1 : (assignEach [.Subscript (.Name x p1) ek pt] X.env).map (·.2) = [assign (.Subscript (.Name x p1) ek pt) X.env] := by rfl) : SX X (.Assign [.Subscript (.Name x p1) ek pt] ev pos) (sPutIx i pk pv) :=
  (ps_asg he (pg_sub (pe_var hN hv hd hcd) hk (set_any hu) ha) hs hw h1).imp fun D σ H w => by
  obtain ⟨B, T, β, ρ, st, fl, ρ', st', sr, e, q, r⟩ := w
  unfold sPutIx at e
  split at e
  · cases e
  next s st1 e1 =>
  split at e
  · cases e
  next k st2 e2 =>
  split at e
  · cases e
  next y ey =>
  split at e
  · cases e
  next ρ3 st3 ew =>
  cases e
  refine TP.mono (fun v H1 q1 => ?_) (ar_cons (f := pv) (g := a1 pk) (Q := fun vs H2 => ∃ v k a, vs = [v, k] ∧ σ[i]? = some (some (.ref a)) ∧ rSetA (.ref a) k v H2 fun H3 => D.nx σ H3) ⟨B, T, β, ρ, st, [s, k], st2, sr, by simp [aCons, aNil, e1, e2], fun vs H2 β2 as le fr P => ?_⟩)
  · obtain ⟨a, ea⟩ := sr.ctAt ew
    refine ⟨_, ea, TP.mono (fun k H2 q2 => ?_) (ar_cons q1)⟩
    have q3 := ar_nil q2
    obtain ⟨v', k', a', e3, e4, q3⟩ := q3
    cases e3
    rw [ea] at e4; cases e4
    exact q3
  obtain ⟨v, w, rfl⟩ := P.rl.two2
  obtain ⟨a, o, d, d', ea, eo, ct, ef, ml, go⟩ := P.drop.wrAt ew
  refine ⟨v, w, a, rfl, ea, ?_⟩
  have rv := P.sh0 ey
  have rk := P.rwl
  have hmem : ∀ {o'}, (∀ b, own σ ρ' b → own σ ρ b) → SR X.K X.mg B T β2 σ (upd H2 a o') ρ' st' → D.nx σ (upd H2 a o') := fun {o'} so s' => (q σ _ β2 (LeS.wr (le.leS fun a m => absurd m (by simp)) ml so) s').1 rfl
  cases rk with
  | cons _ rk => cases rk with
    | cons rk _ =>
    generalize dS st2 k = kd at ef rk
    unfold fPut at ef
    split at ef
    · next ds =>
      split at ef
      case h_2 => cases ef
      next j =>
      split at ef
      case h_2 => cases ef
      next jn ej =>
      cases ef
      obtain rfl := rk.int
      rcases ct with ⟨us, ds2, e5, e6, r5⟩ | ⟨_, _, e5, _⟩ | ⟨_, _, e5, _⟩
      · cases e5; subst e6
        obtain ⟨s', so⟩ := go (.lst (us.set jn v)) trivial (fun xs z => by cases z) (.inl ⟨_, _, rfl, rfl, RpL.set rv jn r5⟩)
        exact .inl ⟨a, us, j, jn, rfl, rfl, eo, by rw [r5.length]; exact ej, hmem so s'⟩
      · cases e5
      · cases e5
    · next es =>
      split at ef
      case isFalse => cases ef
      next hlt =>
      rcases ct with ⟨_, _, e5, _⟩ | ⟨us, ds2, e5, e6, r5⟩ | ⟨_, _, e5, _⟩
      · cases e5
      · cases e5; subst e6
        have key : ∀ {kk : Key}, w = kV kk → d' = .dk (putA es kk y) → rSetA (.ref a) w v H2 fun H3 => D.nx σ H3 := fun {kk} ek ed => by
          subst ek; subst ed
          obtain ⟨s', so⟩ := go (.dK (putK us kk v)) trivial (fun xs z => by cases z) (.inr (.inl ⟨_, _, rfl, rfl, rpk_put rv r5⟩))
          exact .inr ⟨a, _, rfl, .k eo (by rw [r5.length, sizeLine_eq]; exact hlt), hmem so s'⟩
        split at ef
        · next j => cases ef; exact key (kk := .inl j) rk.int rfl
        · next j => cases ef; exact key (kk := .inr j) rk.str rfl
        · cases ef
      · cases e5
    · next es =>
      split at ef
      case isFalse => cases ef
      next hlt =>
      split at ef
      case h_2 => cases ef
      next ks =>
      split at ef
      case h_2 => cases ef
      next kk ek =>
      cases ef
      obtain ⟨b, ws, rfl, h5, h6⟩ := rk.tup
      rcases ct with ⟨_, _, e5, _⟩ | ⟨_, _, e5, _⟩ | ⟨us, ds2, e5, e6, r5⟩
      · cases e5
      · cases e5
      · cases e5; subst e6
        obtain ⟨s', so⟩ := go (.dT (putK us kk v)) trivial (fun xs z => by cases z) (.inr (.inr ⟨_, _, rfl, rfl, rpt_put rv r5⟩))
        exact .inr ⟨a, _, rfl, .t eo (by rw [← key_vs ek h6]; exact h5) (by rw [r5.length, sizeLine_eq]; exact hlt), hmem so s'⟩
    · cases ef
end
end PL

/-! PLMt: methods that give a value: x.pop(i), d.get(k, x); {}. -/
namespace PL
open PySem PySem.Spec L2

def pMt (chk : D → Bool) (f : P) (g : Ar) (op : Op) : P := fun ρ st => match f ρ st with
  | none => none
  | some (s, st1) => if chk (dS st1 s) = true then (match g ρ st1 with
    | none => none
    | some (xs, st2) => op (s :: xs) st2) else none
theorem mt_of {K : PySem.W.Frag} {mg : Str → Option Value} {chk : D → Bool} {f : P} {g : Ar} {op : Op} {σ : St} {H : Hp} {Q : VK} {Z : V → Hp → Prop} (hz : ∀ β M v H d, Rw K mg β M H v d → chk d = true → Z v H) (w : TP K mg (pMt chk f g op) σ H Q) :
    TP K mg f σ H fun v H1 => Z v H1 ∧ TAr K mg g σ H1 fun vs H2 => Sim K mg op (v :: vs) H2 Q := by
  obtain ⟨B, T, β, ρ, st, sv, st', sr, e, q⟩ := w
  unfold pMt at e
  split at e
  · cases e
  next s st1 e1 =>
  split at e
  case isFalse => cases e
  next hc =>
  split at e
  · cases e
  next xs st2 e2 =>
  refine ⟨B, T, β, ρ, st, s, st1, sr, e1, fun v H1 β1 as1 le1 fr1 P1 => ⟨?_, B, Tp T as1, β1, ρ, st1, xs, st2, P1.sr, e2, fun vs H2 β2 as2 le2 fr2 P2 => ?_⟩⟩
  · obtain ⟨v', e3, r⟩ := RwL.one P1.rwl
    cases e3
    exact hz _ _ _ _ _ r hc
  · refine ⟨B, T, β2, σ, ρ, st2, s :: xs, as1 ++ as2, sv, st', P1.app P2 le2 fr2, e, fun v' H3 β3 as3 le3 fr3 P3 => q v' H3 β3 as3 ?_ (fun a m => ?_) P3⟩
    · refine (le_chain le1 le2).trans le3 fun a e n z => ?_
      rcases z with z | z
      · exact (le_chain le1 le2).out a e n z
      · rcases List.mem_append.mp z with z | z
        · exact e (fr1 a z)
        · exact e (pos_mem (SR.βne sr) le1 (SR.βne P1.sr) (fr2 a z))
    · rcases fr3 a m with z | z
      · exact pos_mem (SR.βne sr) (le_chain le1 le2) (SR.βne P2.sr) z
      · rcases List.mem_append.mp z with z | z
        · exact fr1 a z
        · exact pos_mem (SR.βne sr) le1 (SR.βne P1.sr) (fr2 a z)
section
variable {X : Cx} {op : Op} {f : P} {g : Ar} {o e : Expr} {es : List Expr} {name : Str} {apos cpos : Pos} {T id : String} {chk : D → Bool}
theorem px_mt (pa : PlainAttrs T) (slot : Slot T name id) (hty : typeOf (.builtin id) = pure (.type "method_descriptor")) (hm : MtS X id op) (hz : ∀ β M v H d, Rw X.K X.mg β M H v d → chk d = true → tyV X.K T v H) (ho : PX X o f) (ha : AX X (e :: es) g)
    (hbase : attributeBase o name X.env (eval o X.env) = eval o X.env := by rfl)
    (hfew : ((backTo cpos (starEach (e :: es) X.env)).all (fun x => !x.1) && (backToKw cpos (keywordEach [] X.env)).all (fun x => x.1.isSome) && decide ((e :: es).length + ([] : List Keyword).length + (if ([] : List Keyword).isEmpty then 0 else 1) < 30)) = true := by rfl)
    (hline : (apos.endLine == cpos.line) = true := by rfl) (hs : starEach (e :: es) X.env = (false, eval e X.env) :: starEach es X.env := by rfl) (hplain : (backTo cpos (starEach es X.env)).any (·.1) = false := by rfl) :
    PX X (.Call (.Attribute o name apos) (e :: es) [] cpos) (pMt chk f g op) := (pe_bm pa slot hty hm ho ha hbase hfew hline hs hplain).imp fun _ _ _ w => mt_of hz w
end

/-! ### x.pop(i), x of the store -/
def oPopAt : Op := fun svs st => match svs with
  | [.sh (.obj n), k] => (match st[n]?, dS st k with
    | some (.lst ds), .int i => (match ixN ds.length i with
      | some j => (match ds[j]? with
        | some d => some (.sh d, st.set n (.lst (ds.eraseIdx j)))
        | none => none)
      | none => none)
    | _, _ => none)
  | _ => none
def isLst : D → Bool
  | .lst _ => true | _ => false
theorem RpL.eraseIdx {K : PySem.W.Frag} {mg : Str → Option Value} {β : List Addr} {M : Addr → Prop} {H : Hp} : ∀ {vs ds} (i : Nat), RpL K mg β M H vs ds → RpL K mg β M H (vs.eraseIdx i) (ds.eraseIdx i)
  | _, _, _, .nil => .nil
  | _, _, 0, .cons _ q => q
  | _, _, i + 1, .cons r q => .cons r (RpL.eraseIdx i q)
/-- a list of the store may be frozen? no: it stands as it is -/
theorem isLst_ty {K : PySem.W.Frag} {mg : Str → Option Value} {β : List Addr} {M : Addr → Prop} {v : V} {H : Hp} {d : D} (r : Rw K mg β M H v d) (e : isLst d = true) : tyV K "list" v H := by
  unfold isLst at e
  split at e
  · obtain ⟨a, vs, rfl, h1, _⟩ := r.lst
    exact .inl ⟨rfl, vs, sqL h1⟩
  · cases e
section
variable {X : Cx}
theorem m_popAt : MtS X "list.pop" oPopAt := by
  intro pins s σ0 H x xs v us Q I rx rs w
  obtain ⟨B, T, β, σ, ρ, st, svs, as, sv, st', p, e, q⟩ := w
  refine mt_popAt pins s σ0 H x xs v us Q I rx rs ?_
  unfold oPopAt at e
  split at e
  case h_2 => cases e
  next n k =>
  split at e
  case h_2 => cases e
  next ds i e1 e2 =>
  split at e
  case h_2 => cases e
  next j ej =>
  split at e
  case h_2 => cases e
  next d ed =>
  cases e
  obtain ⟨w1, ws1, e3, r1, r2⟩ := p.rl.sh1
  cases e3
  have rk := p.rwl
  cases r1 with
  | @obj a _ eb =>
  obtain ⟨vs, eH, rv⟩ := p.drop.sto n _ a e1 eb
  obtain ⟨h1, h2, h3, h4⟩ := ixN_seq ej
  obtain ⟨v1, ev, r3⟩ := rv.get ed
  have hl := rv.length
  have ml : a ∈ β := List.mem_of_getElem? eb
  have hz : vs.length ≤ sizeLine := (I.lstM eH).1
  have hn := line63
  cases rk with
  | cons _ rk => cases rk with
    | @cons wk _ _ _ rk rk' =>
    cases rk'
    rw [e2] at rk
    obtain rfl := rk.int
    refine ⟨a, vs, i, j, v1, rfl, rfl, eH, by omega, by omega, by rw [hl]; exact h1, ev, ?_⟩
    have s' := p.drop.wrS eb (rv.eraseIdx j)
    have ma : Ma B T β σ ρ a := .inr (.inr (.inl ml))
    have t : Tr (Ma B T β σ ρ) (Ma B T β σ ρ) H (upd H a (.lst (vs.eraseIdx j))) := up_trM (p.drop.dom a ma).2 ma
    refine q v1 _ β [] ⟨fun b u e n => ?_, List.prefix_refl _, fun b e n z => n (.inl z)⟩ (fun b m => absurd m (by simp)) (Po.one s' (r3.tr t (List.prefix_refl _)))
    rw [upd_ne (fun z => by subst z; exact n (.inl ml))]; exact e

/-! ### {} -/
def pDK : P := fun _ st => some (.ow (.dk []), st)
def pDT : P := fun _ st => some (.ow (.dt []), st)
theorem new_of {K : PySem.W.Frag} {mg : Str → Option Value} {σ : St} {H : Hp} {Q : VK} {o : HO} {d : D} {f : P} (hf : ∀ ρ st, f ρ st = some (.ow d, st)) (ho : Plain o) (hn : ∀ xs, o ≠ .tup xs) (r : ∀ β M H, Ct K mg β M H (fun u => u = o) d) (w : TP K mg f σ H Q) : ∀ p, H p = none → Q (.ref p) (upd H p o) := by
  obtain ⟨B, T, β, ρ, st, sv, st', sr, e, q⟩ := w
  rw [hf] at e
  cases e
  intro p hp
  exact (Po.nil sr).newO (fun v H' β' as' le fr P => q v H' β' as' ⟨fun a u e n => le.ex a u e fun z => z.elim n (by simp), le.pre, fun a e n => le.out a e fun z => z.elim n (by simp)⟩ (fun a m => (fr a m).elim id (by simp)) P) hp ho hn (r _ _ _)
theorem px_dk {pos : Pos} : PX X (.Dict [] [] pos) pDK := pe_dnewK.imp fun _ _ _ w => new_of (fun _ _ => rfl) trivial (fun xs z => by cases z) (fun _ _ _ => .inr (.inl ⟨[], [], rfl, rfl, .nil⟩)) w
theorem px_dt {pos : Pos} : PX X (.Dict [] [] pos) pDT := pe_dnewT.imp fun _ _ _ w => new_of (fun _ _ => rfl) trivial (fun xs z => by cases z) (fun _ _ _ => .inr (.inr ⟨[], [], rfl, rfl, .nil⟩)) w

/-! ### d.get(k, x) -/
def findA {κ α : Type} [DecidableEq κ] (es : List (κ × α)) (k : κ) : Option α := (es.find? fun p => decide (p.1 = k)).map (·.2)
/-- what stands at a key; none: no key of the dict's kind -/
def getD (d k : D) : Option (Option D) := match d, k with
  | .dk es, .int i => some (findA es (.inl i))
  | .dk es, .str i => some (findA es (.inr i))
  | .dt es, .tup ks => (match keyD ks with
    | some k => some (findA es k)
    | none => none)
  | _, _ => none
def hGet2 : List D → Option SV
  | [d, k, x] => (match getD d k with
    | some (some v) => some (.sh v)
    | some none => some (.sh x)
    | none => none)
  | _ => none
/-- the default is no list or dict that is owned -/
def oGet2 : Op := fun svs st => match svs with
  | [s, k, .sh x] => (match getD s.d (dS st k) with
    | some (some v) => some (.sh v, st)
    | some none => some (.sh x, st)
    | none => none)
  | _ => none
def isDct : D → Bool
  | .dk _ => true | .dt _ => true | _ => false
theorem rw_isD {K : PySem.W.Frag} {mg : Str → Option Value} {β : List Addr} {M : Addr → Prop} {v : V} {H : Hp} {d : D} (r : Rw K mg β M H v d) (e : isDct d = true) : ∃ a, v = .ref a ∧ IsD H a := by
  unfold isDct at e
  split at e
  · obtain ⟨a, kvs, rfl, h1, _⟩ := r.dk
    exact ⟨a, rfl, .inl ⟨_, h1⟩⟩
  · obtain ⟨a, kvs, rfl, h1, _⟩ := r.dt
    exact ⟨a, rfl, .inr ⟨_, h1⟩⟩
  · cases e
/-- a key that is read -/
theorem dget_of {K : PySem.W.Frag} {mg : Str → Option Value} {β : List Addr} {M : Addr → Prop} {x y : V} {H : Hp} {d k : D} {o : Option D} (r : Rw K mg β M H x d) (r2 : Rw K mg β M H y k) (e : getD d k = some o) : ∃ a ov, x = .ref a ∧ DGet H a y ov ∧
    ((∀ d', o = some d' → ∃ v, ov = some v ∧ Rp K mg β M H v d') ∧ (o = none → ov = none)) := by
  unfold getD at e
  split at e
  · next es i =>
    cases e
    obtain ⟨a, kvs, rfl, h1, h2⟩ := r.dk
    exact ⟨a, _, rfl, .inl ⟨kvs, .inl i, h1, r2.int, rfl⟩, valK h2⟩
  · next es i =>
    cases e
    obtain ⟨a, kvs, rfl, h1, h2⟩ := r.dk
    exact ⟨a, _, rfl, .inl ⟨kvs, .inr i, h1, r2.str, rfl⟩, valK h2⟩
  · obtain ⟨a, kvs, rfl, h1, h2⟩ := r.dt
    obtain ⟨b, ws, rfl, h5, h6⟩ := r2.tup
    split at e
    · next k ek =>
      cases e
      exact ⟨a, _, rfl, .inr ⟨kvs, k, b, h1, rfl, by rw [← key_vs ek h6]; exact h5, rfl⟩, valT h2⟩
    · cases e
  · cases e
variable {f : P} {g : Ar} {o e1 e2 : Expr} {apos cpos : Pos} {gk gx : P}
theorem px_get2 (hu : X.A.units + 1 < cLine) (ho : PX X o f) (hk : PX X e1 gk) (hx : PX X e2 gx) (m : M2 X o "get" apos e1 e2 cpos := by exact ⟨rfl, rfl, rfl, rfl⟩) : PX X (.Call (.Attribute o "get" apos) [e1, e2] [] cpos) (pMt isDct f (a2 gk gx) oGet2) := (pe_dget2 hu ho hk hx m).imp fun σ H Q w => by
  refine TP.mono (fun v H1 q1 => ?_) (mt_of (Z := fun v H => ∃ a, v = .ref a ∧ IsD H a) (fun _ _ _ _ _ r e => rw_isD r e) w)
  obtain ⟨⟨a, rfl, hd⟩, q1⟩ := q1
  refine ⟨a, rfl, hd, TP.mono (fun y H2 q2 => TP.mono (fun z H3 q3 => ?_) (ar_cons q2)) (ar_cons q1)⟩
  have q3 := ar_nil q3
  obtain ⟨B, T, β, σ, ρ, st, svs, as, sv, st', p, e, q⟩ := q3
  unfold oGet2 at e
  split at e
  case h_2 => cases e
  next s k x =>
  have rw3 := p.rwl
  have hdS : ∀ o, getD s.d (dS st k) = some o → dS st s = s.d := fun o e => by
    unfold dS
    split
    · next n e' => rw [e'] at e; cases e
    · rfl
  obtain ⟨o, eo⟩ : ∃ o, getD s.d (dS st k) = some o := by
    split at e
    · next v e' => exact ⟨_, e'⟩
    · next e' => exact ⟨_, e'⟩
    · cases e
  cases rw3 with
  | cons r1 rw3 => cases rw3 with
    | cons r2 rw3 =>
    rw [hdS o eo] at r1
    obtain ⟨a', ov, e4, dg, h1, h2⟩ := dget_of r1 r2 eo
    cases e4
    refine ⟨ov, dg, ?_⟩
    rw [eo] at e
    cases o with
    | some v =>
      cases e
      obtain ⟨v', e5, r5⟩ := h1 _ rfl
      rw [e5]
      exact p.ret q (r5.tr (Tr.sub ma_sub) (List.prefix_refl _))
    | none =>
      cases e
      rw [h2 rfl]
      have rx := p.rl
      have : Rp X.K X.mg β (Ma B (Tp T as) β σ ρ) H3 z x := by
        obtain ⟨_, _, e6, _, rx1⟩ := RL.first rx
        obtain ⟨_, _, e7, _, rx2⟩ := RL.first rx1
        obtain ⟨w, ws, e8, r8, _⟩ := rx2.sh1
        cases e8
        exact r8
      exact p.ret q (this.tr (Tr.sub ma_sub) (List.prefix_refl _))
end
end PL

/-! PLNone: None sought in a dict whose keys are tuples. -/
namespace PL
open PySem PySem.Spec L2 SeqAt

section
variable {prog : Program} {w : World} {A : Around} {E : Value → Shared → Prop} {s : Shared}
theorem walk_none {d : Addr} {o : Obj} {es : Array DictEntry} {ep : Nat} (ho : s.heap.get? d = some o) (hd : o.data = .dict es ep) (h0 : Int) (places : List Nat) (heq : ∀ e ∈ es, EqAt A s e.key .none false) {Q : Option Nat → Shared → Prop} (h : Q none s) :
    wpAny (model prog w) A (dictWalkPlain d .none h0 es places) Q E s := by
  unfold dictWalkPlain
  refine wpAny_bind ?_
  refine wpAny_forIn_list _ (fun _ b s' => s' = s ∧ b = (none, ())) _ ?_ ?_ _ _ ⟨rfl, rfl⟩
  · rintro x rest b s' ⟨rfl, rfl⟩
    cases hx : es[x]? with
    | none => exact wpAny_pure ⟨rfl, rfl⟩
    | some e =>
      dsimp only
      have he := heq e (Array.mem_of_getElem? hx)
      by_cases hh : (e.hash == h0) = true
      · rw [if_pos hh]
        refine wpAny_bind (wpAny_dictEpoch ho hd (wpAny_bind (he _ _ _ _ (wpAny_bind (wpAny_dictEpoch ho hd ?_)))))
        show wpAny _ _ (if (ep != ep) = true then _ else _) _ E _
        rw [if_neg (by simp)]
        simp only [Bool.false_eq_true, if_false]
        refine wpAny_bind (wpAny_rule ?_)
        exact wpAny_pure ⟨rfl, rfl⟩
      · rw [if_neg hh]
        exact wpAny_pure ⟨rfl, rfl⟩
  · rintro b s' ⟨rfl, rfl⟩
    exact wpAny_pure h
theorem find_none {d : Addr} {o : Obj} {es : Array DictEntry} {ep : Nat} (ho : s.heap.get? d = some o) (hd : o.data = .dict es ep) (h0 : Int) (heq : ∀ e ∈ es, EqAt A s e.key .none false) (hq : ∀ e ∈ es, ∀ Q : Bool → Shared → Prop, Q true s → wpAny (model prog w) A (eqIsQuiet 8 e.key) Q E s)
    {Q : Option Nat → Shared → Prop} (h : Q none s) : wpAny (model prog w) A (dictFind d .none h0) Q E s := by
  unfold dictFind
  try with_reducible refine wpAny_holding ?_
  refine wpAny_bind (wpAny_dictEntries ho hd ?_)
  dsimp only
  by_cases hall : ((Value.none :: (placesWithHash es.size (fun i => es[i]?.map (·.hash)) h0).filterMap fun i => es[i]?.map (·.key)).all carriedByValue) = true
  · rw [if_pos hall]
    exact walk_none ho hd h0 _ heq h
  · rw [if_neg hall]
    have key : wpAny (model prog w) A (tableMayTell .none ((placesWithHash es.size (fun i => es[i]?.map (·.hash)) h0).filterMap fun i => es[i]?.map (·.key))) (fun b s' => b = false ∧ s' = s) E s := by
      unfold tableMayTell
      split
      · exact wpAny_pure ⟨rfl, rfl⟩
      · refine wpAny_bind ?_
        show wpAny _ _ (pure true) _ _ _
        refine wpAny_pure ?_
        simp only [Bool.not_true, Bool.false_eq_true, if_false]
        refine wpAny_bind ?_
        refine wpAny_forIn_list _ (fun rest r s' => s' = s ∧ r = (none, ()) ∧ ∀ v ∈ rest, ∃ e ∈ es, v = e.key) _ ?_ ?_ _ _ ⟨rfl, rfl, fun v hv => ?_⟩
        · rintro x rest r s' ⟨rfl, rfl, hr⟩
          obtain ⟨e, he, rfl⟩ := hr x List.mem_cons_self
          refine wpAny_bind (hq e he _ ?_)
          simp only [Bool.not_true, Bool.false_eq_true, if_false]
          exact wpAny_pure ⟨rfl, rfl, fun v hv => hr v (List.mem_cons_of_mem _ hv)⟩
        · rintro r s' ⟨rfl, rfl, _⟩
          exact wpAny_pure ⟨rfl, rfl⟩
        · obtain ⟨i, _, hi⟩ := List.mem_filterMap.mp hv
          cases hei : es[i]? with
          | none => rw [hei] at hi; cases hi
          | some e =>
            rw [hei] at hi
            obtain rfl : e.key = v := by simpa using hi
            exact ⟨e, Array.mem_of_getElem? hei, rfl⟩
    by_cases hone : (((placesWithHash es.size (fun i => es[i]?.map (·.hash)) h0).filterMap (fun i => es[i]?.map (·.key))) == [Value.none]) = true
    · rw [if_pos hone]
      refine wpAny_bind (wpAny_pure ?_)
      rw [if_neg (by simp)]
      refine wpAny_bind ?_
      refine wpAny_forIn_list _ (fun _ b s' => s' = s ∧ b = (none, none)) _ ?_ ?_ _ _ ⟨rfl, rfl⟩
      · rintro x rest b s' ⟨rfl, rfl⟩
        cases hx : es[x]? with
        | none => exact wpAny_pure ⟨rfl, rfl⟩
        | some e =>
          dsimp only
          have he := heq e (Array.mem_of_getElem? hx)
          by_cases hh : (e.hash == h0) = true
          · rw [if_pos hh]
            refine wpAny_bind (wpAny_dictEpoch ho hd (wpAny_bind (he _ _ _ _ (wpAny_bind (wpAny_dictEpoch ho hd ?_)))))
            rw [if_neg (by simp)]
            simp only [Bool.false_eq_true, if_false]
            refine wpAny_bind (wpAny_rule ?_)
            first
              | exact wpAny_pure ⟨rfl, rfl⟩
              | (rw [if_neg (by simp)]; exact wpAny_pure ⟨rfl, rfl⟩)
          · rw [if_neg hh]
            exact wpAny_pure ⟨rfl, rfl⟩
      · rintro b s' ⟨rfl, rfl⟩
        exact wpAny_pure h
    · rw [if_neg hone]
      refine wpAny_bind (wpAny_mono key (fun b s' hb => ?_) fun _ _ e => e)
      obtain ⟨rfl, rfl⟩ := hb
      rw [if_neg (by simp)]
      refine wpAny_bind ?_
      refine wpAny_forIn_list _ (fun _ b s2 => s2 = s' ∧ b = (none, none)) _ ?_ ?_ _ _ ⟨rfl, rfl⟩
      · rintro x rest b s' ⟨rfl, rfl⟩
        cases hx : es[x]? with
        | none => exact wpAny_pure ⟨rfl, rfl⟩
        | some e =>
          dsimp only
          have he := heq e (Array.mem_of_getElem? hx)
          by_cases hh : (e.hash == h0) = true
          · rw [if_pos hh]
            refine wpAny_bind (wpAny_dictEpoch ho hd (wpAny_bind (he _ _ _ _ (wpAny_bind (wpAny_dictEpoch ho hd ?_)))))
            rw [if_neg (by simp)]
            simp only [Bool.false_eq_true, if_false]
            refine wpAny_bind (wpAny_rule ?_)
            first
              | exact wpAny_pure ⟨rfl, rfl⟩
              | (rw [if_neg (by simp)]; exact wpAny_pure ⟨rfl, rfl⟩)
          · rw [if_neg hh]
            exact wpAny_pure ⟨rfl, rfl⟩
      · rintro b s' ⟨rfl, rfl⟩
        exact wpAny_pure h
theorem contains_none {d : Addr} {xs : List (List Key × Addr × Value)} {Q : Bool → Shared → Prop} (hu : A.units + 1 < cLine) (hd : (d == sysModules) = false) (hm : s.heap.DictOfH (tupleKind (mixKind prog w)) d xs)
    (h : Q false { s with toks := s.toks + 1 }) : wpAny (model prog w) A (contains (.ref d) .none) Q E s := by
  refine wpAny_contains_slot hm.typeIs F.slot_dict_contains ?_
  refine call_meetsIn F.slot_dict_contains hm.typeIs F.entry_dict_contains (F.args_dict_contains_2 _ _) (S := fun A' R s' => A' = A ∧ s' = s ∧ R (.ok (.ret (.bool false))) { s with toks := s.toks + 1 }) (fun A' R s' hS => ?_) ⟨rfl, rfl, wpAny_truthy_bool h⟩
  obtain ⟨rfl, rfl, hq⟩ := hS
  show wpAny _ _ (dictGet d .none >>= _) _ _ _
  refine wpAny_bind ?_
  obtain ⟨o, es, ep, ho, _, hdd, he, his, hn⟩ := hm
  have hr := tupleKind_room_in1 (prog := prog) (w := w) (knd := mixKind prog w) hu
  have hent : ∀ e ∈ es, ∃ x ∈ xs, e.key = .ref x.2.1 := fun e hin => by
    have : e ∈ xs.map (entryOfKey (tupleKind (mixKind prog w))) := he ▸ Array.mem_toList_iff.mpr hin
    obtain ⟨x, hx, rfl⟩ := List.mem_map.mp this
    exact ⟨x, hx, rfl⟩
  unfold dictGet
  try with_reducible refine wpAny_holding ?_
  refine wpAny_bind (pyHash_leaf (k := Leaf.none) rfl ?_)
  refine wpAny_bind (find_none (s := { s' with toks := s'.toks + 1 }) ho hdd _ (fun e hin => ?_) (fun e hin Q hQ => ?_) (wpAny_pure ?_))
  · obtain ⟨x, hx, ek⟩ := hent e hin
    rw [ek]
    obtain ⟨o2, items, n, h1, h2, h3, _⟩ := his x hx
    exact EqAt.tuple_none ⟨o2, h1, h2, n, h3⟩ hr
  · obtain ⟨x, hx, ek⟩ := hent e hin
    rw [ek]
    exact (tupleKind (mixKind prog w)).quiet (s := { s' with toks := s'.toks + 1 }) (his x hx) hQ
  · show wpAny _ _ (Builtin.Dict.pendingKey? d .none >>= _) _ _ _
    exact wpAny_bind (wpAny_pendingKey_other hd (wpAny_pure hq))
end
/-! ### x in d, None too -/
def hInN (neg : Bool) : List D → Option SV
  | [.non, .dt _] => some (.sh (.bl neg))
  | l => hIn neg l
def oInN (neg : Bool) : Op := oG (hInN neg)
def rInN (neg : Bool) : R2 := fun x y H Q => ∃ a kvs, x = .non ∧ y = .ref a ∧ Rd H a (.dT kvs) ∧ Q (.bl neg) H
section
variable {X : Cx}
theorem op_inN (hu : X.A.units + 1 < cLine) : OpR X (compareOp .In) (rInN false) := by
  intro pins s σ H x y v u Q I rx ry h
  obtain ⟨a, kvs, rfl, rfl, g, q⟩ := h
  obtain rfl : u = Value.ref a := ry
  obtain rfl : v = Value.none := rx
  obtain ⟨z, hd, xs, rel, dd⟩ := dt_rd I.hok g
  show wpAny _ _ ((do return .bool (← contains (.ref a) .none)) : Sem Value) _ _ s
  exact wpAny_bind (contains_none hu hd dd (wpAny_pure ⟨.bl false, H, I.tok _, rfl, q⟩))
theorem op_notInN (hu : X.A.units + 1 < cLine) : OpR X (compareOp .NotIn) (rInN true) := by
  intro pins s σ H x y v u Q I rx ry h
  obtain ⟨a, kvs, rfl, rfl, g, q⟩ := h
  obtain rfl : u = Value.ref a := ry
  obtain rfl : v = Value.none := rx
  obtain ⟨z, hd, xs, rel, dd⟩ := dt_rd I.hok g
  show wpAny _ _ ((do return .bool (!(← contains (.ref a) .none))) : Sem Value) _ _ s
  exact wpAny_bind (contains_none hu hd dd (wpAny_pure ⟨.bl true, H, I.tok _, rfl, q⟩))
theorem s_ofOr {f2 : Value → Value → Sem Value} {h1 h2 : List D → Option SV} (o : OpS X f2 (oG h1)) (hs : ∀ pins s σ H x y v u Q, Inv X pins σ H s → RelV x v → RelV y u → (∃ β M ds s1, RwL X.K X.mg β M H [x, y] ds ∧ h2 ds = some s1 ∧ h1 ds ≠ some s1 ∧ FinG X.K X.mg β M H s1 Q) → wpAny (model X.prog X.w) X.A (f2 v u) (EP X pins σ Q) X.xe s) : OpS X f2 (oG h2) := by
  intro pins s σ H x y v u Q I rx ry w
  by_cases hw : ∃ β M ds s1, RwL X.K X.mg β M H [x, y] ds ∧ h2 ds = some s1 ∧ h1 ds ≠ some s1 ∧ FinG X.K X.mg β M H s1 Q
  · exact hs pins s σ H x y v u Q I rx ry hw
  · refine o pins s σ H x y v u Q I rx ry ?_
    obtain ⟨B, T, β, σ', ρ, st, svs, as, sv, st', p, e, q⟩ := w
    refine ⟨B, T, β, σ', ρ, st, svs, as, sv, st', p, ?_, q⟩
    unfold oG at e ⊢
    split at e
    · next s1 e1 =>
      split at e
      · next hr =>
        cases e
        by_cases e2 : h1 (svs.map (dS st)) = some sv
        · rw [e2]; simp only [hr, if_true]
        · exact absurd ⟨β, _, _, sv, p.rwl, e1, e2, p.fin hr q⟩ hw
      · cases e
    · cases e
theorem inN_core {neg : Bool} {f2 : Value → Value → Sem Value} (o : OpS X f2 (oIn neg)) (h : OpR X f2 (rInN neg)) : OpS X f2 (oInN neg) := s_ofOr o fun pins s σ H x y v u Q I rx ry ⟨β, M, ds, s1, r, e, ne, q⟩ => by
  unfold hInN at e
  split at e
  · next es =>
    cases e
    cases r with
    | cons r1 r => cases r with
      | cons r2 r =>
      obtain ⟨a, kvs, rfl, g1, g2⟩ := r2.dt
      exact h pins s σ H _ _ v u Q I rx ry ⟨a, kvs, r1.non, rfl, g1, q.same _ (.bl _)⟩
  · exact absurd e ne
theorem s_inN (hu : X.A.units + 65 < cLine) : OpS X (compareOp .In) (oInN false) := inN_core (s_in hu) (op_inN (by omega))
theorem s_notInN (hu : X.A.units + 65 < cLine) : OpS X (compareOp .NotIn) (oInN true) := inN_core (s_notIn hu) (op_notInN (by omega))
theorem oInN_b {neg : Bool} : ∀ svs st sv st', oInN neg svs st = some (sv, st') → ∃ b, sv = .sh (.bl b) := oG_b fun ds s e => by
  unfold hInN at e
  split at e
  · cases e; exact ⟨_, rfl⟩
  · unfold hIn at e
    split at e
    · next x y _ =>
      cases h : inD x y with
      | none => rw [h] at e; cases e
      | some b => rw [h] at e; cases e; exact ⟨_, rfl⟩
    · cases e
end
end PL

/-! PLDict: more of dicts. -/
namespace PL
open PySem PySem.Spec L2 SeqAt

/-! ### d == {} -/
section
variable {prog : Program} {w : World} {A : Around} {E : Value → Shared → Prop} {s : Shared} {a b : Addr} {es es' : Array DictEntry} {ep ep' : Nat}
theorem same_empty {nm : String} {Q : Bool → Shared → Prop} (ha : (a == sysModules) = false) (hb : (b == sysModules) = false) (da : s.heap.DictRaw a es ep) (db : s.heap.DictRaw b es' ep') (hz : es.size = 0 ∨ es'.size = 0)
    (h : Q (es.size == es'.size) s) : wpAny (model prog w) A (Builtin.Dict.samePairs nm a b) Q E s := by
  obtain ⟨oa, hoa, _, hda⟩ := da
  obtain ⟨ob, hob, _, hdb⟩ := db
  unfold Builtin.Dict.samePairs Builtin.Dict.showsAll
  rw [if_neg (show ¬ (a == sysModules) = true by rw [ha]; exact Bool.false_ne_true), if_neg (show ¬ (b == sysModules) = true by rw [hb]; exact Bool.false_ne_true)]
  refine wpAny_bind (wpAny_pure (wpAny_bind (wpAny_pure ?_)))
  refine wpAny_bind (wpAny_dictEntries hoa hda ?_)
  dsimp only
  refine wpAny_bind (wpAny_dictEntries hob hdb ?_)
  by_cases hsz : es.size = es'.size
  · have h0 : es.size = 0 := by omega
    rw [if_neg (by rw [hsz]; simp)]
    refine wpAny_bind (wpAny_dictEpoch hoa hda ?_)
    have hq : (es.size == es'.size) = true := by simpa using hsz
    rw [hq] at h
    rw [h0]
    simp [Std.Legacy.Range.forIn_eq_forIn_range', Std.Legacy.Range.size]
    exact wpAny_pure h
  · rw [if_pos (by simpa using hsz)]
    have hq : (es.size == es'.size) = false := by simpa using hsz
    rw [hq] at h
    exact wpAny_bind (wpAny_rule (wpAny_pure h))
theorem eq_empty {Q : Value → Shared → Prop} (ha : (a == sysModules) = false) (hb : (b == sysModules) = false) (da : s.heap.DictRaw a es ep) (db : s.heap.DictRaw b es' ep') (hz : es.size = 0 ∨ es'.size = 0) (hu : A.units < cLine)
    (h : Q (.bool (es.size == es'.size)) s) : wpAny (model prog w) A (compareOp .Eq (.ref a) (.ref b)) Q E s := by
  refine wpAny_richCompare_same_room (op := .Eq) da.typeIs db.typeIs F.slot_dict_eq (wpAny_call_entry F.slot_dict_eq da.typeIs F.entry_dict_eq ?_ (F.args_dict_eq_2 _ _)) hu
  show wpAny _ _ (Builtin.Dict.dictSlotArgs "__eq__" ⟨[.ref a, .ref b], []⟩ >>= _) _ _ s
  refine wpAny_bind ?_
  unfold Builtin.Dict.dictSlotArgs
  refine wpAny_bind (wpAny_notOrdered_dict da.typeIs ?_)
  show wpAny _ _ (pure (Value.ref a, Value.ref b)) _ _ s
  refine wpAny_pure ?_
  refine wpAny_bind (wpAny_isInstance (T := "dict") db.typeIs F.sub_dict_dict ?_)
  simp only [Bool.not_true, Bool.false_eq_true, if_false]
  refine wpAny_bind (wpAny_pure (wpAny_bind (wpAny_pure ?_)))
  refine wpAny_bind (same_empty ha hb da db hz ?_)
  refine wpAny_pure ⟨_, rfl, ?_, ?_⟩
  · exact fun x => nomatch x
  · simpa using h
theorem ne_empty {Q : Value → Shared → Prop} (ha : (a == sysModules) = false) (hb : (b == sysModules) = false) (da : s.heap.DictRaw a es ep) (db : s.heap.DictRaw b es' ep') (hz : es.size = 0 ∨ es'.size = 0) (hu : A.units < cLine)
    (h : Q (.bool (!(es.size == es'.size))) s) : wpAny (model prog w) A (compareOp .NotEq (.ref a) (.ref b)) Q E s := by
  refine wpAny_richCompare_same_room (op := .NotEq) da.typeIs db.typeIs F.slot_dict_ne (wpAny_call_entry F.slot_dict_ne da.typeIs F.entry_dict_ne ?_ (F.args_dict_ne_2 _ _)) hu
  show wpAny _ _ (Builtin.Dict.dictSlotArgs "__ne__" ⟨[.ref a, .ref b], []⟩ >>= _) _ _ s
  refine wpAny_bind ?_
  unfold Builtin.Dict.dictSlotArgs
  refine wpAny_bind (wpAny_notOrdered_dict da.typeIs ?_)
  show wpAny _ _ (pure (Value.ref a, Value.ref b)) _ _ s
  refine wpAny_pure ?_
  refine wpAny_bind (wpAny_isInstance (T := "dict") db.typeIs F.sub_dict_dict ?_)
  simp only [Bool.not_true, Bool.false_eq_true, if_false]
  refine wpAny_bind (wpAny_pure (wpAny_bind (wpAny_pure ?_)))
  refine wpAny_bind (same_empty ha hb da db hz ?_)
  refine wpAny_pure ⟨_, rfl, ?_, ?_⟩
  · exact fun x => nomatch x
  · simpa using h
end
/-- == of two dicts of which one has no entry -/
def dE : D → D → Option Bool
  | .dk es, .dk fs => if es.length = 0 ∨ fs.length = 0 then some (decide (es.length = fs.length)) else none
  | .dt es, .dt fs => if es.length = 0 ∨ fs.length = 0 then some (decide (es.length = fs.length)) else none
  | _, _ => none
def oEqE (neg : Bool) : Op := fun svs st => match svs with
  | [x, y] => (match dE x.d y.d with
    | some b => some (.sh (.bl (if neg then !b else b)), st)
    | none => oEq neg [x, y] st)
  | _ => none
section
variable {X : Cx}
theorem rw_rd {K : PySem.W.Frag} {mg : Str → Option Value} {β : List Addr} {M : Addr → Prop} {H : Hp} {x y : V} {d e : D} {b : Bool} (r1 : Rw K mg β M H x d) (r2 : Rw K mg β M H y e) (h : dE d e = some b) : ∃ a c u u', x = .ref a ∧ y = .ref c ∧ isD u ∧ isD u' ∧ Rd H a u ∧ Rd H c u' ∧ (entN u = 0 ∨ entN u' = 0) ∧ b = decide (entN u = entN u') := by
  unfold dE at h
  split at h
  · split at h
    · next hz =>
      cases h
      obtain ⟨a, kvs, rfl, h1, h2⟩ := r1.dk
      obtain ⟨c, lvs, rfl, h3, h4⟩ := r2.dk
      exact ⟨a, c, .dK kvs, .dK lvs, rfl, rfl, trivial, trivial, h1, h3, by simp only [entN, h2.length, h4.length]; exact hz, by simp only [entN, h2.length, h4.length]⟩
    · cases h
  · split at h
    · next hz =>
      cases h
      obtain ⟨a, kvs, rfl, h1, h2⟩ := r1.dt
      obtain ⟨c, lvs, rfl, h3, h4⟩ := r2.dt
      exact ⟨a, c, .dT kvs, .dT lvs, rfl, rfl, trivial, trivial, h1, h3, by simp only [entN, h2.length, h4.length]; exact hz, by simp only [entN, h2.length, h4.length]⟩
    · cases h
  · cases h
theorem dE_dS {st : Sto} {s t : SV} {b : Bool} (h : dE s.d t.d = some b) : dS st s = s.d ∧ dS st t = t.d := by
  constructor
  · unfold dS
    split
    · next n e => rw [e] at h; cases h
    · rfl
  · unfold dS
    split
    · next n e => rw [e] at h; unfold dE at h; split at h <;> simp_all
    · rfl
theorem s_eqE (hu : X.A.units + 64 < cLine) : OpS X (compareOp .Eq) (oEqE false) := by
  intro pins s σ H x y v u Q I rx ry h
  obtain ⟨B, T, β, σ', ρ, st, svs, as, sv, st', p, e, q⟩ := h
  unfold oEqE at e
  split at e
  case h_2 => cases e
  next sx sy =>
  split at e
  case h_2 => exact s_eq hu pins s σ H x y v u Q I rx ry ⟨B, T, β, σ', ρ, st, _, as, sv, st', p, e, q⟩
  next b eb =>
  cases e
  have r := p.rwl
  obtain ⟨d1, d2⟩ := dE_dS (st := st) eb
  cases r with
  | cons r1 r => cases r with
    | cons r2 r =>
    rw [d1] at r1
    rw [d2] at r2
    obtain ⟨a, c, w, w', rfl, rfl, h1, h2, h3, h4, h5, h6⟩ := rw_rd r1 r2 eb
    obtain rfl : v = Value.ref a := rx
    obtain rfl : u = Value.ref c := ry
    obtain ⟨g1, _, o1, es, ep, ho, hx, hd, hz, _⟩ := dict_raw I h1 h3
    obtain ⟨g2, _, o2, es2, ep2, ho2, hx2, hd2, hz2, _⟩ := dict_raw I h2 h4
    refine eq_empty g1 g2 ⟨o1, ho, hx, hd⟩ ⟨o2, ho2, hx2, hd2⟩ (by rw [hz, hz2]; exact h5) (by omega) ⟨.bl b, H, I, ?_, p.ret q (.bl b)⟩
    show Value.bool _ = Value.bool _
    rw [h6, hz, hz2]
    by_cases e : entN w = entN w' <;> simp [e]
theorem s_neE (hu : X.A.units + 64 < cLine) : OpS X (compareOp .NotEq) (oEqE true) := by
  intro pins s σ H x y v u Q I rx ry h
  obtain ⟨B, T, β, σ', ρ, st, svs, as, sv, st', p, e, q⟩ := h
  unfold oEqE at e
  split at e
  case h_2 => cases e
  next sx sy =>
  split at e
  case h_2 => exact s_ne hu pins s σ H x y v u Q I rx ry ⟨B, T, β, σ', ρ, st, _, as, sv, st', p, e, q⟩
  next b eb =>
  cases e
  have r := p.rwl
  obtain ⟨d1, d2⟩ := dE_dS (st := st) eb
  cases r with
  | cons r1 r => cases r with
    | cons r2 r =>
    rw [d1] at r1
    rw [d2] at r2
    obtain ⟨a, c, w, w', rfl, rfl, h1, h2, h3, h4, h5, h6⟩ := rw_rd r1 r2 eb
    obtain rfl : v = Value.ref a := rx
    obtain rfl : u = Value.ref c := ry
    obtain ⟨g1, _, o1, es, ep, ho, hx, hd, hz, _⟩ := dict_raw I h1 h3
    obtain ⟨g2, _, o2, es2, ep2, ho2, hx2, hd2, hz2, _⟩ := dict_raw I h2 h4
    refine ne_empty g1 g2 ⟨o1, ho, hx, hd⟩ ⟨o2, ho2, hx2, hd2⟩ (by rw [hz, hz2]; exact h5) (by omega) ⟨.bl (!b), H, I, ?_, p.ret q (.bl (!b))⟩
    show Value.bool _ = Value.bool _
    rw [h6, hz, hz2]
    by_cases e : entN w = entN w' <;> simp [e]
theorem oEqE_b {neg : Bool} : ∀ svs st sv st', oEqE neg svs st = some (sv, st') → ∃ b, sv = .sh (.bl b) := fun svs st sv st' e => by
  unfold oEqE at e
  split at e
  · split at e
    · cases e; exact ⟨_, rfl⟩
    · exact oEq_b _ _ _ _ e
  · cases e
end
end PL

/-! PLUpd: x.update(d). -/
namespace PL
open PySem PySem.Spec L2

/-- the hash of a tuple of ints -/
def intsK : List Key → Option (List Int)
  | [] => some []
  | .inl i :: r => (intsK r).map (i :: ·)
  | .inr _ :: _ => none
def hashI (ns : List Int) : Int := reduceHash (Builtin.Tuple.tupleHashOf (ns.map hashInt))
def hashesK : List (List Key) → Option (List Int)
  | [] => some []
  | k :: r => match intsK k, hashesK r with
    | some ns, some hs => some (hashI ns :: hs)
    | _, _ => none
def apartK (ks : List (List Key)) : Bool := match hashesK ks with
  | some hs => decide hs.Nodup
  | none => false
def mergeA {κ α : Type} [DecidableEq κ] (es fs : List (κ × α)) : List (κ × α) := fs.foldl (fun es p => putA es p.1 p.2) es
def fUpd : D → D → Option D
  | .dt fs, .dt es => if es.length + fs.length ≤ 16777216 ∧ (es.isEmpty = false ∨ apartK (fs.map (·.1)) = true) then some (.dt (mergeA es fs)) else none
  | .dk fs, .dk es => if es.length + fs.length ≤ 16777216 then some (.dk (mergeA es fs)) else none
  | _, _ => none
def sUpd (i : Nat) (p : P) : S := fun ρ st => match p ρ st with
  | none => none
  | some (s, st1) => match toSh s with
    | none => none
    | some y => match wrAt i (fUpd y) ρ st1 with
      | none => none
      | some (ρ2, st2) => some (.nx, ρ2, st2)
def mergeV {κ : Type} [DecidableEq κ] (es fs : List (κ × V)) : List (κ × V) := fs.foldl (fun es p => putK es p.1 p.2) es

section
variable {K : PySem.W.Frag} {mg : Str → Option Value} {β : List Addr} {M : Addr → Prop} {H : Hp}
theorem intsK_hash {w : World} {k : List Key} {ns : List Int} (e : intsK k = some ns) : k.map (keyH w) = ns.map hashInt := by
  induction k generalizing ns with
  | nil => cases e; rfl
  | cons x r ih => cases x with
    | inl i =>
      simp only [intsK] at e
      cases er : intsK r with
      | none => rw [er] at e; cases e
      | some ms => rw [er] at e; cases e; simp only [List.map_cons, ih er, keyH]
    | inr z => cases e
theorem hashesK_eq {prog : Program} {w : World} {ks : List (List Key)} {hs : List Int} (e : hashesK ks = some hs) : ks.map (tupleKeyHash (mixKind prog w)) = hs := by
  induction ks generalizing hs with
  | nil => cases e; rfl
  | cons k r ih =>
    simp only [hashesK] at e
    split at e
    · next ns hs' e1 e2 =>
      cases e
      rw [List.map_cons, ih e2]
      congr 1
      show reduceHash (Builtin.Tuple.tupleHashOf (k.map (keyH w))) = _
      rw [intsK_hash e1]; rfl
    · cases e
theorem apartK_nodup {prog : Program} {w : World} {ks : List (List Key)} (e : apartK ks = true) : (ks.map (tupleKeyHash (mixKind prog w))).Nodup := by
  unfold apartK at e
  split at e
  · next hs eh => rw [hashesK_eq eh]; exact of_decide_eq_true e
  · cases e
theorem rpt_merge {kvs lvs : List (List Key × V)} {es fs : List (List Key × D)} (h : RpT K mg β M H kvs es) (h2 : RpT K mg β M H lvs fs) : RpT K mg β M H (mergeV kvs lvs) (mergeA es fs) := by
  unfold mergeV mergeA
  induction lvs generalizing kvs es fs with
  | nil => cases h2; exact h
  | cons p r ih => cases h2 with
    | @cons k _ _ _ _ r1 r2 =>
      have z := @ih _ _ _ (rpt_put (k := k) r1 h) r2
      exact z
theorem rpk_merge {kvs lvs : List (Key × V)} {es fs : List (Key × D)} (h : RpK K mg β M H kvs es) (h2 : RpK K mg β M H lvs fs) : RpK K mg β M H (mergeV kvs lvs) (mergeA es fs) := by
  unfold mergeV mergeA
  induction lvs generalizing kvs es fs with
  | nil => cases h2; exact h
  | cons p r ih => cases h2 with
    | @cons k _ _ _ _ r1 r2 =>
      have z := @ih _ _ _ (rpk_put (k := k) r1 h) r2
      exact z
theorem kt_merge {kvs lvs : List (List Key × V)} {xs ys : List (List Key × Addr × Value)} (h : KT H kvs xs) (h2 : KT H lvs ys) : KT H (mergeV kvs lvs) (storedAllH xs ys) := by
  unfold mergeV storedAllH
  induction h2 generalizing kvs xs with
  | nil => exact h
  | @cons p q ps qs e t ih =>
    obtain ⟨e1, e2, e3⟩ := e
    have z := h.put p.1 e2 e3
    rw [List.foldl_cons, List.foldl_cons]
    rw [← e1]
    exact ih z
theorem kv_merge {κ : Type} [DecidableEq κ] {kvs lvs : List (κ × V)} {xs ys : List (κ × Value)} (h : KV kvs xs) (h2 : KV lvs ys) : KV (mergeV kvs lvs) (merged xs ys) := by
  unfold mergeV merged
  unfold KV at h2
  induction h2 generalizing kvs xs with
  | nil => exact h
  | @cons p q ps qs e t ih =>
    obtain ⟨e1, e3⟩ := e
    have z := h.put p.1 e3
    rw [List.foldl_cons, List.foldl_cons]
    rw [← e1]
    exact ih z
theorem mergeV_len {κ : Type} [DecidableEq κ] (kvs lvs : List (κ × V)) : (mergeV kvs lvs).length ≤ kvs.length + lvs.length := by
  unfold mergeV
  induction lvs generalizing kvs with
  | nil => simp
  | cons p r ih =>
    have h := ih (putK kvs p.1 p.2)
    have l := length_putK kvs p.1 p.2
    rw [List.foldl_cons, List.length_cons]
    omega
end
def rUpd : V → List V → Hp → VK → Prop := fun x vs H Q => ∃ a b, x = .ref a ∧ vs = [.ref b] ∧ a ≠ b ∧
  ((∃ kvs lvs, H a = some (.dT kvs) ∧ Rd H b (.dT lvs) ∧ kvs.length + lvs.length ≤ sizeLine ∧ (kvs ≠ [] ∨ apartK (lvs.map (·.1)) = true) ∧ Q .non (upd H a (.dT (mergeV kvs lvs)))) ∨
   ∃ kvs lvs, H a = some (.dK kvs) ∧ Rd H b (.dK lvs) ∧ kvs.length + lvs.length ≤ sizeLine ∧ Q .non (upd H a (.dK (mergeV kvs lvs))))
section
variable {X : Cx}
theorem mt_upd (hu : X.A.units + 1 < cLine) : MtR X "dict.update" rUpd := by
  intro pins s σ H x vs v us Q I rx rv h
  obtain ⟨a, b, rfl, rfl, hab, h⟩ := h
  obtain rfl : v = Value.ref a := rx
  obtain ⟨u, rfl, ru⟩ := rv.one
  obtain rfl : u = Value.ref b := ru
  rcases h with ⟨kvs, lvs, h1, h2, hz, hap, q⟩ | ⟨kvs, lvs, h1, h2, hz, q⟩
  · obtain ⟨z, hd, xs, rel, dd⟩ := dt_of I.hok h1
    obtain ⟨z2, hd2, ys, rel2, dd2⟩ := dt_rd I.hok h2
    have l1 := Paired.length rel
    have l2 := Paired.length rel2
    refine call_update_dictH (knd := tupleKind (mixKind X.prog X.w)) (tupleKind_room_in1 hu) hab hd2 dd dd2 ?_ (by omega) fun h' d1 d2 hs => ?_
    · rcases hap with hap | hap
      · exact .inl fun e => hap (List.length_eq_zero_iff.mp (by rw [l1, e]; rfl))
      · refine .inr ⟨fun y hy => ?_, ?_⟩
        · obtain ⟨o, es, ep, ho, hc, hdt, he, his, hn⟩ := dd2
          exact (his y hy).typeIs
        · have e : lvs.map (·.1) = ys.map (·.1) := by
            clear dd2 z2 hz hap q l2 h2
            induction rel2 with
            | nil => rfl
            | cons e t ih => rw [List.map_cons, List.map_cons, ih, e.1]
          have nd := apartK_nodup (prog := X.prog) (w := X.w) hap
          rw [e, List.map_map] at nd
          exact nd
    · have hl : (mergeV kvs lvs).length ≤ sizeLine := Nat.le_trans (mergeV_len _ _) hz
      refine ⟨.non, _, ?_, rfl, q⟩
      obtain ⟨q0, es, ep, hq, g2, g3, g4, g5, g6⟩ := d1
      refine d_write (t' := s.toks) I (by rw [h1]; exact True.intro) hs ⟨q0, hq⟩ ⟨hl, hd, _, (kt_merge rel rel2).keeps fun c ys ec => ?_, q0, es, ep, hq, g2, g3, g4, g6⟩
      rw [upd_ne (ne_of ec h1 (fun z => nomatch z))]
      exact ec
  · obtain ⟨z, hd, xs, rel, dd⟩ := dk_of I.hok h1
    obtain ⟨z2, hd2, ys, rel2, dd2⟩ := dk_rd I.hok h2
    have l1 := rel.length
    have l2 := rel2.length
    refine call_meetsIn F.slot_dict_update dd.typeIs F.entry_dict_update (F.args_dict_update_2 _ _) (meets_dict_update (mixKind X.prog X.w) a b hab hd2) ⟨_, _, dd, dd2, by omega, fun h' d1 d2 hs => ?_⟩
    have hl : (mergeV kvs lvs).length ≤ sizeLine := Nat.le_trans (mergeV_len _ _) hz
    refine ⟨.non, _, ?_, rfl, q⟩
    have he : ∃ q, h'.get? a = some q := let ⟨q, _, _, hq, _⟩ := d1; ⟨q, hq⟩
    exact d_write (t' := s.toks) I (by rw [h1]; exact True.intro) hs he (dk_new hl hd (kv_merge rel rel2) d1)
variable {p : P} {e : Expr} {x : Str} {p1 apos cpos pos : Pos}
theorem sx_upd (hu : X.A.units + 1 < cLine) (i : Nat) (he : PX X e p) (hN : X.N[i]? = some x := by rfl) (hv : Vis X.env.scope x := by first | exact Or.inl rfl | exact Or.inr (Or.inl rfl) | exact Or.inr (Or.inr rfl)) (hd : (x == ("__debug__" : Str)) = false := by decide) (hcd : (x == ("__classdict__" : Str)) = false := by decide)
    (hse : starEach [e] X.env = [(false, eval e X.env)] := by rfl) (hbase : attributeBase (.Name x p1) "update" X.env (eval (.Name x p1) X.env) = eval (.Name x p1) X.env := by rfl)
    (hfew : ((backTo cpos (starEach [e] X.env)).all (fun x => !x.1) && (backToKw cpos (keywordEach [] X.env)).all (fun x => x.1.isSome) && decide (([e] : List Expr).length + ([] : List Keyword).length + (if ([] : List Keyword).isEmpty then 0 else 1) < 30)) = true := by rfl)
    (hline : (apos.endLine == cpos.line) = true := by rfl) (hs : swapsWith (.Call (.Attribute (.Name x p1) "update" apos) [e] [] cpos) none pos.line X.env = pure false := by rfl) : SX X (.Expr (.Call (.Attribute (.Name x p1) "update" apos) [e] [] cpos) pos) (sUpd i p) :=
  (ps_expr (pe_bm F.plainAttrs_dict F.slot_dict_update F.type_dict_update (mt_upd hu) (pe_var hN hv hd hcd) (ax_cons he ax_nil hse) hbase hfew hline hse rfl) hs).imp fun D σ H w => by
  obtain ⟨B, T, β, ρ, st, fl, ρ', st', sr, e, q, r⟩ := w
  unfold sUpd at e
  split at e
  · cases e
  next s st1 e1 =>
  split at e
  · cases e
  next y ey =>
  split at e
  · cases e
  next ρ2 st2 ew =>
  cases e
  have dct : ∃ a, σ[i]? = some (some (.ref a)) ∧ tyV X.K "dict" (.ref a) H := by
    have ew' := ew
    unfold PL.wrAt at ew'
    split at ew'
    · next d e1 =>
      obtain ⟨a, ea, r⟩ := sr.ow i _ e1
      rcases r with ⟨_, _, e, _⟩ | ⟨kvs, _, _, e, _⟩ | ⟨kvs, _, _, e, _⟩
      · subst e
        split at ew'
        · next d' e2 => unfold fUpd at e2; split at e2 <;> simp_all
        · cases ew'
      · exact ⟨a, ea, .inr (.inr (.inl ⟨rfl, .inl ⟨_, e⟩⟩))⟩
      · exact ⟨a, ea, .inr (.inr (.inl ⟨rfl, .inr ⟨_, e⟩⟩))⟩
    · split at ew'
      · split at ew'
        · next d' e2 => unfold fUpd at e2; split at e2 <;> simp_all
        · cases ew'
      · cases ew'
    · cases ew'
  obtain ⟨a, ea, ty⟩ := dct
  refine ⟨_, ea, ty, B, T, β, ρ, st, [s], st1, sr, by simp [aCons, aNil, e1], fun ws H1 β1 as le fr P => ?_⟩
  have hl := RL.length P.rl
  match ws, hl with
  | [w], _ =>
  obtain ⟨a2, o, d, d', ea2, eo, ct, ef, ml, go⟩ := P.drop.wrAt ew
  rw [ea] at ea2; cases ea2
  have rp := P.shs1 ey
  have fin : ∀ {o'}, Plain o' → (∀ xs, o' ≠ .tup xs) → Ct X.K X.mg β1 (Ma B T β1 σ ρ) H1 (fun u => u = o') d' → D.nx σ (upd H1 a o') := fun ho hn c => by
    obtain ⟨s', so⟩ := go _ ho hn c
    exact (q σ _ β1 (LeS.wr (le.leS fun a m => absurd m (by simp)) ml so) s').1 rfl
  unfold fUpd at ef
  split at ef
  · next fs es =>
    split at ef
    case isFalse => cases ef
    next hk =>
    cases ef
    cases rp with
    | @dT b lvs _ h1 n1 r1 =>
      rcases ct with ⟨_, _, e5, _⟩ | ⟨_, _, e5, _⟩ | ⟨us, ds2, e5, e6, r5⟩
      · cases e5
      · cases e5
      · cases e5; subst e6
        refine ⟨a, b, rfl, rfl, fun z => n1 (by subst z; exact .inr (.inr ml)), .inl ⟨us, lvs, eo, h1, by rw [r5.length, r1.length, sizeLine_eq]; exact hk.1, ?_, fin trivial (fun xs z => by cases z) (.inr (.inr ⟨_, _, rfl, rfl, rpt_merge r5 r1⟩))⟩⟩
        rcases hk.2 with h | h
        · refine .inl fun z => ?_
          subst z
          cases r5
          cases h
        · refine .inr ?_
          have e : lvs.map (·.1) = fs.map (·.1) := by
            clear h hk fin h1 go ew ey
            induction lvs generalizing fs with
            | nil => cases r1; rfl
            | cons p r ih => cases r1 with
              | cons r1 r2 => rw [List.map_cons, List.map_cons, ih _ r2]
          rw [e]; exact h
  · next fs es =>
    split at ef
    case isFalse => cases ef
    next hk =>
    cases ef
    cases rp with
    | @dK b lvs _ h1 n1 r1 =>
      rcases ct with ⟨_, _, e5, _⟩ | ⟨us, ds2, e5, e6, r5⟩ | ⟨_, _, e5, _⟩
      · cases e5
      · cases e5; subst e6
        exact ⟨a, b, rfl, rfl, fun z => n1 (by subst z; exact .inr (.inr ml)), .inr ⟨us, lvs, eo, h1, by rw [r5.length, r1.length, sizeLine_eq]; exact hk, fin trivial (fun xs z => by cases z) (.inr (.inl ⟨_, _, rfl, rfl, rpk_merge r5 r1⟩))⟩⟩
      · cases e5
  · cases ef
end
end PL

/-! PLDcomp: dict comprehensions, the keys ints, texts or tuples of such. -/
namespace PL
open PySem PySem.Spec L2 PyProof.Rows

theorem empty_ok {P : Program} {w : World} {H : Hp} {o0 : HO} (h0 : o0 = .dK [] ∨ o0 = .dT []) (h : Heap) (hb : sysModules < h.objs.size) : ObjOk P w H (h.push { cls := .type "dict", data := .dict #[] }) h.objs.size o0 := by
  rcases h0 with rfl | rfl
  · exact dk_empty h hb
  · exact dt_empty h hb
theorem d_dictSetG {X : Cx} {pins : List (Addr × Obj)} {σ : L2.St} {H H' : Hp} {s : Shared} {E : Value → Shared → Prop} {D : Addr} {y v : V} {u r : Value} {Q : Unit → Shared → Prop} (hu : X.A.units < cLine) (I : Inv X pins σ H s) (g : DPut H D y v H')
    (ry : RelV y u) (rv : RelV v r) (h : ∀ s', Inv X pins σ H' s' → Q () s') : wpAny (model X.prog X.w) X.A (dictSet D u r) Q E s := by
  rcases g with ⟨ks, k, e, ey, l, eH⟩ | ⟨ks, k, b, e, ey, eb, l, eH⟩
  · subst ey eH
    exact d_dictSet I e l ry rv h
  · subst ey eH
    obtain rfl : u = .ref b := ry
    obtain ⟨z, hd, xs, rel, dq⟩ := dt_of I.hok e
    have hx : xs.length ≤ sizeLine := by rw [← Paired.length rel]; exact z
    have hl := length_putK ks k v
    refine wpAny_dictSet_heap (knd := tupleKind (mixKind X.prog X.w)) (hsz := hx) hu (key_of I.hok eb) dq fun h' dd' hs => h _ ?_
    obtain ⟨q, es, ep, hq, g2, g3, g4, _, g5⟩ := dd'
    refine d_write I (by rw [e]; exact True.intro) hs ⟨q, hq⟩ ⟨by omega, hd, _, (rel.put k eb rv).keeps fun c ys ec => ?_, q, es, ep, hq, g2, g3, g4, g5⟩
    rw [upd_ne (ne_of ec e fun w => nomatch w)]
    exact ec
section
variable {X : Cx}
def tDg (o0 : HO) (wi : TI) (g : TG) (tt : TT) (tk tv : TE) (vs : List Nat) : TE := fun σ H Q => wi σ H fun J H1 => ∀ D, H1 D = none → ∃ W : Nat → Nat → Hp → Prop, (∃ m, W 0 m (upd H1 D o0)) ∧ ∀ i m H, W i m H →
  (J.stop i H ∧ Q (.ref D) H) ∨ (J.go i H ∧ ∃ Nx : Hp → Prop, (∀ H2, Nx H2 → ∃ n, n < m ∧ W (i + 1) n H2) ∧ ∀ x H', J.yld i H x H' → g x (wipe σ vs) H' fun σ2 H2 => wipe σ2 vs = wipe σ vs ∧ tt σ2 H2 fun b H3 =>
    if b = true then tk σ2 H3 fun y H4 => tv σ2 H4 fun z H5 => ∃ H6, DPut H5 D y z H6 ∧ Nx H6 else Nx H3)
theorem dg_core {o0 : HO} {pns : List (Addr × Obj)} {s : Shared} {σ : L2.St} {H : Hp} {Q : VK} {kx vx tg iter : Expr} {ifs : List Expr} {scp : Scope} {owz : List (Str × Nat)} {pos pos' : Pos} {wq : TI} {g : TG} {tt : TT} {tk tv : TE} {use : Option (Value → Sem Unit)} {Qf : Value → Shared → Prop}
    (hu : X.A.units < cLine) (h0 : o0 = .dK [] ∨ o0 = .dT []) (hc : X.calm = true) (hN : X.N.Nodup) (Ia : Inv X pns σ H s) (hi : PI X tg iter wq) (ok : BlkOk X.N X.env.scope scp owz)
    (hg : ∀ (s : Shared) (H : Hp) (C : Addr) (cl : List (Str × Addr)) (fq : List Addr), PG (X.blk s H scp (compEnvC scp cl C X.env) fq) tg g) (ht : ∀ (s : Shared) (H : Hp) (C : Addr) (cl : List (Str × Addr)) (fq : List Addr), PTs (X.blk s H scp (compEnvC scp cl C X.env) fq) ifs tt)
    (hk : ∀ (s : Shared) (H : Hp) (C : Addr) (cl : List (Str × Addr)) (fq : List Addr), PE (X.blk s H scp (compEnvC scp cl C X.env) fq) kx tk)
    (he : ∀ (s : Shared) (H : Hp) (C : Addr) (cl : List (Str × Addr)) (fq : List Addr), PE (X.blk s H scp (compEnvC scp cl C X.env) fq) vx tv) (hs : ∀ x, foldedSetIterable iter X.env x = pure x)
    (h : tDg o0 wq g tt tk tv (owz.map (·.2)) σ H Q)
    (hend : ∀ Dn C s' m H', Inv X pns σ H' s' → Q (.ref Dn) H' → s'.heap.Ns C m → FpOk X pns H' C → compPost (model X.prog X.w) X.A X.xe use Qf (.ref Dn) C (.ok .next) s') :
    wpAny (model X.prog X.w) X.A (comprehension (.DictComp kx vx [⟨tg, iter, ifs, 0⟩] scp pos) scp X.env pos' newDict false (eval iter X.env) use) Qf X.xe s := by
  have hfr : ∀ y ∈ scp.names, y.2 = .free → ∃ c, X.env.cells.lookup y.1 = some c := fun y hy e => by
    rcases (ok.free y hy e) with k | k
    · exact Ia.ok.has _ (.inl k)
    · exact Ia.ok.has _ (.inr k)
  refine wpAny_comprehension_free (use := use) rfl hs (closure_ok hfr) ok.kind (fun y hy e => by rw [ok.uniq y hy, e])
    (thn (hi.run pns s σ H _ Ia h) fun xv sq1 hx => thn hx fun itv sq2 h2 => ?_)
  obtain ⟨it, fq, tz, J, Hq2, e, Iq2, T, stq2, fq2, q⟩ := h2
  subst e
  refine (wpAny_newObj_type (newEnv_comp ?_))
  generalize hD : sq2.heap.objs.size = Dn
  have hDn : Hq2 Dn = none := Iq2.hok.fresh (Nat.le_of_eq hD)
  obtain ⟨W, ⟨m0, w0⟩, trn⟩ := q Dn hDn
  -- the new list
  generalize hs3 : ({ sq2 with heap := sq2.heap.push { cls := .type "dict", data := Data.dict #[] } } : Shared) = sq3
  have Iq3 : Inv X pns σ (upd Hq2 Dn (o0)) sq3 := by
    rw [← hs3]
    refine Iq2.laid (t' := sq2.toks) (fun b o e => Heap.get?_push_of_some _ e) (Nat.le_of_eq hD) ?_
    rw [← hD]
    exact empty_ok h0 sq2.heap Iq2.big
  have h3 : sq3.heap = sq2.heap.push { cls := .type "dict", data := Data.dict #[] } := by rw [← hs3]
  have hsz : ∀ b ∈ fq, b < sq2.heap.objs.size := fun b hb => by
    obtain ⟨o, e, _⟩ := T.obj _ _ stq2 b hb
    exact Heap.lt_size e
  have fq3 : ∀ b ∈ fq, FpOk X pns (upd Hq2 Dn (o0)) b ∧ b < sq3.heap.objs.size := fun b hb => by
    have hless := hsz b hb
    refine ⟨⟨?_, (fq2 b hb).2⟩, by rw [h3, Heap.size_push]; exact Nat.lt_succ_of_lt hless⟩
    rw [upd_ne (by rw [← hD]; exact Nat.ne_of_lt hless)]
    exact (fq2 b hb).1
  have stq3 : tz 0 sq3.heap := T.keep _ _ _ stq2 fun b _ o e => by rw [h3]; exact Heap.get?_push_of_some _ e
  have Iq4 := block_start Iq3 ok hN fq3
  have pg := hg sq3 (upd Hq2 Dn (o0)) sq3.heap.objs.size (cellsFrom (sq3.heap.objs.size + 1) scp.names (cloFrom X.env.cells scp.names [])) fq
  have pt := ht sq3 (upd Hq2 Dn (o0)) sq3.heap.objs.size (cellsFrom (sq3.heap.objs.size + 1) scp.names (cloFrom X.env.cells scp.names [])) fq
  have pk := hk sq3 (upd Hq2 Dn (o0)) sq3.heap.objs.size (cellsFrom (sq3.heap.objs.size + 1) scp.names (cloFrom X.env.cells scp.names [])) fq
  have pe := he sq3 (upd Hq2 Dn (o0)) sq3.heap.objs.size (cellsFrom (sq3.heap.objs.size + 1) scp.names (cloFrom X.env.cells scp.names [])) fq
  show codeAny _ _ (.compStart (.DictComp kx vx [⟨tg, iter, ifs, 0⟩] scp pos) 0 (.ref it) (.ref Dn) (compEnvC scp (cellsFrom (sq3.heap.objs.size + 1) scp.names (cloFrom X.env.cells scp.names [])) sq3.heap.objs.size X.env)) (compPost (model X.prog X.w) X.A X.xe use Qf (.ref Dn) sq3.heap.objs.size) { sq3 with heap := pushCells (sq3.heap.push { cls := .type "dict", data := Data.dict #[] }) scp.names }
  have nfq : ∀ b ∈ fq, (upd Hq2 Dn (o0)) b = none := fun b hb => (fq3 b hb).1.1
  generalize hce : compEnvC scp (cellsFrom (sq3.heap.objs.size + 1) scp.names (cloFrom X.env.cells scp.names [])) sq3.heap.objs.size X.env = cz at Iq4 pg pt pk pe ⊢
  have cLo : cz.locals = sq3.heap.objs.size := by subst hce; rfl
  generalize hH3 : upd Hq2 Dn (o0) = Hq3 at Iq3 Iq4 pg pt pk pe w0 nfq fq3
  generalize hs4 : ({ sq3 with heap := pushCells (sq3.heap.push { cls := .type "dict", data := Data.dict #[] }) scp.names } : Shared) = sq4 at Iq4 ⊢
  have stq4 : tz 0 sq4.heap := T.keep _ _ _ stq3 fun b _ o e => by rw [← hs4]; exact pushCells_keeps _ _ _ _ (Heap.get?_push_of_some _ e)
  have stt : ∀ {σ' : L2.St} {H' : Hp} {s' : Shared}, Inv (X.blk sq3 Hq3 scp cz fq) [] σ' H' s' → (∀ b ∈ fq, H' b = none) → ∀ b ∈ fq, FpOk (X.blk sq3 Hq3 scp cz fq) [] H' b := fun {σ' H' s'} Ia' hn b hb =>
    ⟨hn b hb, (Ia'.ok.exf b hb).1, Ia'.ok.exfs b hb, .inl hb, fun x c e => (Ia'.ok.exf b hb).2 x c e, fun p hp => absurd (show p ∈ ([] : List (Addr × Obj)) ++ [] from hp) (by simp)⟩
  have lp : codeAny (model X.prog X.w) X.A (.compLoop (.DictComp kx vx [⟨tg, iter, ifs, 0⟩] scp pos) 0 (.ref it) (.ref Dn) cz) (compPost (model X.prog X.w) X.A X.xe use Qf (.ref Dn) sq3.heap.objs.size) sq4 := by
    refine compLoop_anyD (fun n s' => ∃ i H', Inv (X.blk sq3 Hq3 scp cz fq) [] (wipe σ (owz.map (·.2))) H' s' ∧ tz i s'.heap ∧ (∀ b ∈ fq, H' b = none) ∧ W i n H') ?_ m0 ⟨0, Hq3, Iq4, stq4, nfq, w0⟩
    rintro n sq5 ⟨i, Hq5, Iq5, stq5, n5, w5⟩
    rcases trn i n Hq5 w5 with ⟨stop, qq⟩ | ⟨go, Ny, hNy, step⟩
    · have td := T.done (X.blk sq3 Hq3 scp cz fq) rfl rfl rfl hc i [] sq5 _ Hq5 (fun _ _ => False) Iq5 (stt Iq5 n5) stq5 stop
      refine thnF td fun r sq6 ⟨hr, Iq6⟩ => ?_
      subst hr
      -- back in the def's context
      have Iq7 : Inv X pns σ Hq5 sq6 := Iq3.call' (ch := fq) Iq6.os Iq6.base Iq6.hok Iq6.bare fun b hb => ⟨(fq3 b hb).1.2.2.2.1, (fq3 b hb).1.2.1, (fq3 b hb).1.2.2.2.2.1, (fq3 b hb).1.2.2.2.2.2⟩
      have nC : Hq5 sq3.heap.objs.size = none := by
        have z : Hq5 cz.locals = none := Iq6.free
        rw [cLo] at z
        exact z
      obtain ⟨m, hn, _⟩ := Iq6.loc
      have hn : sq6.heap.Ns cz.locals m := hn
      rw [cLo] at hn
      exact hend Dn sq3.heap.objs.size sq6 m Hq5 Iq7 qq hn (Iq3.fpOk (Nat.le_refl _) nC)
    · have ti := T.item (X.blk sq3 Hq3 scp cz fq) rfl rfl rfl hc i [] sq5 _ Hq5 (fun _ _ => False) Iq5 (stt Iq5 n5) stq5 go
      refine thnF ti fun r sq6 ⟨u, hr, h6⟩ => ?_
      subst hr
      refine thnF h6 fun _ sq7 ⟨x, Hq7, Iq7, r7, y7, stq7, n7⟩ => ?_
      have Iq7' := Iq7.pinned (stt Iq7 n7) (T.obj _ _ stq7)
      refine thnF (pg.run _ sq7 _ Hq7 x u _ Iq7' r7 (step x Hq7 y7)) fun _ sq8 ⟨σq8, Hq8, Iq8, hw8, q8⟩ => ?_
      refine thnF (pt.run _ sq8 σq8 Hq8 _ Iq8 q8) fun b sq9 ⟨Hq9, Iq9, q9⟩ => ?_
      -- the trn's end
      have fin : ∀ {s' : Shared} {H' : Hp}, Inv (X.blk sq3 Hq3 scp cz fq) ([] ++ pinsAt fq sq7.heap) σq8 H' s' → Ny H' → ∃ m, m < n ∧ ∃ i H', Inv (X.blk sq3 Hq3 scp cz fq) [] (wipe σ (owz.map (·.2))) H' s' ∧ tz i s'.heap ∧ (∀ b ∈ fq, H' b = none) ∧ W i m H' := fun {s' H'} Ia' nx => by
        obtain ⟨m', hm, w'⟩ := hNy H' nx
        have pin' : ∀ b ∈ fq, ∀ o, sq7.heap.get? b = some o → s'.heap.get? b = some o ∧ H' b = none := fun b hb o e =>
          let z := Ia'.pin (b, o) (List.mem_append_right _ (List.mem_append_right _ (mem_pinsAt hb e)))
          ⟨z.1, z.2.1⟩
        have hl : (wipe σ (owz.map (·.2))).length = σq8.length := by rw [← hw8, wipe_length]
        refine ⟨m', hm, i + 1, H', (Ia'.unpinned (pins := [])).weak hl (fun j v e => ?_), T.keep _ _ _ stq7 fun b hb o e => (pin' b hb o e).1, fun b hb => ?_, w'⟩
        · rw [← hw8] at e
          exact (wipe_some e).1
        · obtain ⟨o, e, _⟩ := T.obj _ _ stq7 b hb
          exact (pin' b hb o e).2
      cases b with
      | false =>
        simp only [if_false, Bool.false_eq_true] at q9 ⊢
        exact fin Iq9 q9
      | true =>
        simp only [if_true] at q9 ⊢
        refine thnF (pk.run _ sq9 σq8 Hq9 _ Iq9 q9) fun z sq10 ⟨yk, Hq10, Iq10, r10, q10⟩ => ?_
        refine thnF (pe.run _ sq10 σq8 Hq10 _ Iq10 q10) fun z2 sq11 ⟨yv, Hq11, Iq11, r11, Hq12, dp, nx⟩ => ?_
        exact d_dictSetG (X := X.blk sq3 Hq3 scp cz fq) hu Iq11 dp r10 r11 fun sq12 Iq12 => fin Iq12 nx
  exact codeAny_compStart_dict lp (T.self X.A 0 _ _ _ stq4 lp)
theorem pe_dg {o0 : HO} {kx vx tg iter : Expr} {ifs : List Expr} {scp : Scope} {owz : List (Str × Nat)} {pos : Pos} {wq : TI} {g : TG} {tt : TT} {tk tv : TE} (hu : X.A.units < cLine) (h0 : o0 = .dK [] ∨ o0 = .dT []) (hc : X.calm = true) (hN : X.N.Nodup) (hi : PI X tg iter wq) (ok : BlkOk X.N X.env.scope scp owz)
    (hg : ∀ (s : Shared) (H : Hp) (C : Addr) (cl : List (Str × Addr)) (fq : List Addr), PG (X.blk s H scp (compEnvC scp cl C X.env) fq) tg g) (ht : ∀ (s : Shared) (H : Hp) (C : Addr) (cl : List (Str × Addr)) (fq : List Addr), PTs (X.blk s H scp (compEnvC scp cl C X.env) fq) ifs tt)
    (hk : ∀ (s : Shared) (H : Hp) (C : Addr) (cl : List (Str × Addr)) (fq : List Addr), PE (X.blk s H scp (compEnvC scp cl C X.env) fq) kx tk)
    (he : ∀ (s : Shared) (H : Hp) (C : Addr) (cl : List (Str × Addr)) (fq : List Addr), PE (X.blk s H scp (compEnvC scp cl C X.env) fq) vx tv) (hs : ∀ x, foldedSetIterable iter X.env x = pure x := by intro _; rfl) :
    PE X (.DictComp kx vx [⟨tg, iter, ifs, 0⟩] scp pos) (tDg o0 wq g tt tk tv (owz.map (·.2))) := by
  refine ⟨fun pns s σ H Q Ia h => ?_⟩
  rw [arm_eval_DictComp]
  refine dg_core hu h0 hc hN Ia hi ok hg ht hk he hs h fun Dn C s' m H' Ia' q hn f => ⟨m, hn, fun h'' sb => ?_⟩
  obtain ⟨fq0, fq1, fq2, fq3, fq4, fq5⟩ := f
  exact ⟨.ref Dn, H', Ia'.turned (t' := s'.toks) (fun b o hb e => (sb.2 b hb).trans e) fq0 fq1 fq3 fq4 fq5, rfl, q⟩
end
end PL

/-! PLDcomp2: dict comprehensions as pure functions. -/
namespace PL
open PySem PySem.Spec L2

def dcL (g : Tg) (c : Option P) (k v : P) (ρ : Lo) : List D → D → Sto → Option (D × Sto)
  | [], acc, st => some (acc, st)
  | d :: ds, acc, st => match g.f d ρ with
    | none => none
    | some ρ1 => match (match c with
        | none => some (true, st)
        | some c => match c ρ1 st with
          | none => none
          | some (x, st1) => match truth x with
            | none => none
            | some b => some (b, st1)) with
      | none => none
      | some (false, st1) => dcL g c k v ρ ds acc st1
      | some (true, st1) => match k ρ1 st1 with
        | none => none
        | some (ks, st2) => match v ρ1 st2 with
          | none => none
          | some (vs, st3) => match toSh vs with
            | none => none
            | some y => match fPut (dS st3 ks) y acc with
              | none => none
              | some acc' => dcL g c k v ρ ds acc' st3
/-- {k: v for g in s if c}; t: the keys are tuples -/
def pDc (t : Bool) (s : Src) (vs : List Nat) (g : Tg) (c : Option P) (k v : P) : P := fun ρ st => if clr vs ρ = true ∧ g.is.all (fun i => decide (i ∈ vs)) = true then
    match s ρ st with
    | none => none
    | some (ds, _, st1) => match dcL g c k v ρ ds (if t then .dt [] else .dk []) st1 with
      | none => none
      | some (d, st2) => some (.ow d, st2)
  else none
def o0 (t : Bool) : HO := if t then .dT [] else .dK []
section
variable {K : PySem.W.Frag} {mg : Str → Option Value} {β : List Addr} {M : Addr → Prop} {H : Hp}
theorem put_step {a : Addr} {o : HO} {d d' kd y : D} {w v : V} (ct : Ct K mg β M H (fun u => u = o) d) (eo : H a = some o) (rk : Rw K mg β M H w kd) (rv : Rp K mg β M H v y) (ef : fPut kd y d = some d') (hd : isDct d = true) :
    isDct d' = true ∧ ∃ o', DPut H a w v (upd H a o') ∧ Plain o' ∧ (∀ xs, o' ≠ .tup xs) ∧ Ct K mg β M H (fun u => u = o') d' := by
  unfold fPut at ef
  split at ef
  · cases hd
  · next es =>
    split at ef
    case isFalse => cases ef
    next hlt =>
    rcases ct with ⟨_, _, e5, _⟩ | ⟨us, ds2, e5, e6, r5⟩ | ⟨_, _, e5, _⟩
    · cases e5
    · cases e5; subst e6
      have hz : us.length < sizeLine := by rw [r5.length, sizeLine_eq]; exact hlt
      split at ef
      · next j =>
        cases ef
        obtain rfl := rk.int
        exact ⟨rfl, _, .k (k := .inl j) eo hz, trivial, fun xs z => (by cases z), .inr (.inl ⟨_, _, rfl, rfl, rpk_put rv r5⟩)⟩
      · next j =>
        cases ef
        obtain rfl := rk.str
        exact ⟨rfl, _, .k (k := .inr j) eo hz, trivial, fun xs z => (by cases z), .inr (.inl ⟨_, _, rfl, rfl, rpk_put rv r5⟩)⟩
      · cases ef
    · cases e5
  · next es =>
    split at ef
    case isFalse => cases ef
    next hlt =>
    split at ef
    case h_2 => cases ef
    next ks =>
    split at ef
    case h_2 => cases ef
    next kk ek =>
    cases ef
    obtain ⟨b, ws, rfl, h5, h6⟩ := rk.tup
    rcases ct with ⟨_, _, e5, _⟩ | ⟨_, _, e5, _⟩ | ⟨us, ds2, e5, e6, r5⟩
    · cases e5
    · cases e5
    · cases e5; subst e6
      exact ⟨rfl, _, .t eo (by rw [← key_vs ek h6]; exact h5) (by rw [r5.length, sizeLine_eq]; exact hlt), trivial, fun xs z => (by cases z), .inr (.inr ⟨_, _, rfl, rfl, rpt_put rv r5⟩)⟩
  · cases ef
theorem dc_of {t : Bool} {s : Src} {vs : List Nat} {g : Tg} {c : Option P} {k e : P} {σ : St} {H : Hp} {Q : VK} (w : TP K mg (pDc t s vs g c k e) σ H Q) : tUnlE (tDg (o0 t) (TIs K mg s) (TTg K mg g) (ttO K mg c) (TP K mg k) (TP K mg e) vs) σ H Q := by
  obtain ⟨B, T, β, ρ, st, sv, st', sr, eq, q⟩ := w
  unfold pDc at eq
  split at eq
  case isFalse => cases eq
  case isTrue hcl =>
  obtain ⟨hclr, hgis⟩ := hcl
  have hgs : ∀ i ∈ g.is, i ∈ vs := fun i hi => of_decide_eq_true (List.all_eq_true.mp hgis i hi)
  split at eq
  · cases eq
  next ds r st1 es =>
  split at eq
  · cases eq
  next dd st2 el =>
  cases eq
  refine ⟨B, T, β, ρ, st, ds, r, st1, sr, es, fun J H0 β1 as lk le1 fr1 s0 out1 hk it => ?_⟩
  obtain ⟨ls1, ls2, ls3⟩ := lk_start hk
  have s1 := s0.heap ls1 ls2 ls3
  generalize hH1 : lkH lk H0 = H1 at s1 it ⊢
  intro D0 hD
  have hB : ¬ B D0 := fun z => (s1.dom D0 (.inl z)).1 hD
  have hT0 : ¬ Tp T as D0 := fun z => (s1.dom D0 (.inr (.inl z))).1 hD
  have hDβ : D0 ∉ β1 := fun z => (s1.dom D0 (.inr (.inr (.inl z)))).1 hD
  have hT2 : ∀ a, Tp (Tp T as) [D0] a ↔ (Tp T as a ∨ a = D0) := fun a => by simp [Tp]
  have ho0 : Plain (o0 t) ∧ ∀ xs, o0 t ≠ .tup xs := by unfold o0; cases t <;> exact ⟨trivial, fun xs z => by cases z⟩
  let W : Nat → Hp → Prop := fun i H2 => ∃ β2 st3 o acc, SR K mg B (Tp (Tp T as) [D0]) β2 σ H2 ρ st3 ∧ Le (fun a => a ∈ β1) β1 H1 β2 H2 ∧ H2 D0 = some o ∧ Ct K mg β2 (Ma B (Tp (Tp T as) [D0]) β2 σ ρ) H2 (fun u => u = o) acc ∧ isDct acc = true ∧
    dcL g c k e ρ (ds.drop i) acc st3 = some (dd, st')
  refine ⟨fun i m H2 => i + m = ds.length ∧ W i H2, ⟨ds.length, by omega, β1, st1, o0 t, _, ?_, up_le hD fun a m => m, upd_same, ?_, ?_, by simpa using el⟩, ?_⟩
  · refine s1.grow (up_ex hD) fun a z => ?_
    rcases (hT2 a).mp z with z | z
    · exact .inl z
    · subst z
      exact .inr ⟨hD, up_nt ho0.1 ho0.2⟩
  · unfold o0
    cases t
    · exact .inr (.inl ⟨[], [], rfl, rfl, .nil⟩)
    · exact .inr (.inr ⟨[], [], rfl, rfl, .nil⟩)
  · cases t <;> rfl
  rintro i m H2 ⟨him, β2, st3, o, acc, s2, le2, hD2, ct2, hacc, el2⟩
  have tr2 : Tr (Ma B (Tp T as) β1 σ ρ) (Ma B (Tp (Tp T as) [D0]) β2 σ ρ) H1 H2 := le2.tr (fun a z => .inr (.inr (.inl z))) (fun a m => (s1.dom a m).2) fun a e n n' z => by
    rcases z with z | z | z | z
    · exact n (.inl z)
    · rcases (hT2 a).mp z with z | z
      · exact n (.inr (.inl z))
      · subst z; exact e hD
    · exact n' z
    · exact n (.inr (.inr (.inr z)))
  have q2 := it i β2 _ H2 le2.pre (fun a u e n => le2.ex a u e fun z => n (.inl z)) tr2
  by_cases hlt : i < ds.length
  · have hd : ds.drop i = ds[i] :: ds.drop (i + 1) := List.drop_eq_getElem_cons hlt
    rw [hd] at el2
    simp only [dcL] at el2
    have hgo := q2.1 ds[i] (List.getElem?_eq_getElem hlt)
    split at el2
    · cases el2
    next ρ1 eg =>
    refine .inr ⟨hgo.1, W (i + 1), fun H4 w4 => ⟨m - 1, by omega, by omega, w4⟩, fun x H3 y => ?_⟩
    obtain ⟨ex3, r3⟩ := hgo.2 x H3 y
    have s3 := s2.grow (T' := Tp (Tp T as) [D0]) ex3 fun a z => .inl z
    obtain ⟨sw, ow⟩ := s3.back (σ := wipe σ vs) (ρ := ρ) (is := vs) hclr (wipe_length _ _) rfl (fun j hj => wipe_out hj) fun _ _ => rfl
    have subw : ∀ a, Ma B (Tp (Tp T as) [D0]) β2 (wipe σ vs) ρ a → Ma B (Tp (Tp T as) [D0]) β2 σ ρ a := fun a m => by
      rcases m with m | m | m | m
      · exact .inl m
      · exact .inr (.inl m)
      · exact .inr (.inr (.inl m))
      · exact .inr (.inr (.inr (ow a m)))
    refine ⟨B, Tp (Tp T as) [D0], β2, ρ, st3, ds[i], ρ1, sw, r3.tr (Tr.sub subw) (List.prefix_refl _), eg, fun σ4 s4 l4 k4 => ?_⟩
    have kσ : ∀ j, j ∉ vs → σ4[j]? = σ[j]? := fun j hj => by rw [k4.2 j fun z => hj (hgs j z), wipe_out hj]
    have lσ : σ4.length = σ.length := by rw [k4.1, wipe_length]
    obtain ⟨lρ, kρ⟩ := g.ok _ _ _ eg
    refine ⟨wipe_eq lσ kσ, ?_⟩
    have le3 : Le (fun a => a ∈ β1) β1 H1 β2 H3 := ⟨fun a u e n => ex3 a u (le2.ex a u e n), le2.pre, le2.out⟩
    have hD3 : H3 D0 = some o := ex3 _ _ hD2
    have nDβ2 : D0 ∉ β2 := fun z => s2.βT D0 z ((hT2 D0).mpr (.inr rfl))
    have backTo : ∀ {β6 H6 st6}, SR K mg B (Tp (Tp T as) [D0]) β6 σ4 H6 ρ1 st6 → SR K mg B (Tp (Tp T as) [D0]) β6 σ H6 ρ st6 ∧ ∀ a, own σ ρ a → own σ4 ρ1 a := fun h =>
      h.back (σ := σ) (ρ := ρ) (is := vs) hclr lσ.symm lρ.symm (fun j hj => (kσ j hj).symm) fun j hj => (kρ j fun z => hj (hgs j z)).symm
    have carry : ∀ {β6 H6}, Le (fun a => a ∈ β2) β2 H3 β6 H6 → Ct K mg β6 (Ma B (Tp (Tp T as) [D0]) β6 σ ρ) H6 (fun u => u = o) acc := fun {β6 H6} l => by
      refine Ct.tr ⟨fun a u e _ n => ?_, fun a xs e => ?_, fun a e n z => ?_⟩ l.pre ct2 fun u _ z => z
      · exact ex_rd (fun u e => l.ex a u (ex3 a u e) fun z => n (.inr (.inr (.inl z)))) e
      · exact l.ex a _ (ex3 a _ e) fun z => (s2.dom a (.inr (.inr (.inl z)))).2 xs (.inl e)
      · rcases z with z | z | z | z
        · exact n (.inl z)
        · exact n (.inr (.inl z))
        · cases e' : H2 a with
          | none => exact e e'
          | some u => exact l.out a (by rw [ex3 a u e']; simp) (fun z => n (.inr (.inr (.inl z)))) z
        · exact n (.inr (.inr (.inr z)))
    have elem : ∀ st5 H5 β5, Le (fun a => a ∈ β2) β2 H3 β5 H5 → SR K mg B (Tp (Tp T as) [D0]) β5 σ4 H5 ρ1 st5 → (match k ρ1 st5 with
        | none => none
        | some (ks, st2) => match e ρ1 st2 with
          | none => none
          | some (vs, st3) => match toSh vs with
            | none => none
            | some y => match fPut (dS st3 ks) y acc with
              | none => none
              | some acc' => dcL g c k e ρ (ds.drop (i + 1)) acc' st3) = some (dd, st') → TP K mg k σ4 H5 fun x H4 => TP K mg e σ4 H4 fun y H5 => ∃ H6, DPut H5 D0 x y H6 ∧ W (i + 1) H6 := fun st5 H5 β5 le5 s5 ee => by
      split at ee
      · cases ee
      next ks st6 e6 =>
      split at ee
      · cases ee
      next vs6 st7 e7 =>
      split at ee
      · cases ee
      next yd ey =>
      split at ee
      · cases ee
      next acc' ea =>
      refine TP.mono (fun x H4 q4 => TP.mono (fun y H6 q6 => ?_) (ar_cons q4)) (ar_cons (f := k) (g := a1 e) (Q := fun us H6 => ∃ x y, us = [x, y] ∧ ∃ H7, DPut H6 D0 x y H7 ∧ W (i + 1) H7) ⟨B, _, β5, ρ1, st5, [ks, vs6], st7, s5, by simp [aCons, aNil, e6, e7], fun us H6 β6 as6 le6 fr6 p6 => ?_⟩)
      · obtain ⟨x', y', e8, q8⟩ := ar_nil q6
        cases e8
        exact q8
      obtain ⟨x, y, rfl⟩ := p6.rl.two2
      refine ⟨x, y, rfl, ?_⟩
      have le56 : Le (fun a => a ∈ β2) β2 H3 β6 H6 := le_chain le5 le6
      have hD6 : H6 D0 = some o := le56.ex _ _ hD3 nDβ2
      have d6 := p6.drop
      obtain ⟨b60, o6⟩ := backTo d6
      have sub4 : ∀ a, Ma B (Tp (Tp T as) [D0]) β6 σ ρ a → Ma B (Tp (Tp T as) [D0]) β6 σ4 ρ1 a := fun a m => by
        rcases m with m | m | m | m
        · exact .inl m
        · exact .inr (.inl m)
        · exact .inr (.inr (.inl m))
        · exact .inr (.inr (.inr (o6 a m)))
      have rv : Rp K mg β6 (Ma B (Tp (Tp T as) [D0]) β6 σ ρ) H6 y yd := by
        obtain ⟨a1, as2, e9, _, r9⟩ := p6.split1
        obtain ⟨_, _, e10, r10, _⟩ := RL.first r9
        have z := RL.shs p6.out r10 (fun a m => by rw [e9, e10]; exact List.mem_append_right _ (List.mem_append_left _ m)) (ds := [yd]) (by simp [toShs, ey])
        cases z with
        | cons z _ => exact z.tr (Tr.sub sub4) (List.prefix_refl _)
      have rk : Rw K mg β6 (Ma B (Tp (Tp T as) [D0]) β6 σ ρ) H6 x (dS st7 ks) := by
        have z := p6.rwl
        cases z with
        | cons z _ =>
          have sb : ∀ a, Ma B (Tp (Tp T as) [D0]) β6 σ ρ a → Ma B (Tp (Tp (Tp T as) [D0]) as6) β6 σ4 ρ1 a := fun a m => ma_sub a (sub4 a m)
          rcases z with z | ⟨b, rfl, z⟩
          · exact .inl (z.tr (Tr.sub sb) (List.prefix_refl _))
          · exact .inr ⟨b, rfl, Ct.tr (Tr.sub sb) (List.prefix_refl _) z fun u _ z => z⟩
      obtain ⟨hd', o', dp, pl, nt, ct'⟩ := put_step (carry le56) hD6 rk rv ea hacc
      refine ⟨_, dp, ?_⟩
      have w6 := d6.wrT (D0 := D0) (o' := o') ((hT2 D0).mpr (.inr rfl)) hB hD6 pl nt
      obtain ⟨b6, _⟩ := backTo w6
      have trD : Tr (Ma B (Tp (Tp T as) [D0]) β6 σ ρ) (Ma B (Tp (Tp T as) [D0]) β6 σ ρ) H6 (upd H6 D0 o') := ⟨fun a u e _ n => rd_up (fun z => by subst z; exact n (.inr (.inl ((hT2 _).mpr (.inr rfl))))) e, fun a xs e => (by
        rw [upd_ne (fun z => by
          subst z
          exact (d6.dom _ (.inr (.inl ((hT2 _).mpr (.inr rfl))))).2 xs (.inl e))]
        exact e), fun a _ n => n⟩
      refine ⟨β6, st7, o', acc', b6, ⟨fun a u e n => ?_, le3.pre.trans le56.pre, fun a e n => ?_⟩, upd_same, Ct.tr trD (List.prefix_refl _) ct' (fun u _ z => z), hd', ee⟩
      · rw [upd_ne (fun z => by subst z; rw [hD] at e; cases e)]
        exact le56.ex a u (le3.ex a u e n) (le3.out a (by rw [e]; simp) n)
      · cases e' : H1 a with
        | none => exact absurd e' e
        | some u => exact le56.out a (by rw [le3.ex a u e' n]; simp) (le3.out a e n)
    have skip : ∀ st5 H5 β5, Le (fun a => a ∈ β2) β2 H3 β5 H5 → SR K mg B (Tp (Tp T as) [D0]) β5 σ4 H5 ρ1 st5 → dcL g c k e ρ (ds.drop (i + 1)) acc st5 = some (dd, st') → W (i + 1) H5 := fun st5 H5 β5 le5 s5 ee => by
      obtain ⟨b5, o5⟩ := backTo s5
      refine ⟨β5, st5, o, acc, b5, ⟨fun a u e n => le5.ex a u (le3.ex a u e n) (le3.out a (by rw [e]; simp) n), le3.pre.trans le5.pre, fun a e n => ?_⟩, le5.ex _ _ hD3 nDβ2, carry le5, hacc, ee⟩
      cases e' : H1 a with
      | none => exact absurd e' e
      | some u => exact le5.out a (by rw [le3.ex a u e' n]; simp) (le3.out a e n)
    cases c with
    | none =>
      simp only at el2
      have z := elem st3 H3 β2 (Le.refl fun a m => m) s4 el2
      exact iteT (B := W (i + 1) H3) z
    | some c =>
      simp only at el2
      split at el2
      · cases el2
      · next st5 ec =>
        split at ec
        · cases ec
        · next x5 st6 ec2 =>
          split at ec
          · cases ec
          · next b et =>
            cases ec
            exact ⟨B, _, β2, ρ1, st3, x5, _, false, s4, ec2, et, fun H5 β5 le5 s5 => iteF (skip _ H5 β5 le5 s5 el2)⟩
      · next st5 ec =>
        split at ec
        · cases ec
        · next x5 st6 ec2 =>
          split at ec
          · cases ec
          · next b et =>
            cases ec
            exact ⟨B, _, β2, ρ1, st3, x5, _, true, s4, ec2, et, fun H5 β5 le5 s5 => iteT (elem _ H5 β5 le5 s5 el2)⟩
  · have hd : ds.drop i = [] := List.drop_eq_nil_of_le (by omega)
    rw [hd] at el2
    cases el2
    have P2 : Po K mg B (Tp T as) β2 σ H2 ρ st' [.ref D0] [.ow dd] [D0] := ⟨s2, by simp, fun a m z => ?_, .ow (Ct.tr (Tr.sub fun a m => m) (List.prefix_refl _) ct2 fun u _ z => by subst z; exact hD2) .nil⟩
    rw [← hH1] at le2
    obtain ⟨e1, e2, e3, e4, e5⟩ := lk_endE (bs := [D0]) hk le2 fun a m => by
      have ea : a = D0 := by simpa using m
      subst ea; rw [hH1]; exact hD
    have hD0 : H0 D0 = none := by
      rw [← hH1] at hD
      cases lk with
      | none => exact hD
      | some l =>
        have hD : upd H0 l.d _ D0 = none := hD
        by_cases ea : D0 = l.d
        · subst ea; rw [upd_same] at hD; cases hD
        · rw [upd_ne ea] at hD; exact hD
    have P3 := P2.heap e1 e2 e3
    refine .inl ⟨q2.2 (by omega), unH lk H2, e5 le1, q (.ref D0) _ β2 [D0] ⟨fun a u e n => ?_, le1.pre.trans e4.pre, fun a e n => ?_⟩ (fun a m => ?_) ⟨P3.sr.weak (fun a z => .inl z) fun a z => ?_, by simp, fun a m z => ?_, RL.tr (Tr.sub fun a m => ?_) (List.prefix_refl _) (fun a _ n1 n2 => ⟨fun u z => z, n1, fun z => n2 ?_⟩) P3.rl fun a _ u z => z⟩⟩
    · exact e4.ex a u (le1.ex a u e n) (le1.out a (by rw [e]; simp) n)
    · cases e' : H a with
      | none => exact absurd e' e
      | some u => exact e4.out a (by rw [le1.ex a u e' n]; simp) (le1.out a e n)
    · have ea : a = D0 := by simpa using m
      subst ea
      exact pos_mem (SR.βne sr) le1 (SR.βne s0) hD0
    · rcases z with z | z
      · exact .inl (.inl z)
      · exact .inr z
    · have ea : a = D0 := by simpa using m
      subst ea
      rcases z with z | z | z | z
      · exact hB z
      · exact hT0 (.inl z)
      · exact s2.βT a z ((hT2 a).mpr (.inr rfl))
      · exact s2.ownT a z ((hT2 a).mpr (.inr rfl))
    · rcases m with m | (m | m) | m
      · exact .inl m
      · exact .inr (.inl (.inl (.inl m)))
      · exact .inr (.inl (.inr m))
      · exact .inr (.inr m)
    · rcases z with z | z
      · exact .inl (.inl z)
      · exact .inr z
    · have ea : a = D0 := by simpa using m
      subst ea
      rcases z with z | z | z | z
      · exact hB z
      · exact hT0 z
      · exact s2.βT a z ((hT2 a).mpr (.inr rfl))
      · exact s2.ownT a z ((hT2 a).mpr (.inr rfl))
end
section
variable {X : Cx} {kx vx tg iter c : Expr} {scope : Scope} {own : List (Str × Nat)} {pos : Pos} {s : Src} {g : Tg} {p k q : P}
theorem o0_or (t : Bool) : o0 t = .dK [] ∨ o0 t = .dT [] := by cases t <;> simp [o0]
/-- {k: v for tg in iter} -/
theorem px_dc0 (t : Bool) (hu : X.A.units < cLine) (hc : X.calm = true) (hN : X.N.Nodup) (hi : IX X tg iter s) (ok : BlkOk X.N X.env.scope scope own) (hg : ∀ (s : Shared) (H : Hp) (C : Addr) (cl : List (Str × Addr)) (fp : List Addr), GX (X.blk s H scope (compEnvC scope cl C X.env) fp) tg g)
    (hk : ∀ (s : Shared) (H : Hp) (C : Addr) (cl : List (Str × Addr)) (fp : List Addr), PX (X.blk s H scope (compEnvC scope cl C X.env) fp) kx k)
    (he : ∀ (s : Shared) (H : Hp) (C : Addr) (cl : List (Str × Addr)) (fp : List Addr), PX (X.blk s H scope (compEnvC scope cl C X.env) fp) vx p) (hs : ∀ x, foldedSetIterable iter X.env x = pure x := by intro _; rfl) :
    PX X (.DictComp kx vx [⟨tg, iter, [], 0⟩] scope pos) (pDc t s (own.map (·.2)) g none k p) := (pe_unl (pe_dg hu (o0_or t) hc hN hi ok hg (fun _ _ _ _ _ => pts_nil) hk he hs)).imp fun _ _ _ w => dc_of w
/-- {k: v for tg in iter if c} -/
theorem px_dc1 (t : Bool) (hu : X.A.units < cLine) (hc : X.calm = true) (hN : X.N.Nodup) (hi : IX X tg iter s) (ok : BlkOk X.N X.env.scope scope own) (hg : ∀ (s : Shared) (H : Hp) (C : Addr) (cl : List (Str × Addr)) (fp : List Addr), GX (X.blk s H scope (compEnvC scope cl C X.env) fp) tg g)
    (ht : ∀ (s : Shared) (H : Hp) (C : Addr) (cl : List (Str × Addr)) (fp : List Addr), TX (X.blk s H scope (compEnvC scope cl C X.env) fp) c q)
    (hk : ∀ (s : Shared) (H : Hp) (C : Addr) (cl : List (Str × Addr)) (fp : List Addr), PX (X.blk s H scope (compEnvC scope cl C X.env) fp) kx k)
    (he : ∀ (s : Shared) (H : Hp) (C : Addr) (cl : List (Str × Addr)) (fp : List Addr), PX (X.blk s H scope (compEnvC scope cl C X.env) fp) vx p) (hs : ∀ x, foldedSetIterable iter X.env x = pure x := by intro _; rfl) :
    PX X (.DictComp kx vx [⟨tg, iter, [c], 0⟩] scope pos) (pDc t s (own.map (·.2)) g (some q) k p) := (pe_unl (pe_dg hu (o0_or t) hc hN hi ok hg (fun s H C cl fp => pts_one (ht s H C cl fp)) hk he hs)).imp fun _ _ _ w => dc_of w
end
end PL

/-! PLPairs: dict([(k, v), ..]) with keys that are tuples; a display of one pair; list(d.values()). -/
namespace PL
open PySem PySem.Spec L2

def pairsT : List D → Option (List (List Key × D))
  | [] => some []
  | .tup [.tup ks, v] :: r => (match keyD ks, pairsT r with
    | some k, some es => some ((k, v) :: es)
    | _, _ => none)
  | _ :: _ => none
def hDictT : List D → Option SV
  | [.lst ds] => if ds.length ≤ 16777216 then (match pairsT ds with
    | some es => some (.ow (.dt (mergeA [] es)))
    | none => none) else none
  | _ => none
def oDictT : Op := oG hDictT
/-- a row: the pair's address, the key, the key's address, the value -/
structure Prw where
  a : Addr
  k : List Key
  c : Addr
  v : V
section
variable {K : PySem.W.Frag} {mg : Str → Option Value} {β : List Addr} {M : Addr → Prop} {H : Hp}
theorem rows_of {ds : List D} {es : List (List Key × D)} (e : pairsT ds = some es) {vs : List V} (r : RpL K mg β M H vs ds) : ∃ rows : List Prw, vs = rows.map (fun r => V.ref r.a) ∧ RpT K mg β M H (rows.map fun r => (r.k, r.v)) es ∧
    ∀ r ∈ rows, H r.a = some (.tup [.ref r.c, r.v]) ∧ H r.c = some (.tup (r.k.map kV)) := by
  induction ds generalizing es vs with
  | nil =>
    cases e; cases r
    exact ⟨[], rfl, .nil, fun r h => absurd h (by simp)⟩
  | cons d ds ih =>
    unfold pairsT at e
    split at e
    · next h => cases h
    · next ks v r' h =>
      cases h
      split at e
      · next k es' e1 e2 =>
        cases e
        cases r with
        | cons r1 r2 =>
        obtain ⟨rows, h1, h2, h3⟩ := ih e2 r2
        cases r1 with
        | @tup a ws _ ha rw1 =>
        cases rw1 with
        | cons q1 q2 => cases q2 with
          | @cons v2 _ _ _ q2 q3 =>
          cases q3
          cases q1 with
          | @tup c us _ hc rc =>
          refine ⟨⟨a, k, c, v2⟩ :: rows, by rw [h1]; rfl, .cons q2 h2, fun r hr => ?_⟩
          rcases List.mem_cons.mp hr with rfl | hr
          · exact ⟨ha, by rw [← key_vs e1 rc]; exact hc⟩
          · exact h3 r hr
      · cases e
    · cases e
theorem refs_v : ∀ {rows : List Prw} {us : List Value}, Vals (rows.map fun r => V.ref r.a) us → us = rows.map fun r => Value.ref r.a
  | [], us, r => by rw [List.map_nil] at r; cases r; rfl
  | p :: ps, us, r => by
    rw [List.map_cons] at r
    cases r with
    | cons h t => cases h; rw [List.map_cons, ← refs_v t]
theorem prw_vals {X : Cx} {pins : List (Addr × Obj)} {σ : St} {s : Shared} (I : Inv X pins σ H s) : ∀ rows : List Prw, (∀ r ∈ rows, H r.a = some (.tup [.ref r.c, r.v]) ∧ H r.c = some (.tup (r.k.map kV))) →
    ∃ ps : List (List Key × Addr × Value), KT H (rows.map fun r => (r.k, r.v)) ps ∧ ps.length = rows.length ∧ ∀ (j : Nat) (r : Prw) (p : List Key × Addr × Value), rows[j]? = some r → ps[j]? = some p → PairAt s.heap r.a (.ref p.2.1) p.2.2
  | [], _ => ⟨[], .nil, rfl, fun j r p e => by simp at e⟩
  | r :: rows, h => by
    obtain ⟨ps, h1, h2, h3⟩ := prw_vals I rows fun r hr => h r (List.mem_cons_of_mem _ hr)
    obtain ⟨g1, g2⟩ := h r List.mem_cons_self
    obtain ⟨its, rv, ti, _⟩ := I.tuple (.inl (.inl g1))
    cases rv with
    | cons q1 q2 => cases q2 with
      | @cons _ u _ _ q2 q3 =>
      cases q3
      cases q1
      refine ⟨(r.k, r.c, u) :: ps, .cons ⟨rfl, g2, q2⟩ h1, by simp [h2], fun j r' p e1 e2 => ?_⟩
      cases j with
      | zero =>
        simp only [List.getElem?_cons_zero, Option.some.injEq] at e1 e2
        subst e1; subst e2
        obtain ⟨o, ho, hc, n, hd⟩ := ti
        exact .inl ⟨o, ho, hc, n, hd⟩
      | succ j =>
        simp only [List.getElem?_cons_succ] at e1 e2
        exact h3 j r' p e1 e2
theorem kt_nil_merge {kvs : List (List Key × V)} {ys : List (List Key × Addr × Value)} (h2 : KT H kvs ys) : KT H (mergeV [] kvs) (storedAllH [] ys) := kt_merge .nil h2
end
section
variable {X : Cx}
theorem s_dictT (hu : X.A.units + 2 < cLine) (hc : X.calm = true) : CallS X (.type "dict") oDictT := by
  intro pins s σ H xs us Q I rv w
  obtain ⟨β, M, ds0, s1, r, e, q⟩ := sim_g w
  unfold hDictT at e
  split at e
  case h_2 => cases e
  next ds =>
  split at e
  case isFalse => cases e
  next hz =>
  split at e
  case h_2 => cases e
  next es ep =>
  cases e
  obtain ⟨v, rfl, r1⟩ := r.one
  obtain ⟨u, rfl, ru⟩ := vals1 rv
  obtain ⟨a, vs, rfl, h1, h2⟩ := r1.lst
  obtain rfl : u = .ref a := ru
  obtain ⟨rows, rfl, h3, h4⟩ := rows_of ep h2
  obtain ⟨its, n, r5, e5, z5⟩ := Inv.lstR I h1
  obtain rfl := refs_v r5
  obtain ⟨ps, k1, k2, k3⟩ := prw_vals I rows h4
  have hl : rows.length ≤ sizeLine := by simpa using z5
  let Ts : Nat → Addr := fun j => ((rows[j]?).map (·.a)).getD 0
  let pv : List (Value × Value) := ps.map fun p => (Value.ref p.2.1, p.2.2)
  have hpl : pv.length = rows.length := by simp [pv, k2]
  have P := PairArg.list (prog := X.prog) (w := X.w) a (rows.map fun r => Value.ref r.a).toArray Ts pv
  have his : ∀ x ∈ ps, H x.2.1 = some (.tup (x.1.map kV)) := fun x hx => by
    clear P k2 k3 hpl pv
    generalize rows.map (fun r => (r.k, r.v)) = kvs at k1
    induction k1 with
    | nil => cases hx
    | cons e t ih =>
      rcases List.mem_cons.mp hx with rfl | hx
      · rw [← e.1]; exact e.2.1
      · exact ih hx
  refine call_dict_pairsH (knd := tupleKind (mixKind X.prog X.w)) (ps := ps) P (I.ok.hd hc) (show X.A.in1.in1.units < cLine from hu) ⟨⟨_, n, e5, rfl, rfl, rfl⟩, ?_, fun j k v hj => ?_⟩ ⟨by simp [pv], fun i key v hr => ?_⟩ (fun h' hk x hx => ?_) (by rw [hpl]; exact hl) fun h' tk d1 hk => ?_
  · simp [hpl]
  · have hj' : j < rows.length := by rw [← hpl]; exact (List.getElem?_eq_some_iff.mp hj).1
    have hr : rows[j]? = some rows[j] := List.getElem?_eq_getElem hj'
    have hT : Ts j = rows[j].a := by simp [Ts, hr]
    refine ⟨by simp [hr, hT], ?_⟩
    obtain ⟨p, hp, ep⟩ := List.getElem?_map .. ▸ hj |> Option.map_eq_some_iff.mp
    cases ep
    rw [hT]
    exact k3 j _ p hr hp
  · have hr : pv[i]? = some (key, v) := hr
    obtain ⟨p, hp, ep⟩ := List.getElem?_map .. ▸ hr |> Option.map_eq_some_iff.mp
    cases ep
    exact ⟨p.1, p.2.1, hp, rfl⟩
  · refine tupleKind_stays.stays (fun b o vs n e _ => hk b o (fun z => ?_) (by simp) e) (key_of I.hok (his x hx))
    subst z
    exact absurd (Heap.lt_size e) (Nat.lt_irrefl _)
  · have hm : (s.heap.objs.size == sysModules) = false := beq_eq_false_iff_ne.mpr (Nat.ne_of_gt I.big)
    have hlen : (mergeV [] (rows.map fun r => (r.k, r.v))).length ≤ sizeLine := by
      refine Nat.le_trans (mergeV_len [] _) ?_
      simpa using hl
    obtain ⟨q0, es', ep', hq, g2, g3, g4, _, g6⟩ := d1
    have hf := I.hok.fresh (Nat.le_refl s.heap.objs.size)
    refine ⟨.ref s.heap.objs.size, upd H s.heap.objs.size (.dT (mergeV [] (rows.map fun r => (r.k, r.v)))), I.laid (t' := tk) (fun b o e => hk b o (by simp) e) (Nat.le_refl _) ⟨hlen, hm, _, (kt_nil_merge k1).keeps fun c ys ec => ?_, q0, es', ep', hq, g2, g3, g4, g6⟩, rfl, q _ _ hf trivial (fun xs z => by cases z) (.inr (.inr ⟨_, _, rfl, rfl, rpt_merge .nil h3⟩))⟩
    rw [upd_ne (ne_of_none ec hf)]
    exact ec
end
end PL

/-! PLDisp: a dict display of one pair. -/
namespace PL
open PySem PySem.Spec L2

section
variable {prog : Program} {w : World} {K : Type} [DecidableEq K] {knd : HeapKind prog w K} {A : Around} {E : Value → Shared → Prop} {s : Shared}
theorem disp_heap {k v : Expr} {env : Env} {pos : Pos} {Q : Value → Shared → Prop} (hu : knd.room A)
    (h : wpAny (model prog w) A (evalPairs (pairTrees [some k] [v] env pos)) (fun vs s₁ => ∃ ps, CarriesH knd s₁.heap vs ps ∧ s₁.heap.DictOfH knd s.heap.objs.size [] ∧
      ∀ h' tk, h'.DictOfH knd s.heap.objs.size (storedAllH [] ps) → Heap.SameBut s.heap.objs.size s₁.heap h' → Q (.ref s.heap.objs.size) { s₁ with heap := h', toks := tk }) E
      { s with heap := s.heap.push { cls := .type "dict", data := .dict #[] } }) : wpAny (model prog w) A (eval (.Dict [some k] [v] pos) env) Q E s := by
  have hn := pairTrees_length [some k] [v] env pos rfl rfl
  have h0 : pairTrees [some k] [v] env pos ≠ [] := fun he => by rw [he] at hn; cases hn
  rw [arm_eval_Dict, zip_pairTrees [some k] [v] env pos rfl rfl, dictDisplay_pairs _ h0 (by rw [hn]; simp)]
  refine wpAny_bind (wpAny_standAt (wpAny_bind (wpAny_subDictH (knd := knd) (Q := fun d s' => wpAny (model prog w) A (pure (Value.ref d)) Q E s') hu (by rw [hn]; simp) (wpAny_mono h (fun vs s₁ h₁ => ?_) fun _ _ e => e))))
  obtain ⟨ps, hc, hm, hq⟩ := h₁
  exact ⟨ps, hc, hm, fun h' tk a b => wpAny_pure (hq h' tk a b)⟩
end
def tDisp1 (o : HO) (tk tv : TE) : TE := fun σ H Q => ∀ p, H p = none → tk σ (upd H p o) fun x H1 => tv σ H1 fun y H2 => H2 p = some o ∧ ∃ H3, DPut H2 p x y H3 ∧ Q (.ref p) H3
section
variable {X : Cx} {ek ev : Expr} {pos : Pos} {tk tv : TE}
theorem pe_disp1 (t : Bool) (hu : X.A.units < cLine) (hk : PE X ek tk) (hv : PE X ev tv) : PE X (.Dict [some ek] [ev] pos) (tDisp1 (o0 t) tk tv) := by
  refine ⟨fun pins s σ H Q I q => ?_⟩
  have hn := I.hok.fresh (Nat.le_refl s.heap.objs.size)
  have I1 := I.laid (a := s.heap.objs.size) (o := o0 t) (h' := s.heap.push { cls := .type "dict", data := .dict #[] }) (t' := s.toks) (fun _ _ q => Heap.get?_push_of_some _ q) (Nat.le_refl _) (empty_ok (o0_or t) s.heap I.big)
  cases t with
  | false =>
    refine wpAny_Dict_walk (knd := mixKind X.prog X.w) rfl rfl (by simp) (by simp) (pairTrees_cons_walk (thn (hk.run pins _ σ _ _ I1 (q _ hn)) fun u s1 ⟨x, H1, I2, rx, q1⟩ => thn (hv.run pins s1 σ H1 _ I2 q1) fun r s2 ⟨y, H2, I3, ry, e, H3, dp, q2⟩ => pairTrees_nil_walk ?_))
    rcases dp with ⟨kvs, k, e', ey, l, eH⟩ | ⟨kvs, k, b, e', _⟩
    · rw [e] at e'; cases e'
      subst ey
      obtain ⟨z, hd, vs0, r0, dd⟩ := dk_of I3.hok e
      cases r0
      refine ⟨[(k, r)], ⟨kV_is rx, rfl, True.intro⟩, dd, fun h' d1 hs => ⟨.ref s.heap.objs.size, H3, ?_, rfl, q2⟩⟩
      subst eH
      have he : ∃ q, h'.get? s.heap.objs.size = some q := let ⟨q, _, _, hq, _⟩ := d1; ⟨q, hq⟩
      exact d_write I3 (by rw [e]; exact True.intro) hs he (dk_new (by simp [putK, sizeLine_eq]) hd (KV.put (kvs := []) .nil k ry) d1)
    · rw [e] at e'; cases e'
  | true =>
    refine disp_heap (knd := tupleKind (mixKind X.prog X.w)) hu (pairTrees_cons_walk (thn (hk.run pins _ σ _ _ I1 (q _ hn)) fun u s1 ⟨x, H1, I2, rx, q1⟩ => thn (hv.run pins s1 σ H1 _ I2 q1) fun r s2 ⟨y, H2, I3, ry, e, H3, dp, q2⟩ => pairTrees_nil_walk ?_))
    rcases dp with ⟨kvs, k, e', _⟩ | ⟨kvs, k, b, e', ey, eb, l, eH⟩
    · rw [e] at e'; cases e'
    · rw [e] at e'; cases e'
      subst ey
      cases (show u = Value.ref b from rx)
      obtain ⟨z, hd, xs0, r0, dd⟩ := dt_of I3.hok e
      cases r0
      refine ⟨[(k, b, r)], ⟨rfl, rfl, key_of I3.hok eb, True.intro⟩, dd, fun h' tk d1 hs => ⟨.ref s.heap.objs.size, H3, ?_, rfl, q2⟩⟩
      subst eH
      obtain ⟨q0, es', ep', hq, g2, g3, g4, _, g6⟩ := d1
      refine d_write I3 (by rw [e]; exact True.intro) hs ⟨q0, hq⟩ ⟨by simp [putK, sizeLine_eq], hd, _, (KT.put (kvs := []) .nil k eb ry).keeps fun c ys ec => ?_, q0, es', ep', hq, g2, g3, g4, g6⟩
      rw [upd_ne (ne_of ec e fun z => nomatch z)]
      exact ec
end
/-- {k: v}; t: the key is a tuple -/
def pDisp1 (t : Bool) (gk gv : P) : P := fun ρ st => match gk ρ st with
  | none => none
  | some (k, st1) => match gv ρ st1 with
    | none => none
    | some (v, st2) => match toSh v with
      | none => none
      | some y => match fPut (dS st2 k) y (if t then .dt [] else .dk []) with
        | none => none
        | some d => some (.ow d, st2)
section
variable {X : Cx} {ek ev : Expr} {pos : Pos} {gk gv : P}
theorem px_disp1 (t : Bool) (hu : X.A.units < cLine) (hk : PX X ek gk) (hv : PX X ev gv) : PX X (.Dict [some ek] [ev] pos) (pDisp1 t gk gv) := (pe_disp1 t hu hk hv).imp fun σ H Q w D0 hD => by
  obtain ⟨B, T, β, ρ, st, sv, st', sr, e, q⟩ := w
  unfold pDisp1 at e
  split at e
  · cases e
  next k st1 e1 =>
  split at e
  · cases e
  next v st2 e2 =>
  split at e
  · cases e
  next y ey =>
  split at e
  · cases e
  next d ed =>
  cases e
  have ho0 : Plain (o0 t) ∧ ∀ xs, o0 t ≠ .tup xs := by unfold o0; cases t <;> exact ⟨trivial, fun xs z => by cases z⟩
  have hB : ¬ B D0 := fun z => (sr.dom D0 (.inl z)).1 hD
  have hT2 : ∀ a, Tp T [D0] a ↔ (T a ∨ a = D0) := fun a => by simp [Tp]
  have s1 : SR X.K X.mg B (Tp T [D0]) β σ (upd H D0 (o0 t)) ρ st := sr.grow (up_ex hD) fun a z => by
    rcases (hT2 a).mp z with z | z
    · exact .inl z
    · subst z; exact .inr ⟨hD, up_nt ho0.1 ho0.2⟩
  refine TP.mono (fun x H1 q1 => TP.mono (fun w H2 q2 => ?_) (ar_cons q1)) (ar_cons (f := gk) (g := a1 gv) (Q := fun us H2 => ∃ x w, us = [x, w] ∧ H2 D0 = some (o0 t) ∧ ∃ H3, DPut H2 D0 x w H3 ∧ Q (.ref D0) H3) ⟨B, _, β, ρ, st, [k, v], st', s1, by simp [aCons, aNil, e1, e2], fun us H2 β2 as2 le2 fr2 P2 => ?_⟩)
  · obtain ⟨x', w', e8, q8⟩ := ar_nil q2
    cases e8
    exact q8
  obtain ⟨x, w, rfl⟩ := P2.rl.two2
  have nDβ : D0 ∉ β := fun z => s1.βT D0 z ((hT2 D0).mpr (.inr rfl))
  have hD2 : H2 D0 = some (o0 t) := le2.ex _ _ upd_same nDβ
  refine ⟨x, w, rfl, hD2, ?_⟩
  have rv : Rp X.K X.mg β2 (Ma B (Tp T [D0]) β2 σ ρ) H2 w y := by
    obtain ⟨a1, as3, e9, _, r9⟩ := P2.split1
    obtain ⟨_, _, e10, r10, _⟩ := RL.first r9
    have z := RL.shs P2.out r10 (fun a m => by rw [e9, e10]; exact List.mem_append_right _ (List.mem_append_left _ m)) (ds := [y]) (by simp [toShs, ey])
    cases z with
    | cons z _ => exact z
  have rk : Rw X.K X.mg β2 (Ma B (Tp T [D0]) β2 σ ρ) H2 x (dS st' k) := by
    have z := P2.rwl
    cases z with
    | cons z _ =>
      rcases z with z | ⟨b, rfl, z⟩
      · exact .inl (z.tr (Tr.sub ma_sub) (List.prefix_refl _))
      · exact .inr ⟨b, rfl, Ct.tr (Tr.sub ma_sub) (List.prefix_refl _) z fun u _ z => z⟩
  have ct0 : Ct X.K X.mg β2 (Ma B (Tp T [D0]) β2 σ ρ) H2 (fun u => u = o0 t) (if t then .dt [] else .dk []) := by
    unfold o0
    cases t
    · exact .inr (.inl ⟨[], [], rfl, rfl, .nil⟩)
    · exact .inr (.inr ⟨[], [], rfl, rfl, .nil⟩)
  obtain ⟨_, o', dp, pl, nt, ct'⟩ := put_step ct0 hD2 rk rv ed (by cases t <;> rfl)
  refine ⟨_, dp, ?_⟩
  have d2 := P2.drop
  have w2 := d2.wrT (D0 := D0) (o' := o') ((hT2 D0).mpr (.inr rfl)) hB hD2 pl nt
  have mD : Ma B (Tp T [D0]) β2 σ ρ D0 := .inr (.inl ((hT2 D0).mpr (.inr rfl)))
  have trD : Tr (Ma B (Tp T [D0]) β2 σ ρ) (Ma B (Tp T [D0]) β2 σ ρ) H2 (upd H2 D0 o') := up_trM (d2.dom D0 mD).2 mD
  refine q (.ref D0) _ β2 [D0] ⟨fun a u e n => ?_, le2.pre, fun a e n => le2.out a ?_ n⟩ (fun a m => ?_) ⟨w2, by simp, fun a m z => ?_, .ow (Ct.tr trD (List.prefix_refl _) ct' fun u _ z => by subst z; exact upd_same) .nil⟩
  · have ne : a ≠ D0 := fun z => by subst z; rw [hD] at e; cases e
    rw [upd_ne ne]
    exact le2.ex a u (by rw [upd_ne ne]; exact e) n
  · have ne : a ≠ D0 := fun z => by subst z; exact e hD
    rw [upd_ne ne]; exact e
  · have ea : a = D0 := by simpa using m
    subst ea; exact hD
  · have ea : a = D0 := by simpa using m
    subst ea
    rcases z with z | z | z | z
    · exact hB z
    · exact (sr.dom a (.inr (.inl z))).1 hD
    · exact d2.βT a z ((hT2 a).mpr (.inr rfl))
    · exact d2.ownT a z ((hT2 a).mpr (.inr rfl))
end
end PL

/-! PLValues: list(d.values()). -/
namespace PL
open PySem PySem.Spec L2 Calls

def tListVals (to : TE) : TE := fun σ H Q => to σ H fun x H1 => ∃ a u, x = .ref a ∧ isD u ∧ Rd H1 a u ∧ ∀ xs p, xs.length = entN u → (∀ (i : Nat) v, xs[i]? = some v → ∃ k, Ent H1 u i k v) → H1 p = none → Q (.ref p) (upd H1 p (.lst xs))
section
variable {X : Cx} {o : Expr} {to : TE} {p apos cpos pos : Pos}
theorem pe_listVals (hc : X.calm = true) (hg : Gl X "list") (hm : X.mg "list" = none) (hv : bootBuiltins "list" = some (.type "list")) (ho : PE X o to) (hbase : attributeBase o "values" X.env (eval o X.env) = eval o X.env := by rfl) (hline : (apos.endLine == cpos.line) = true := by rfl)
    (he : starEach [.Call (.Attribute o "values" apos) [] [] cpos] X.env = [(false, eval (.Call (.Attribute o "values" apos) [] [] cpos) X.env)] := by rfl) : PE X (.Call (.Name "list" p) [.Call (.Attribute o "values" apos) [] [] cpos] [] pos) (tListVals to) := by
  refine ⟨fun pins s σ H Q I h => ?_⟩
  refine wpAny_Call_Name_kw (ld_blt I hg hm hv ?_ (by decide) (by decide))
  refine PyProof.Rows.callWith_type1 ?_ he rfl
  rw [he]
  refine spliced_cons (wpAny_Call_method (T := "dict") (id := "dict.values") hbase rfl hline F.plainAttrs_dict F.slot_dict_values F.type_dict_values (thn (ho.run pins s σ H _ I h) fun v s1 ⟨x, H1, I1, rx, a, u, ex, hu, ha, q⟩ => ?_))
  subst ex
  obtain rfl : v = Value.ref a := rx
  obtain ⟨hs, hz, ob, es, ep, h1, hx, hdt, hsz, ent⟩ := dict_raw I1 hu ha
  have raw : s1.heap.DictRaw a es ep := ⟨_, h1, hx, hdt⟩
  refine ⟨raw.typeIs, fun b e => ⟨_, by cases e; exact h1, hx.2.1⟩, ?_⟩
  show wpAny _ _ (callWith cpos (.builtin "dict.values") [.ref a] [] []) _ X.xe s1
  refine method_meetsIn F.slot_dict_values F.entry_dict_values rfl (PySem.evalArgs_none ⟨rfl, raw.typeIs, F.args_dict_values_1 _, _, meets_dict_values_raw a hs, ⟨es, ep, raw⟩, ?_⟩)
  refine spliced_nil ?_
  have pk : ∀ b q, s1.heap.get? b = some q → (s1.heap.push { cls := .type "dict_values", data := .fields #[.ref a] }).get? b = some q := fun b q e => Heap.get?_push_of_some _ e
  have I2 : Inv X pins σ H1 { s1 with heap := s1.heap.push { cls := .type "dict_values", data := .fields #[.ref a] } } := I1.kept (t' := s1.toks) pk
  have hlt : s1.heap.objs.size < (s1.heap.push { cls := .type "dict_values", data := .fields #[.ref a] }).objs.size := by rw [Heap.size_push]; exact Nat.lt_succ_self _
  refine PySem.W.kdl_call (PySem.KdlSrc.rawValues (prog := X.prog) (w := X.w) (d := a) (r := s1.heap.objs.size) (es := es) (ep := ep)) (I1.ok.hd hc) ⟨⟨_, Heap.get?_push_size _ rfl, rfl, rfl⟩, raw.at fun o e => pk _ o e⟩ (by omega) fun h' tk acc c' hk hS hacc => ?_
  obtain ⟨hsz2, hit⟩ := hacc
  obtain ⟨xs, hvv, hp⟩ := vals_pick (P := fun i x => ∃ k, Ent H1 u i k x) acc.toList 0 fun i y ey => by
    obtain ⟨hi, rfl⟩ := hit i y (by rw [← Array.getElem?_toList]; exact ey)
    obtain ⟨x, w', g1, g2, g3⟩ := ent i hi
    exact ⟨w', ⟨x, by rw [Nat.zero_add]; exact g1⟩, g3⟩
  have hl : xs.length = entN u := by rw [hvv.length]; simp; omega
  have hf := I2.hok.fresh (Nat.le_refl _)
  refine ⟨.ref _, _, I2.laid (t' := tk) hk (Nat.le_refl _) (o := .lst xs) ⟨by omega, acc.toList, c', hvv, by rw [Array.toArray_toList]; exact hS⟩, rfl, q xs _ hl (fun i v e => ?_) hf⟩
  have := hp i v e
  rw [Nat.zero_add] at this
  exact this
end
def valsD : D → Option (List D)
  | .dk es => some (es.map (·.2)) | .dt es => some (es.map (·.2)) | _ => none
def pListVals (f : P) : P := fun ρ st => match f ρ st with
  | none => none
  | some (s, st1) => match valsD s.d with
    | some ds => some (.ow (.lst ds), st1)
    | none => none
section
variable {X : Cx} {o : Expr} {f : P} {p apos cpos pos : Pos}
theorem rpk_ent {K : PySem.W.Frag} {mg : Str → Option Value} {β : List Addr} {M : Addr → Prop} {H : Hp} : ∀ {kvs : List (Key × V)} {es : List (Key × D)}, RpK K mg β M H kvs es → ∀ (i : Nat) (k : Key) (v : V) (d : D), kvs[i]? = some (k, v) → (es.map (·.2))[i]? = some d → Rp K mg β M H v d
  | _, _, .nil, i, k, v, d, e, _ => by simp at e
  | _, _, .cons r q, 0, k, v, d, e1, e2 => by
    simp only [List.getElem?_cons_zero, Option.some.injEq, Prod.mk.injEq, List.map_cons] at e1 e2
    rw [← e1.2, ← e2]; exact r
  | _, _, .cons r q, i + 1, k, v, d, e1, e2 => by
    simp only [List.getElem?_cons_succ, List.map_cons] at e1 e2
    exact rpk_ent q i k v d e1 e2
theorem rpt_ent {K : PySem.W.Frag} {mg : Str → Option Value} {β : List Addr} {M : Addr → Prop} {H : Hp} : ∀ {kvs : List (List Key × V)} {es : List (List Key × D)}, RpT K mg β M H kvs es → ∀ (i : Nat) (k : List Key) (v : V) (d : D), kvs[i]? = some (k, v) → (es.map (·.2))[i]? = some d → Rp K mg β M H v d
  | _, _, .nil, i, k, v, d, e, _ => by simp at e
  | _, _, .cons r q, 0, k, v, d, e1, e2 => by
    simp only [List.getElem?_cons_zero, Option.some.injEq, Prod.mk.injEq, List.map_cons] at e1 e2
    rw [← e1.2, ← e2]; exact r
  | _, _, .cons r q, i + 1, k, v, d, e1, e2 => by
    simp only [List.getElem?_cons_succ, List.map_cons] at e1 e2
    exact rpt_ent q i k v d e1 e2
theorem px_listVals (hc : X.calm = true) (hg : Gl X "list") (hm : X.mg "list" = none) (hv : bootBuiltins "list" = some (.type "list")) (ho : PX X o f) (hbase : attributeBase o "values" X.env (eval o X.env) = eval o X.env := by rfl) (hline : (apos.endLine == cpos.line) = true := by rfl)
    (he : starEach [.Call (.Attribute o "values" apos) [] [] cpos] X.env = [(false, eval (.Call (.Attribute o "values" apos) [] [] cpos) X.env)] := by rfl) : PX X (.Call (.Name "list" p) [.Call (.Attribute o "values" apos) [] [] cpos] [] pos) (pListVals f) := (pe_listVals hc hg hm hv ho hbase hline he).imp fun σ H Q w => by
  obtain ⟨B, T, β, ρ, st, sv, st', sr, e, q⟩ := w
  unfold pListVals at e
  split at e
  · cases e
  next s st1 e1 =>
  split at e
  case h_2 => cases e
  next ds ed =>
  cases e
  refine ⟨B, T, β, ρ, st, s, _, sr, e1, fun v H1 β1 as le fr P => ?_⟩
  have fin : FinG X.K X.mg β1 (Ma B (Tp T as) β1 σ ρ) H1 (.ow (.lst ds)) Q := P.fin rfl fun v' H' β' as' le2 fr2 p => q v' H' β' as' (le.trans le2 fun a e n z => z.elim (le.out a e n) fun m => e (fr a m)) (fun a m => ?_) p
  · obtain ⟨v2, e5, r1⟩ := RwL.one P.rwl
    cases e5
    have hdS : dS st' s = s.d := by
      unfold dS
      split
      · next n e' => rw [e'] at ed; cases ed
      · rfl
    rw [hdS] at r1
    unfold valsD at ed
    split at ed
    · next es es0 =>
      cases ed
      obtain ⟨a, kvs, rfl, h1, h2⟩ := (es0 ▸ r1 : Rw _ _ _ _ _ _ (.dk es)).dk
      refine ⟨a, .dK kvs, rfl, trivial, h1, fun xs p hl hx hp => fin p _ hp trivial (fun xs z => by cases z) (.inl ⟨_, _, rfl, rfl, rpl_at (by rw [hl]; simp [entN, h2.length]) fun i x d g1 g2 => ?_⟩)⟩
      obtain ⟨k, k2, g3, _⟩ := hx i x g1
      exact rpk_ent h2 i k2 x d g3 g2
    · next es es0 =>
      cases ed
      obtain ⟨a, kvs, rfl, h1, h2⟩ := (es0 ▸ r1 : Rw _ _ _ _ _ _ (.dt es)).dt
      refine ⟨a, .dT kvs, rfl, trivial, h1, fun xs p hl hx hp => fin p _ hp trivial (fun xs z => by cases z) (.inl ⟨_, _, rfl, rfl, rpl_at (by rw [hl]; simp [entN, h2.length]) fun i x d g1 g2 => ?_⟩)⟩
      obtain ⟨k, k2, q0, g3, _⟩ := hx i x g1
      exact rpt_ent h2 i k2 x d g3 g2
    · cases ed
  · rcases fr2 a m with z | z
    · exact pos_mem (SR.βne sr) le (SR.βne P.sr) z
    · exact fr a z
end
end PL

/-! PLSet: sorted(set(ints)), len(set(ints)). -/
namespace PL
open PySem PySem.Spec L2 PyProof.Rows

abbrev set0 (w : World) : Obj := { cls := .type "set", dict := none, data := .set #[] 0 (.fresh 0 0 (!w.params.followText "set-order")) }
section
variable {P : Program} {w : World} {A : Around} {E : Value → Shared → Prop} {s : Shared}
set_option maxHeartbeats 3200000 in
theorem call_set_lstI {l : Addr} {items : Array Value} (ns : List Int) {Q : Value → Shared → Prop} (hh : A.handled = none) (hl : s.heap.IsList l items) (hit : IntsAre items.toList ns) (hb : ns.length + 1 < scanBound)
    (h : ∀ (h' : Heap) (tk c : Nat), SetR w h' s.heap.objs.size (fun j => decide (j ∈ ns)) c → c ≤ ns.length → (∀ b o, s.heap.get? b = some o → h'.get? b = some o) → Q (.ref s.heap.objs.size) { s with heap := h', toks := tk }) :
    wpAny (model P w) A (call (.type "set") [.ref l]) Q E s := by
  have hsize : items.size = ns.length := by
    have q := IntsAre.length hit
    rw [Array.length_toList] at q
    exact q
  obtain ⟨c, tl, hmr⟩ := F.called_set.mro
  have hmd := F.called_set.made
  have hsb := F.called_set.sub
  refine wpAny_call (codeAny_of_tree ?_)
  show wpAny _ _ (callAny (.type "set") _) _ _ _
  refine wpAny_pure ⟨Code.quiet_builtin _ (by decide +kernel), codeAny_builtin F.entry_type_call ?_⟩
  rw [Around.under_plain (weight_type_call_type "set" [.ref l] []) rfl]
  have h1 := F.called_set.notType
  have h2 := F.called_set.canCreate
  have htc := F.typeCall_set_1 (.ref l)
  repeat (any_goals (first | assumption | wp_step))

  refine codeAny_mono (code_set_led1 (.ref l) (E := E) (Q₁ := fun obj s₁ => obj = .ref s.heap.objs.size ∧ s₁ = { s with heap := s.heap.push (set0 w) }) ⟨rfl, rfl⟩) fun r s₁ hr => ?_
  cases r with
  | error e => exact hr
  | ok fl =>
    cases fl with
    | ret obj =>
      obtain ⟨rfl, rfl⟩ := hr
      have hS0 : (s.heap.push (set0 w)).get? s.heap.objs.size = some (set0 w) := Heap.get?_push_size _ rfl
      have hTy : Shared.TypeIs { s with heap := s.heap.push (set0 w) } (.ref s.heap.objs.size) "set" := ⟨_, hS0, rfl⟩
      have hlk := F.called_set.init.lookup
      have hbd := F.called_set.init.bind (.ref s.heap.objs.size)
      repeat (any_goals (first | assumption | wp_step))

      refine codeAny_mono (codeAny_call_builtin (R := wants (fun r s2 => r = .none ∧ ∃ h' tk c, s2 = { s with heap := h', toks := tk } ∧ SetR w h' s.heap.objs.size (fun j => decide (j ∈ ns)) c ∧ c ≤ ns.length ∧
          (∀ b o, s.heap.get? b = some o → h'.get? b = some o)) E) F.called_set.init.plain F.entry_set_init (check_set_init_1 hTy ?_)) fun r2 s2 hr2 => ?_
      · obtain ⟨ol, hlo, hcs, nl, hdt⟩ := hl
        obtain ⟨ocl, odc, oda, osl⟩ := ol
        simp only at hcs hdt
        subst hcs; subst hdt
        have hlo' : (s.heap.push (set0 w)).get? l = some { cls := .type "list", dict := odc, data := .seq items nl, slots := osl } := Heap.get?_push_of_some _ hlo
        have hs1 := F.sub_list_set
        have hs2 := F.sub_list_frozenset
        have hne : (Value.type "list" == Value.type "dict") = false := by decide
        have hls : (s.heap.push (set0 w)).IsList l items := ⟨_, hlo', rfl, nl, rfl⟩
        unfold Builtin.«set.__init__» noKeywords Builtin.Frozenset.updateFrom
        generalize hP : pyIter = PJ
        wp_walk
        subst hP

        refine wpAny_pyIter_list hls ?_
        refine wpAny_bind (wpAny_runValue ?_)
        have hlt : l < s.heap.objs.size := Heap.lt_size hlo
        have hhd : A.in1.in1.in1.handled = none := by simp [hh]
        have hzz : (s.heap.push (set0 w)).objs.size = s.heap.objs.size + 1 := Heap.size_push ..
        have hnI : l ≠ (s.heap.push (set0 w)).objs.size := by
          rw [Heap.size_push]; exact Nat.ne_of_lt (Nat.lt_succ_of_lt hlt)
        have hSn : s.heap.objs.size ∉ [(s.heap.push (set0 w)).objs.size, l] := by
          rw [Heap.size_push]; simp only [List.mem_cons, List.mem_singleton, List.not_mem_nil, or_false, not_or]
          exact ⟨Nat.ne_of_lt (Nat.lt_succ_self _), Nat.ne_of_gt hlt⟩
        have hvl : ∀ (i : Nat) (v : Value), items[i]? = some v → ∃ k t, ns[i]? = some k ∧ v = .int k t := fun i v hv => by
          have hi : i < ns.length := by rw [← hsize]; exact (Array.getElem?_eq_some_iff.mp hv).1
          obtain ⟨t, e⟩ := PyProof.Rows.IntsAre.int_at hit i v (by rw [Array.getElem?_toList]; exact hv)
          refine ⟨ns[i], t, List.getElem?_eq_getElem hi, ?_⟩
          rw [e, List.getD_eq_getElem?_getD, List.getElem?_eq_getElem hi] <;> rfl
        refine set_update_ints ((Walks.list hhd _ l hnI items).toS) s.heap.objs.size
          hSn ns hsize hb hvl (items.size - 0) 0 _ (by omega) (Nat.zero_le _)
          ⟨⟨_, Heap.get?_push_size _ rfl, rfl, rfl⟩, (hls.push _)⟩ ?hS0 ?hR
        case hS0 =>
          have hgt : ((s.heap.push (set0 w)).push { cls := .type "list_iterator", data := .fields #[.ref l, .int 0 0] }).get? s.heap.objs.size
              = some (set0 w) := Heap.get?_push_of_some _ hS0
          exact ⟨0, Nat.le_refl 0, setR_new_at hgt⟩
        case hR =>
          intro s' c' hm hc' hS'
          obtain ⟨h', g2, d', tk', os'⟩ := s'
          have e1 : g2 = s.gens := hm.gens
          have e2 : d' = s.drawn := hm.drawn
          have e3 : os' = s.os := hm.os
          subst e1; subst e2; subst e3
          show wpAny _ _ _ _ _ _
          refine wpAny_pure ?_
          show wpAny _ _ (ret Value.none) _ _ _
          rw [hsize] at hc'
          refine wpAny_pure ⟨rfl, h', tk', c', rfl, hS', hc', fun b o e => ?_⟩
          have hq0 : b < s.heap.objs.size := Heap.lt_size e
          have hq1 : b ≠ s.heap.objs.size := Nat.ne_of_lt hq0
          have hq2 : b ≠ (s.heap.push (set0 w)).objs.size := by
            rw [Heap.size_push]; exact Nat.ne_of_lt (Nat.lt_succ_of_lt hq0)
          exact hm.heap b o (by simp only [List.mem_cons, List.mem_singleton, List.not_mem_nil, or_false, not_or]; exact ⟨hq1, hq2⟩) (Heap.get?_push_of_some _ (Heap.get?_push_of_some _ e))

      · cases r2 with
        | error e => exact hr2
        | ok fl2 =>
          cases fl2 with
          | ret r =>
            obtain ⟨rfl, h', tk, c', rfl, hS', hc', hk'⟩ := hr2
            repeat (any_goals (first | assumption | wp_step))
            exact h _ _ _ hS' hc' hk'
          | _ => exact hr2.elim
    | _ => exact hr.elim

end
end PL

/-! PLSet2: sorted(set(ints)). -/
namespace PL
open PySem PySem.Spec L2

/-- an int goes into a rising list, once -/
def insU (x : Int) : List Int → List Int
  | [] => [x]
  | y :: ys => if x < y then x :: y :: ys else if x = y then y :: ys else y :: insU x ys
def usort (ns : List Int) : List Int := ns.foldr insU []
theorem insU_mem {x k : Int} : ∀ {ys : List Int}, k ∈ insU x ys ↔ k = x ∨ k ∈ ys
  | [] => by simp [insU]
  | y :: ys => by
    unfold insU
    split
    · simp
    · split
      · next h => subst h; simp
      · simp only [List.mem_cons, insU_mem (ys := ys)]
        constructor
        · rintro (h | h | h)
          · exact .inr (.inl h)
          · exact .inl h
          · exact .inr (.inr h)
        · rintro (h | h | h)
          · exact .inr (.inl h)
          · exact .inl h
          · exact .inr (.inr h)
theorem insU_sorted {x : Int} : ∀ {ys : List Int}, ys.Pairwise (· < ·) → (insU x ys).Pairwise (· < ·)
  | [], _ => by simp [insU]
  | y :: ys, h => by
    obtain ⟨h1, h2⟩ := List.pairwise_cons.mp h
    unfold insU
    split
    · next hlt =>
      refine List.pairwise_cons.mpr ⟨fun z hz => ?_, h⟩
      rcases List.mem_cons.mp hz with rfl | hz
      · exact hlt
      · have := h1 z hz; omega
    · next hge =>
      split
      · exact h
      · next hne =>
        refine List.pairwise_cons.mpr ⟨fun z hz => ?_, insU_sorted h2⟩
        rcases insU_mem.mp hz with rfl | hz
        · omega
        · exact h1 z hz
theorem usort_mem {ns : List Int} {k : Int} : k ∈ usort ns ↔ k ∈ ns := by
  unfold usort
  induction ns with
  | nil => simp
  | cons x xs ih => rw [List.foldr_cons, insU_mem, ih, List.mem_cons]
theorem usort_sorted (ns : List Int) : (usort ns).Pairwise (· < ·) := by
  unfold usort
  induction ns with
  | nil => exact List.Pairwise.nil
  | cons x xs ih => rw [List.foldr_cons]; exact insU_sorted ih
theorem rising_ext : ∀ {xs ys : List Int}, xs.Pairwise (· < ·) → ys.Pairwise (· < ·) → (∀ k, k ∈ xs ↔ k ∈ ys) → xs = ys
  | [], [], _, _, _ => rfl
  | [], y :: ys, _, _, h => absurd ((h y).mpr List.mem_cons_self) (by simp)
  | x :: xs, [], _, _, h => absurd ((h x).mp List.mem_cons_self) (by simp)
  | x :: xs, y :: ys, h1, h2, h => by
    obtain ⟨a1, a2⟩ := List.pairwise_cons.mp h1
    obtain ⟨b1, b2⟩ := List.pairwise_cons.mp h2
    have e : x = y := by
      have p := (h x).mp List.mem_cons_self
      have q := (h y).mpr List.mem_cons_self
      rcases List.mem_cons.mp p with p | p
      · exact p
      · rcases List.mem_cons.mp q with q | q
        · exact q.symm
        · have := a1 y q; have := b1 x p; omega
    subst e
    rw [rising_ext a2 b2 fun k => ?_]
    constructor
    · intro hk
      rcases List.mem_cons.mp ((h k).mp (List.mem_cons_of_mem _ hk)) with e | e
      · subst e; exact absurd (a1 k hk) (by omega)
      · exact e
    · intro hk
      rcases List.mem_cons.mp ((h k).mpr (List.mem_cons_of_mem _ hk)) with e | e
      · subst e; exact absurd (b1 k hk) (by omega)
      · exact e
theorem rising_nodup {xs : List Int} (h : xs.Pairwise (· < ·)) : xs.Nodup := h.imp fun h e => by subst e; omega
theorem same_len {xs ys : List Int} (h1 : xs.Nodup) (h2 : ys.Nodup) (h : ∀ k, k ∈ xs ↔ k ∈ ys) : xs.length = ys.length :=
  ((List.perm_ext_iff_of_nodup h1 h2).mpr h).length_eq
def rSetInts (K : PySem.W.Frag) (w : World) : List V → Hp → VK → Prop := fun vs H Q => ∃ (a : Addr) (ns : List Int), vs = [.ref a] ∧ (RdL K H a (ns.map .int) ∨ H a = some (.tup (ns.map .int))) ∧ ns.length + 1 < scanBound ∧
  ∀ p, H p = none → Q (.ref p) (upd H p (SetO w p (fun j => decide (j ∈ ns)) (usort ns).length))
section
variable {X : Cx}
theorem cr_setInts (hc : X.calm = true) : CallR X (.type "set") (rSetInts X.K X.w) := by
  intro pins s σ H vs us Q I r h
  obtain ⟨a, ns, rfl, ha, hb, q⟩ := h
  obtain ⟨u, rfl, ru⟩ := vals1 r
  obtain rfl : u = .ref a := ru
  have fin : ∀ (h' : Heap) (tk c : Nat), SetR X.w h' s.heap.objs.size (fun j => decide (j ∈ ns)) c → c ≤ ns.length → (∀ b o, s.heap.get? b = some o → h'.get? b = some o) → EP X pins σ Q (.ref s.heap.objs.size) { s with heap := h', toks := tk } := fun h' tk c R hcn hk => by
    have ec : c = (usort ns).length := by
      obtain ⟨o, es, ep, t, ho, hex, hd, g, nd, hm, hb2, hf, hn, hr, hl⟩ := R
      rw [← hn, ← Array.length_toList, ← List.length_map (f := keyOf)]
      refine same_len nd (rising_nodup (usort_sorted ns)) fun k => ?_
      rw [← hm k, usort_mem]
      simp
    subst ec
    exact ⟨.ref s.heap.objs.size, _, I.laid (t' := tk) hk (Nat.le_refl _) (setO_new R), rfl, q _ (I.hok.fresh (Nat.le_refl _))⟩
  rcases ha with ha | ha
  · obtain ⟨its, n, rv, e, z⟩ := Inv.lstR I ha
    exact call_set_lstI ns (I.ok.hd hc) ⟨_, e, rfl, n, rfl⟩ (by simpa using intsAre_of rv) hb fin
  · obtain ⟨its, rv, ⟨o, e, c, n, d⟩, z⟩ := I.tuple (.inl (.inl ha))
    exact call_set_tupI ns (I.ok.hd hc) ⟨o, e, c, n, d⟩ (by simpa using intsAre_of rv) hb fin
end
def seqInts : D → Option (List Int)
  | .lst ds => intsD ds | .tup ds => intsD ds | _ => none
/-- sorted(set(f)) -/
def pSortSet (f : P) : P := fun ρ st => match f ρ st with
  | none => none
  | some (s, st1) => match seqInts (dS st1 s) with
    | none => none
    | some ns => if ns.length + 1 < 4096 ∧ (usort ns).length < 64 then some (.ow (.lst ((usort ns).map .int)), st1) else none
/-- len(set(f)) -/
def pLenSet (f : P) : P := fun ρ st => match f ρ st with
  | none => none
  | some (s, st1) => match seqInts (dS st1 s) with
    | none => none
    | some ns => if ns.length + 1 < 4096 then some (.sh (.int (usort ns).length), st1) else none
section
variable {K : PySem.W.Frag} {mg : Str → Option Value} {β : List Addr} {M : Addr → Prop} {H : Hp} {v : V} {d : D}
theorem seqInts_v {ns : List Int} (r : Rw K mg β M H v d) (e : seqInts d = some ns) : ∃ a, v = .ref a ∧ (RdL K H a (ns.map .int) ∨ H a = some (.tup (ns.map .int))) := by
  unfold seqInts at e
  split at e
  · obtain ⟨a, vs, rfl, h1, h2⟩ := r.lst
    rw [intsD_v e h2] at h1
    exact ⟨a, rfl, .inl h1⟩
  · obtain ⟨a, vs, rfl, h1, h2⟩ := r.tup
    rw [intsD_v e h2] at h1
    exact ⟨a, rfl, .inr h1⟩
  · cases e
variable {X : Cx} {e : Expr} {f : P} {p1 p2 q1 q2 : Pos}
theorem px_sortSet (hc : X.calm = true) (g1 : Gl X "sorted") (m1 : X.mg "sorted" = none) (g2 : Gl X "set") (m2 : X.mg "set" = none) (he : PX X e f)
    (hs1 : starEach [e] X.env = [(false, eval e X.env)] := by rfl) (hs2 : starEach [.Call (.Name "set" p2) [e] [] q2] X.env = [(false, eval (.Call (.Name "set" p2) [e] [] q2) X.env)] := by rfl) : PX X (.Call (.Name "sorted" p1) [.Call (.Name "set" p2) [e] [] q2] [] q1) (pSortSet f) :=
  (pe_callB (cr_sortedSet hc) g1 m1 rfl (pa_cons (pe_callTy (cr_setInts hc) g2 m2 rfl (pa_cons he pa_nil hs1) (by decide) (by decide) hs1 rfl) pa_nil hs2) (by decide) (by decide) hs2 rfl).imp fun σ H Q w => by
  obtain ⟨B, T, β, ρ, st, sv, st', sr, e, q⟩ := w
  unfold pSortSet at e
  split at e
  · cases e
  next s st1 e1 =>
  split at e
  · cases e
  next ns en =>
  split at e
  case isFalse => cases e
  next hk =>
  cases e
  refine ⟨B, T, β, ρ, st, s, _, sr, e1, fun v H1 β1 as le fr P => ?_⟩
  obtain ⟨v2, e5, r1⟩ := RwL.one P.rwl
  cases e5
  obtain ⟨a, rfl, ha⟩ := seqInts_v r1 en
  refine ⟨a, ns, rfl, ha, hk.1, fun p hp => ⟨p, _, _, rfl, upd_same, hk.2, fun ns' l h1 h2 h3 hl => ?_⟩⟩
  have en' : ns' = usort ns := rising_ext h1 (usort_sorted ns) fun k => by rw [h2 k, usort_mem]; simp
  subst en'
  have lp : l ≠ p := fun z => by subst z; rw [upd_same] at hl; cases hl
  have P2 := P.heap (H' := upd H1 p (SetO X.w p (fun j => decide (j ∈ ns)) (usort ns).length)) (fun a u h _ => ex_rd (up_ex hp a) h) (fun a xs h => up_ex hp a _ h) fun a m => by
    rw [upd_ne (fun z => by subst z; exact (P.sr.dom a m).1 hp)]
  have le2 : Le (fun a => a ∈ β1) β1 H1 β1 (upd H1 p (SetO X.w p (fun j => decide (j ∈ ns)) (usort ns).length)) := up_le hp fun a m => m
  refine P2.newO (fun v' H' β' as' le3 fr3 P3 => q v' H' β' as' (((le.trans le2 fun a e n => le.out a e n)).trans le3 fun a e n z => z.elim ((le.trans le2 fun a e n => le.out a e n).out a e n) fun m => e (fr a m)) (fun a m => ?_) P3) hl trivial (fun xs z => by cases z) (.inl ⟨_, _, rfl, rfl, RpL.of_ints _⟩)
  rcases fr3 a m with z | z
  · cases e0 : H1 a with
    | none => exact pos_mem (SR.βne sr) le (SR.βne P.sr) e0
    | some u => rw [up_ex hp a u e0] at z; cases z
  · exact fr a z
end
end PL

set_option maxHeartbeats 1000000
/-! PLRev: a[::-1] of lists and tuples. -/
namespace PL
open PySem PySem.Spec L2 HT PyProof.Rows

theorem rev_pick (xs : Array Value) : ((List.range xs.size).filterMap fun (m : Nat) => xs[(((xs.size : Int) - 1) + (m : Int) * (-1)).toNat]?).toArray = xs.toList.reverse.toArray := by
  congr 1
  have h : ∀ m, m ∈ List.range xs.size → xs[(((xs.size : Int) - 1) + (m : Int) * (-1)).toNat]? = some (xs.toList.reverse.getD m Value.none) := fun m hm => by
    have hm := List.mem_range.mp hm
    have e : (((xs.size : Int) - 1) + (m : Int) * (-1)).toNat = xs.size - 1 - m := by omega
    rw [e, List.getD_eq_getElem?_getD, List.getElem?_reverse (by simpa using hm), Array.getElem?_toList, Array.length_toList, Array.getElem?_eq_getElem (by omega)]
    rfl
  have gen : ∀ l : List Nat, (∀ m ∈ l, xs[(((xs.size : Int) - 1) + (m : Int) * (-1)).toNat]? = some (xs.toList.reverse.getD m Value.none)) → (l.filterMap fun (m : Nat) => xs[(((xs.size : Int) - 1) + (m : Int) * (-1)).toNat]?) = l.map fun m => xs.toList.reverse.getD m Value.none := by
    intro l hl
    induction l with
    | nil => rfl
    | cons m r ih => rw [List.filterMap_cons, hl m List.mem_cons_self, List.map_cons, ih fun k hk => hl k (List.mem_cons_of_mem _ hk)]
  rw [gen _ h]
  apply List.ext_getElem?
  intro i
  by_cases hi : i < xs.size
  · rw [List.getElem?_map, List.getElem?_range hi]
    have hl : i < xs.toList.reverse.length := by simpa using hi
    rw [Option.map_some, List.getD_eq_getElem?_getD, List.getElem?_eq_getElem hl]; rfl
  · rw [List.getElem?_eq_none (by simpa using hi), List.getElem?_eq_none (by simpa using hi)]
section
variable {prog : Program} {w : World} {A : Around} {E : Value → Shared → Prop} {s : Shared}
theorem applied_rev {sl : Addr} {vs : Value} {n : Nat} {Q : Int × Int × Nat → Shared → Prop} (hs : s.heap.IsSliceOf sl .none .none vs) (ps : IsPart vs (some (-1))) (h : Q ((n : Int) - 1, -1, n) s) : wpAny (model prog w) A (Builtin.Slice.sliceApplied (.ref sl) (pure (n : Int))) Q E s := by
  obtain ⟨os, hos, hcs, hds⟩ := id hs
  unfold Builtin.Slice.sliceApplied Builtin.Slice.sliceFields
  refine wpAny_bind (wpAny_bind (wpAny_field hos hds (x := .none) rfl (wpAny_bind (wpAny_field hos hds (x := .none) rfl (wpAny_bind (wpAny_field hos hds (x := vs) rfl (wpAny_pure ?_)))))))
  refine wpAny_bind (slicePart_ ps ?_)
  show wpAny _ _ (if ((-1 : Int) == 0) = true then _ else _) _ _ s
  rw [if_neg (by decide)]
  refine wpAny_bind (slicePart_none (wpAny_bind (slicePart_none (wpAny_bind (wpAny_pure ?_)))))
  show wpAny _ _ (pure ((n : Int) - 1, (-1 : Int), Builtin.Slice.slicePlaces ((n : Int) - 1) (-1) (-1))) _ _ s
  have e : Builtin.Slice.slicePlaces ((n : Int) - 1) (-1) (-1) = n := by
    unfold Builtin.Slice.slicePlaces
    rw [if_neg (by decide)]
    by_cases h0 : n = 0
    · subst h0; rfl
    · rw [if_pos (by omega)]
      have e2 : ((n : Int) - 1 - -1 - 1) / - -1 + 1 = n := by
        have : ((n : Int) - 1 - -1 - 1) / - -1 = (n : Int) - 1 := by
          rw [show (- -1 : Int) = 1 from rfl, Int.ediv_one]; omega
        omega
      rw [e2]; rfl
  rw [e]
  exact wpAny_pure h
theorem item_tup_rev {t sl : Addr} {items : Array Value} {vs : Value} {Q : Value → Shared → Prop} (ht : IsTup s.heap t items) (hs : s.heap.IsSliceOf sl .none .none vs) (ps : IsPart vs (some (-1)))
    (h : Q (.ref s.heap.objs.size) { s with heap := s.heap.push { cls := .type "tuple", data := .seq items.toList.reverse.toArray } }) (hsz : items.size ≤ sizeLine) : wpAny (model prog w) A (getItem (.ref t) (.ref sl)) Q E s := by
  have htake : sizeOk (.seq items.toList.reverse.toArray) := by
    show items.toList.reverse.toArray.size ≤ sizeLine
    rw [List.size_toArray, List.length_reverse, Array.length_toList]
    exact hsz
  obtain ⟨os, hos, hcs, hds⟩ := id hs
  have hT : s.TypeIs (.ref sl) "slice" := ⟨os, hos, hcs⟩
  unfold getItem
  try with_reducible refine wpAny_holding ?_
  first | refine wpAny_bind (wpAny_pure ?_) | skip
  refine wpAny_bind (wpAny_sequenceKey ht.typeIs (by decide) ?_)
  refine wpAny_bind (wpAny_callSpecial?_slot (name := Str.ofString "__getitem__") ht.typeIs PyProof.Rows.slot_tuple_getitem (wpAny_call_entry PyProof.Rows.slot_tuple_getitem ht.typeIs PyProof.Rows.entry_tuple_getitem ?_ (PyProof.Rows.args_tuple_getitem _ _)))
  show wpAny _ _ (Builtin.Tuple.tupleItemsOf (.ref t) >>= _) _ _ s
  refine wpAny_bind (PyProof.Rows.tupleItemsOf_ ht (wpAny_bind (wpAny_typeOf hT ?_)))
  rw [if_pos (by decide)]
  refine wpAny_bind (applied_rev hs ps ?_)
  show wpAny _ _ (if (((items.size : Int) - 1) == 0 && (-1 : Int) == 1 && items.size == items.size) = true then _ else _) _ _ s
  rw [if_neg (by simp), rev_pick]
  first
    | exact wpAny_bind (m := Builtin.Tuple.tupleExact _) (wpAny_newObj_type (wpAny_pure ⟨_, rfl, wpAny_pure h⟩) htake)
    | exact wpAny_bind (m := Builtin.Tuple.tupleExact _) (wpAny_newObj_type (wpAny_bind (wpAny_pure (wpAny_pure ⟨_, rfl, wpAny_pure h⟩))) htake)
    | exact wpAny_bind (wpAny_bind (m := Builtin.Tuple.tupleExact _) (wpAny_newObj_type (wpAny_pure (wpAny_pure ⟨_, rfl, wpAny_pure h⟩)) htake))
    | exact wpAny_bind (wpAny_bind (m := Builtin.Tuple.tupleExact _) (wpAny_newObj_type (wpAny_pure ⟨_, rfl, wpAny_pure h⟩) htake))
end
def tRevA (K : PySem.W.Frag) (te : TE) : TE := fun σ H Q => te σ H fun x H1 => ∃ a xs, x = .ref a ∧ ((SqL K H1 a xs ∧ ∀ p, H1 p = none → Q (.ref p) (upd H1 p (.lst xs.reverse))) ∨ (SqT K H1 a xs ∧ ∀ p, H1 p = none → Q (.ref p) (upd H1 p (.tup xs.reverse))))
section
variable {X : Cx} {e : Expr} {te : TE} {k : Nat} {p1 p2 p3 pos : Pos}
theorem pe_revA (he : PE X e te) : PE X (.Subscript e (.Slice none none (some (.UnaryOp .USub (.Constant (.int 1) k p1) p2)) p3) pos) (tRevA X.K te) := by
  refine ⟨fun pins s σ H Q I h => ?_⟩
  refine Subscript_ (thn (he.run pins s σ H _ I h) fun v t1 ⟨x, H1, I1, r1, a, xs, ex, q⟩ => ?_)
  subst ex
  obtain rfl : v = .ref a := r1
  have hst : PO X (some (.UnaryOp .USub (.Constant (.int 1) k p1) p2)) (tPart (tUn (rU fun i => .int (-i)) (tC (.int 1)))) := po_some (pe_un un_neg pe_int)
  refine wpAny_Slice (thn (po_none.run pins t1 σ H1 (fun o Hx => o = none ∧ Hx = H1) I1 ⟨rfl, rfl⟩) fun vl t2 ⟨l, Hx, J2, pl, el, e2⟩ => ?_)
  subst el e2
  refine thn (po_none.run pins t2 σ Hx (fun o Hy => o = none ∧ Hy = Hx) J2 ⟨rfl, rfl⟩) fun vu t3 ⟨u, Hy, J3, pu, eu, e3⟩ => ?_
  subst eu e3
  refine thn (hst.run pins t3 σ Hy (fun o Hz => o = some (-1) ∧ Hz = Hy) J3 ⟨1, rfl, -1, rfl, rfl, rfl⟩) fun vs t4 ⟨o, Hz, J4, ps, eo, e4⟩ => ?_
  subst eo e4
  have J5 : Inv X pins σ Hz { t4 with heap := t4.heap.push { cls := .type "slice", data := .fields #[vl, vu, vs] } } := J4.kept (t' := t4.toks) fun b ob q => Heap.get?_push_of_some _ q
  show wpAny _ _ (subscriptTail e (.Slice none none (some (.UnaryOp .USub (.Constant (.int 1) k p1) p2)) p3) (.ref a) (.ref t4.heap.objs.size)) (EP X pins σ Q) X.xe _
  rcases q with ⟨hx, q⟩ | ⟨hx, q⟩
  · obtain ⟨its, r, ht, hz⟩ := J5.list hx
    have hlen := r.length
    refine tail_any (ops := [.ref a, .ref t4.heap.objs.size]) ht.isList.typeIs PySem.slot_list_getitem.lookup ?_ (by with_unfolding_all rfl)
    refine wpAny_getItem_list_slice ht.isList (Heap.IsSliceOf.new _ vl vu vs) pl pu ps (by decide) ?_ (by rw [List.size_toArray]; omega)
    rw [PySem.W.krv_pick]
    exact ⟨.ref _, _, J5.laid (t' := t4.toks) (o := .lst xs.reverse) (fun b ob q => Heap.get?_push_of_some _ q) (Nat.le_refl _) ⟨by rw [List.length_reverse]; exact hz, _, 0, r.reverse, Heap.get?_push_size _ rfl⟩, rfl, q _ (J5.hok.fresh (Nat.le_refl _))⟩
  · obtain ⟨its, r, ht, hz⟩ := J5.tuple hx
    have hlen := r.length
    cases pl
    cases pu
    refine tail_any (ops := [.ref a, .ref t4.heap.objs.size]) ht.typeIs slot_tuple_getitem.lookup ?_ (by with_unfolding_all rfl)
    refine item_tup_rev ht (Heap.IsSliceOf.new _ _ _ vs) ps ?_ (by rw [List.size_toArray]; omega)
    exact ⟨.ref _, _, J5.laid (t' := t4.toks) (o := .tup xs.reverse) (fun b ob q => Heap.get?_push_of_some _ q) (Nat.le_refl _) ⟨by rw [List.length_reverse]; exact hz, its.reverse, r.reverse, _, Heap.get?_push_size _ rfl, rfl, 0, by simp⟩, rfl, q _ (J5.hok.fresh (Nat.le_refl _))⟩
end
def revD : D → Option SV
  | .lst xs => some (.ow (.lst xs.reverse)) | .tup xs => some (.sh (.tup xs.reverse)) | _ => none
def pRev (f : P) : P := fun ρ st => match f ρ st with
  | none => none
  | some (s, st1) => match revD (dS st1 s) with
    | none => none
    | some r => some (r, st1)
section
variable {X : Cx} {e : Expr} {f : P} {k : Nat} {p1 p2 p3 pos : Pos}
theorem px_rev (he : PX X e f) : PX X (.Subscript e (.Slice none none (some (.UnaryOp .USub (.Constant (.int 1) k p1) p2)) p3) pos) (pRev f) := (pe_revA he).imp fun σ H Q w => by
  obtain ⟨B, T, β, ρ, st, sv, st', sr, e, q⟩ := w
  unfold pRev at e
  split at e
  · cases e
  next s st1 e1 =>
  split at e
  · cases e
  next r er =>
  cases e
  refine ⟨B, T, β, ρ, st, s, _, sr, e1, fun v H1 β1 as le fr P => ?_⟩
  have fin : FinG X.K X.mg β1 (Ma B (Tp T as) β1 σ ρ) H1 sv Q := P.fin (by unfold revD at er; split at er <;> cases er <;> rfl) fun v' H' β' as' le2 fr2 p => q v' H' β' as' (le.trans le2 fun a e n z => z.elim (le.out a e n) fun m => e (fr a m)) (fun a m => ?_) p
  · obtain ⟨v2, e5, r1⟩ := RwL.one P.rwl
    cases e5
    generalize dS st' s = d at er r1
    unfold revD at er
    split at er
    · cases er
      obtain ⟨a, vs, rfl, h1, h2⟩ := r1.lst
      exact ⟨a, vs, rfl, .inl ⟨sqL h1, fun p hp => fin p _ hp trivial (fun xs z => by cases z) (.inl ⟨_, _, rfl, rfl, h2.rev⟩)⟩⟩
    · cases er
      obtain ⟨a, vs, rfl, h1, h2⟩ := r1.tup
      exact ⟨a, vs, rfl, .inr ⟨sqT h1, fun p hp => fin.tup p _ _ rfl hp h2.rev⟩⟩
    · cases er
  · rcases fr2 a m with z | z
    · exact pos_mem (SR.βne sr) le (SR.βne P.sr) z
    · exact fr a z
end
end PL

/-! PLSetLc: name = [a comprehension], on one line. -/
namespace PL
open PySem PySem.Spec L2

theorem put_of {K : PySem.W.Frag} {mg : Str → Option Value} {m : Bool} {i : Nat} {p : P} {D : Ends} {σ : St} {H : Hp} (w : TSs K mg (sPut m i p) D σ H) : TP K mg p σ H fun v H1 => D.nx (σ.set i (some v)) H1 := by
  obtain ⟨B, T, β, ρ, st, fl, ρ', st', sr, e, q, r⟩ := w
  unfold sPut at e
  split at e
  · cases e
  next s st1 e1 =>
  split at e
  · cases e
  next ρ2 st2 e2 =>
  cases e
  refine ⟨B, T, β, ρ, st, s, st1, sr, e1, fun v H1 β1 as le fr P => ?_⟩
  obtain ⟨β2, as2, P2, l2⟩ := P.put1 (le.leSA fr) e2
  exact (q _ H1 β2 l2.dropA P2.drop).1 rfl
section
variable {X : Cx} {elt tg iter c : Expr} {scope : Scope} {own : List (Str × Nat)} {pos spos py : Pos} {s : Src} {g : Tg} {p q : P} {y : Str}
theorem sx_setLc0 (m : Bool) (i : Nat) (hc : X.calm = true) (hN : X.N.Nodup) (hi : IX X tg iter s) (ok : BlkOk X.N X.env.scope scope own) (hg : ∀ (s : Shared) (H : Hp) (C : Addr) (cl : List (Str × Addr)) (fp : List Addr), GX (X.blk s H scope (compEnvC scope cl C X.env) fp) tg g)
    (he : ∀ (s : Shared) (H : Hp) (C : Addr) (cl : List (Str × Addr)) (fp : List Addr), PX (X.blk s H scope (compEnvC scope cl C X.env) fp) elt p) (hy : X.N[i]? = some y := by rfl) (hyl : X.env.scope.names.lookup y = some .local := by rfl)
    (hk : X.env.scope.kind = .function := by rfl) (hl : (py.line == pos.line) = true := by rfl) (ha : (scope.names.any fun (n, k) => n == y && (k == .local || k == .cell)) = false := by rfl) (hs : ∀ x, foldedSetIterable iter X.env x = pure x := by intro _; rfl) :
    SX X (.Assign [.Name y py] (.ListComp elt [⟨tg, iter, [], 0⟩] scope pos) spos) (sPut m i (pLc s (own.map (·.2)) g none p)) :=
  (ps_unl (ps_setLc hc hN hy hyl (sw_true hk hyl hl ha) hi ok hg (fun _ _ _ _ _ => pts_nil) he hs)).imp fun _ _ _ w => lc_of (put_of w)
theorem sx_setLc1 (m : Bool) (i : Nat) (hc : X.calm = true) (hN : X.N.Nodup) (hi : IX X tg iter s) (ok : BlkOk X.N X.env.scope scope own) (hg : ∀ (s : Shared) (H : Hp) (C : Addr) (cl : List (Str × Addr)) (fp : List Addr), GX (X.blk s H scope (compEnvC scope cl C X.env) fp) tg g)
    (ht : ∀ (s : Shared) (H : Hp) (C : Addr) (cl : List (Str × Addr)) (fp : List Addr), TX (X.blk s H scope (compEnvC scope cl C X.env) fp) c q)
    (he : ∀ (s : Shared) (H : Hp) (C : Addr) (cl : List (Str × Addr)) (fp : List Addr), PX (X.blk s H scope (compEnvC scope cl C X.env) fp) elt p) (hy : X.N[i]? = some y := by rfl) (hyl : X.env.scope.names.lookup y = some .local := by rfl)
    (hk : X.env.scope.kind = .function := by rfl) (hl : (py.line == pos.line) = true := by rfl) (ha : (scope.names.any fun (n, k) => n == y && (k == .local || k == .cell)) = false := by rfl) (hs : ∀ x, foldedSetIterable iter X.env x = pure x := by intro _; rfl) :
    SX X (.Assign [.Name y py] (.ListComp elt [⟨tg, iter, [c], 0⟩] scope pos) spos) (sPut m i (pLc s (own.map (·.2)) g (some q) p)) :=
  (ps_unl (ps_setLc hc hN hy hyl (sw_true hk hyl hl ha) hi ok hg (fun s H C cl fp => pts_one (ht s H C cl fp)) he hs)).imp fun _ _ _ w => lc_of (put_of w)
end
end PL

set_option maxHeartbeats 2000000
/-! PLLaw: the law's def over the script; the end of a claim. -/
namespace PL
open PySem PySem.Spec L2

section
variable {P : Program} {w : World} {K : PySem.W.Frag} {mg mb : Str → Option Value} {k : Nat} {fa a : Addr} {g : Op} {s1 : Shared} {vs : List Value} {ns : List Int}
/-- from nothing but the script -/
theorem sim_start {H : Hp} (hO : Only H) (hr : Rp K mg [] (fun _ => False) H (.ref a) (.lst (ns.map .int))) {st' : Sto} (e : g [.sh (.lst (ns.map .int))] [] = some (.sh (.bl true), st')) : Sim K mg g [.ref a] H fun v _ => v = .bl true := by
  have n0 : ∀ (B T : Addr → Prop) (b : Addr), Ma (fun _ => False) (Tp (fun _ => False) []) [] [] [] b → False := fun B T b m => by
    rcases m with m | (m | m) | m | m
    · exact m
    · exact m
    · simp at m
    · simp at m
    · obtain ⟨i, d, e, _⟩ := m
      simp at e
  have hs : SR K mg (fun _ => False) (Tp (fun _ => False) []) [] [] H [] [] := ⟨rfl, fun i d e => by simp at e, fun i d e => by simp at e, fun i d e => by simp at e, fun i j d d' b e => by simp at e, fun b o => (by obtain ⟨i, d, e, _⟩ := o; simp at e), fun b o => (by obtain ⟨i, d, e, _⟩ := o; simp at e), fun b o => (by obtain ⟨i, d, e, _⟩ := o; simp at e), fun b m => by simp at m, fun b m => by simp at m, rfl, fun n ob b e => by simp at e, List.nodup_nil, fun b m => (n0 (fun _ => False) (fun _ => False) b m).elim⟩
  refine ⟨fun _ => False, fun _ => False, [], [], [], [], [.sh (.lst (ns.map .int))], [], _, st', ⟨hs, .nil, fun b m => by simp at m, .sh (hr.tr (Tr.sub fun b m => n0 (fun _ => False) (fun _ => False) b m) (List.prefix_refl _)) .nil⟩, e, fun v H' β' as le fr p => ?_⟩
  obtain ⟨w, ws, e1, r, _⟩ := p.rl.sh1
  cases e1
  exact r.bl1
theorem law_callG (KX : K.In s1.heap) (hns : s1.heap.Ns mainGlobals mg) (hb : s1.heap.Ns builtinsNs mb) (hbb : ∀ x : Str, x ≠ "__name__" → mb x = bootBuiltins x) (hlim : s1.heap.NoLimit) (hg : s1.gens = #[])
    (ha : s1.heap.get? a = some { cls := .type "list", data := .seq vs.toArray }) (hi : PyProof.Rows.IntsAre vs ns) (hl : ns.length ≤ sizeLine) (hr : Room k callerA)
    (F : ∀ base : Heap, K.In base → base.Ns mainGlobals mg → FnG P w K mg base k fa g) (hgo : ∃ st', g [.sh (.lst (ns.map .int))] [] = some (.sh (.bl true), st')) :
    codeAny (model P w) callerA (.call (.ref fa) ⟨[.ref a], []⟩) (fun r s' => r = .ok (.ret (.bool true)) ∧ OldK s1.heap s'.heap ∧ s'.os = s1.os ∧ PyProof.Rows.AllBare s'.gens) s1 := by
  obtain ⟨st', hgo⟩ := hgo
  have rv := vals_ints hi
  have lenV := PyProof.Rows.IntsAre.length hi
  have core : ∀ H : Hp, Only H → Rp K mg [] (fun _ => False) H (.ref a) (.lst (ns.map .int)) → HOk P w H s1.heap → (∀ b, H b ≠ none → b = a) → (H a ≠ none → K.lookup a = none) →
      codeAny (model P w) callerA (.call (.ref fa) ⟨[.ref a], []⟩) (fun r s' => r = .ok (.ret (.bool true)) ∧ OldK s1.heap s'.heap ∧ s'.os = s1.os ∧ PyProof.Rows.AllBare s'.gens) s1 := by
    intro H hO hS hok hA hK
    have untr : ∀ {b : Addr} {o : Obj}, s1.heap.get? b = some o → (b = a → H b = none) → (hidT s1.heap H).get? b = some o := fun {b o} e n => hidT_get e (by
      cases q : H b with
      | none => rfl
      | some u =>
        have e1 := hA b (by rw [q]; simp)
        rw [n e1] at q; cases q)
    have noD : ∀ {b : Addr} {o : Obj} {es : Array DictEntry} {ep : Nat}, s1.heap.get? b = some o → o.data = .dict es ep → b = a → H b = none := fun {b o es ep} e d z => by
      subst z
      rw [ha] at e; cases e
      have d' : Data.seq vs.toArray _ = Data.dict es ep := d
      cases d'
    have nsK : ∀ {b : Addr} {m : Str → Option Value}, s1.heap.Ns b m → (hidT s1.heap H).Ns b m := fun {b m} ⟨o, es, ep, e, d, r⟩ => ⟨o, es, ep, untr e (noD e d), d, r⟩
    have hKb : K.In (hidT s1.heap H) := fun b o e => untr (KX b o e) fun z => by
      cases q : H b with
      | none => rfl
      | some u =>
        subst z
        rw [hK (by rw [q]; simp)] at e; cases e
    obtain ⟨mc, g1, g2⟩ := hlim
    have hM : Mod K mg (hidT s1.heap H) := ⟨hKb, nsK hns, ⟨mb, nsK hb, hbb⟩, mc, nsK g1, g2⟩
    have e0 : Env0 P w K mg (hidT s1.heap H) callerA [] s1 H := ⟨rfl, hM, fun b o e => of_hidT e, Nat.le_of_eq (hidT_size _ _), trivial, fun b z => absurd (show b ∈ ([] : List Addr) from z) (by simp), hok, .of_eq hg⟩
    refine codeAny_mono (F _ hKb (nsK hns) callerA [] s1 H [.ref a] [.ref a] _ hr rfl e0 (.cons rfl .nil) (sim_start hO hS hgo)) fun r s' h => ?_
    cases r with
    | error e => exact h.elim
    | ok fl =>
      cases fl with
      | next => exact h.elim
      | brk => exact h.elim
      | cont => exact h.elim
      | ret u =>
        obtain ⟨v, H', os, bare, un, hok', r', q⟩ := h
        obtain rfl : v = .bl true := q
        obtain rfl : u = Value.bool true := r'
        refine ⟨rfl, OldK.of_keep fun b o e => ?_, os, bare⟩
        cases q : H b with
        | none => exact un.keep b o e q (fun z => absurd (show b ∈ ([] : List Addr) from z) (by simp)) (by simp)
        | some u =>
          rcases hO b with z | ⟨ob, xs, z⟩
          · rw [q] at z; cases z
          · obtain ⟨e1, _⟩ := hok b _ z
            obtain ⟨e2, _⟩ := hok' b _ (un.frzs b ob _ z)
            rw [e] at e1; cases e1
            exact e2
  cases hk : K.lookup a with
  | some o =>
    have e := KX a o hk
    rw [ha] at e
    cases e
    refine core (fun _ => none) (fun _ => .inl rfl) (.lstK ⟨vs.toArray, _, hk, by rw [List.size_toArray, lenV]; exact hl, by simpa using rv⟩ ?_) (fun b u z => nomatch z) (fun b z => absurd rfl z) fun z => absurd rfl z
    have := RpL.of_ints (K := K) (mg := mg) (β := []) (M := fun _ => False) (H := fun _ => none) ns
    exact this
  | none =>
    refine core (fun b => if b = a then some (.frz { cls := .type "list", data := .seq vs.toArray } (.lst (ns.map V.int))) else none) (fun b => ?_) (.lst (.inr ⟨_, if_pos rfl⟩) (fun z => z) (RpL.of_ints ns)) (fun b u z => ?_) (fun b z => ?_) fun _ => hk
    · by_cases hb : b = a
      · exact .inr ⟨_, _, if_pos hb⟩
      · exact .inl (if_neg hb)
    · by_cases hb : b = a
      · have z' := (if_pos hb).symm.trans z
        cases z'
        subst hb
        exact ⟨ha, by rw [List.length_map]; exact hl, vs, _, rv, ha⟩
      · have z' := (if_neg hb).symm.trans z
        cases z'
    · by_cases hb : b = a
      · exact hb
      · exact absurd (if_neg hb) z
end
/-- the end of a claim -/
theorem walk_ofG {l : PySem.W.OpenLaw} {n k : Nat} {q : Program} {loose : List Str} {XP : (Str → Option Value) → Heap → Prop} {YP : World → Heap → Prop} {d : DefRec} {g : Op}
    (hn : l.most = some n) (hn2 : n ≤ sizeLine) (hdf : d.params.defaults = []) (hr : Room k callerA)
    (F : ∀ (w : World) (mg : Str → Option Value) (fa : Addr) (h : Heap), YP w h → h.Ns mainGlobals mg → mg d.name = some (.ref fa) → ∃ K : PySem.W.Frag, K.In h ∧ ∀ base : Heap, K.In base → base.Ns mainGlobals mg → FnG l.prog w K mg base k fa g)
    (law : ∀ ns : List Int, ns.length ≤ n → ∃ st', g [.sh (.lst (ns.map .int))] [] = some (.sh (.bl true), st')) : PySem.W.WalkO q loose XP YP l.row.toRowW d [] (fun f vs => PySem.call f vs) := by
  refine Att.attach_call hn hdf fun w s₀ s1 mg mb fa o pm cd doc a vs ns G Y ho hd hcd hmg hobj hints hlen hg => ?_
  obtain ⟨K, KX, hF⟩ := F w mg fa _ Y G.T.g hmg
  exact law_callG KX G.T.g G.T.b G.T.builtins G.T.nolimit hg hobj hints (Nat.le_trans hlen hn2) hr hF (law ns hlen)
end PL

/-! PLCallV: a def called by a local name. -/
namespace PL
open PySem PySem.Spec L2

def fnOp (tbl : List (Str × Op)) (x : Str) : Option Op := (tbl.find? fun p => decide (p.1 = x)).map (·.2)
/-- x(..), the local x holds one of the defs of tbl -/
def pCallV (tbl : List (Str × Op)) (i : Nat) (ga : Ar) : P := fun ρ st => match ρ[i]? with
  | some (some (.sh (.fn x))) => (match fnOp tbl x with
    | some op => pOp op ga ρ st
    | none => none)
  | _ => none
section
variable {X : Cx} {k j : Nat} {x : Str} {p pos : Pos} {e : Expr} {es : List Expr} {ga : Ar} {tbl : List (Str × Op)}
theorem px_callV (i : Nat) (F : ∀ q ∈ tbl, ∃ f, X.mg q.1 = some (.ref f) ∧ FnG X.prog X.w X.K X.mg X.base k f q.2) (hr : Room j X.A) (hj : k ≤ j) (hgd : X.A.guards = some [])
    (ha : AX X (e :: es) ga) (hN : X.N[i]? = some x := by rfl) (hv : Vis X.env.scope x := by first | exact Or.inl rfl | exact Or.inr (Or.inl rfl) | exact Or.inr (Or.inr rfl)) (hd : (x == ("__debug__" : Str)) = false := by decide) (hcd : (x == ("__classdict__" : Str)) = false := by decide)
    (he : starEach (e :: es) X.env = (false, eval e X.env) :: starEach es X.env := by rfl) (hpl : (backTo pos (starEach es X.env)).any (·.1) = false := by rfl) : PX X (.Call (.Name x p) (e :: es) [] pos) (pCallV tbl i ga) := by
  refine ⟨fun pins s σ H Q I h => ?_⟩
  obtain ⟨B, T, β, ρ, st, sv, st', sr, eq, q⟩ := h
  unfold pCallV at eq
  split at eq
  case h_2 => cases eq
  next y ey =>
  split at eq
  case h_2 => cases eq
  next op eop =>
  obtain ⟨v, ev, r⟩ := sr.sh i _ ey
  cases r with
  | @fn a _ hm hk =>
  obtain ⟨pr, hf, rfl⟩ := Option.map_eq_some_iff.mp eop
  have hmem := List.mem_of_find?_eq_some hf
  have hx : pr.1 = y := by simpa using List.find?_some hf
  obtain ⟨f, hmf, FG⟩ := F pr hmem
  rw [hx] at hmf
  have hfa : f = a := by rw [hm] at hmf; cases hmf; rfl
  subst hfa
  refine wpAny_Call_Name_kw (thn ((pe_var (pos := p) hN hv hd hcd).run pins s σ H (fun v H1 => v = .ref f ∧ H1 = H) I ⟨_, ev, rfl, rfl⟩) fun u s0 ⟨w, H1, I1, ru, ew, eH⟩ => ?_)
  subst ew; subst eH
  obtain rfl : u = .ref f := ru
  refine PySem.W.callWith_K (h₀ := X.base) I.ok.mod.kin hk (thn (ha.run pos pins s0 σ H1 _ I1 (sim_of ⟨B, T, β, ρ, st, sv, st', sr, eq, q⟩)) fun us s1 ⟨vs, H2, I2, r2, q2⟩ => ⟨I2.kIn, ?_⟩) he hpl
  exact run_fg FG (hr.mono hj) hgd I2 r2 q2
end
end PL

/-! PLFunD: defs as the head tells them. -/
namespace PL
open PySem PySem.Spec L2

theorem fg_ofD {P : Program} {w : World} {K : PySem.W.Frag} {mg : Str → Option Value} {base : Heap} {k n : Nat} {f : Addr} {fd : FuncData} {x qual : Str} {params : Arguments} {body : List Stmt} {scope : Scope} {N ps : List Str} {b : S}
    (F : FunD K x qual params body scope [] [] f fd) (S : FnScope N ps scope) (hn : N.length = n)
    (bd : ∀ (kV doc pm : Value) (an : Option Addr) (cdv ct : Value) (us : List Value), us.length = ps.length → bindArgs (PySem.W.fnOf x qual params body scope .none kV doc pm an cdv ct) ⟨us, []⟩ = pure (ps.zip us))
    (hb : ∀ (cdv : Value) (A : Around) (outer : List Env) (s : Shared) (H : Hp), Room k (A.deeper (PyProof.Rows.envOfC qual scope s.heap.objs.size f cdv)) → A.guards = some [] → BX (cxOf CX0 P w K mg base N qual scope f cdv A outer s H E0).nox body b) :
    FnG P w K mg base (k + 1) f (runF ps.length n b) := by
  have bd0 := F.bindsN bd
  intro A outer s H us vs Q hr hg e0 r hsp
  obtain ⟨oc, od, dV, kV, doc, pm, an, cdv, ct, osl, rfl, lk, hcd, _, _⟩ := F.ex
  have hlv : vs.length = ps.length := spF_len (E := E0) (show spF K mg (runF ps.length n b) vs H Q E0 from hsp)
  have hlu : (us ++ ([] : List Value)).length = ps.length := by rw [List.append_nil, ← r.length]; exact hlv
  have KX : K.In s.heap := e0.mod.kin.keeps fun c o e => (e0.bs c o e).1
  have bnd := bd0 s us KX hlu
  rw [List.append_nil] at bnd
  have lim : s.heap.NoLimit := e0.mod.nolimit.keeps fun c o e => (e0.bs c o e).1
  have kinds : ∀ y ∈ ps.zip us, scope.names.lookup y.1 = some .local ∨ (scope.names.lookup y.1 = some .cell ∧ ((cellsFrom (s.heap.objs.size + 1) scope.names []).lookup y.1).isSome = true) := fun ⟨m, v⟩ hy =>
    (S.par m (List.of_mem_zip hy).1).imp id fun q => ⟨q, PySem.W.cellsFrom_some _ _ _ (.inl q)⟩
  refine codeAny_call_function hr.depth (KX _ _ lk) rfl S.co S.gen rfl (PySem.W.codeRec_of KX hcd) (bnd _ _ _ _ ?_)
  refine wpAny_newFunctionEnv_cells S.kind kinds fun env he s1 x => ?_
  subst he
  refine ⟨lim.keeps x.toInCall.keep, codeAny_func ?_⟩
  have ht := (hb cdv A outer s H (hr.deeper _) hg).nox
  have hq := body_of hn (show spF K mg (runF ps.length n b) vs H Q E0 from hsp)
  have I := inv_start (CX := CX0) (E := E0) S hr.hd e0 hlv r x
  refine wpAny_mono (ht.run [] s1 (L2.start N vs) H _ I hq) (fun fl s' hs => ?_) fun e s' hs => hs
  cases fl with
  | ret u => exact let ⟨v, _, H', J, rv, q⟩ := hs; ⟨v, H', J.os, J.bare, J.base, J.hok, rv, q⟩
  | next => exact let ⟨_, H', J, q⟩ := hs; ⟨V.non, H', J.os, J.bare, J.base, J.hok, rfl, q⟩
  | brk => exact let ⟨_, _, _, q⟩ := hs; q.elim
  | cont => exact let ⟨_, _, _, q⟩ := hs; q.elim
end PL

/-! PLStmt3: a local handed back, whatever it holds; values forgotten; a, b = x, y where a name is captured. -/
namespace PL
open PySem PySem.Spec L2

def sRetV (i : Nat) : S := fun ρ st => match ρ[i]? with
  | some (some (.ow d)) => some (.rt (.ow d), ρ, st)
  | some (some (.sh d)) => some (.rt (.sh d), ρ, st)
  | _ => none
/-- what the slots hold is forgotten -/
def clrs : List Nat → Lo → Lo
  | [], ρ => ρ
  | i :: is, ρ => clrs is (ρ.set i none)
def sClr (is : List Nat) (f : S) : S := fun ρ st => f (clrs is ρ) st
section
variable {K : PySem.W.Frag} {mg : Str → Option Value} {β : List Addr} {B T : Addr → Prop} {H : Hp} {σ : St} {ρ : Lo} {st : Sto} {i : Nat} {d : D}
theorem get_setN {α : Type} {l : List (Option α)} {i j : Nat} {x : α} (e : (l.set i none)[j]? = some (some x)) : i ≠ j ∧ l[j]? = some (some x) := by
  by_cases h : i = j
  · subst h
    by_cases hl : i < l.length
    · rw [List.getElem?_set_self hl] at e; cases e
    · rw [List.getElem?_eq_none (by simpa using hl)] at e; cases e
  · rw [List.getElem?_set_ne h] at e
    exact ⟨h, e⟩
theorem SR.clr1 (h : SR K mg B T β σ H ρ st) (i : Nat) : SR K mg B T β σ H (ρ.set i none) st ∧ ∀ a, own σ (ρ.set i none) a → own σ ρ a := by
  have so : ∀ b, own σ (ρ.set i none) b → own σ ρ b := fun b ⟨j, d, f1, f2⟩ => ⟨j, d, (get_setN f1).2, f2⟩
  have sub : ∀ b, Ma B T β σ (ρ.set i none) b → Ma B T β σ ρ b := fun b m => by
    rcases m with m | m | m | m
    · exact .inl m
    · exact .inr (.inl m)
    · exact .inr (.inr (.inl m))
    · exact .inr (.inr (.inr (so b m)))
  have t := Tr.sub (H := H) sub
  refine ⟨⟨by simp [h.len], fun j d' f => ?_, fun j d' f => ?_, fun j d' f => ?_, fun j k d1 d2 b f1 f2 f3 f4 => h.sep j k d1 d2 b (get_setN f1).2 f2 (get_setN f3).2 f4, fun b m => h.ownβ b (so b m), fun b m => h.ownT b (so b m), fun b m => h.ownB b (so b m), h.βT, h.βB, h.stl, fun n ob a e1 e2 => (h.sto n ob a e1 e2).tr t (List.prefix_refl _) fun u q => q, h.nd, fun a m => h.dom a (sub a m)⟩, so⟩
  · obtain ⟨w, g1, g2⟩ := h.sh j d' (get_setN f).2
    exact ⟨w, g1, g2.tr t (List.prefix_refl _)⟩
  · obtain ⟨w, g1, g2⟩ := h.ow j d' (get_setN f).2
    exact ⟨w, g1, Ct.tr t (List.prefix_refl _) g2 fun u _ q => q⟩
  · obtain ⟨w, g1, n1, n2, n3, g2⟩ := h.ro j d' (get_setN f).2
    exact ⟨w, g1, n1, fun m => n2 (so w m), n3, Ct.tr t (List.prefix_refl _) g2 fun u _ q => q⟩
theorem SR.clrs (h : SR K mg B T β σ H ρ st) : ∀ is : List Nat, SR K mg B T β σ H (clrs is ρ) st ∧ ∀ a, own σ (clrs is ρ) a → own σ ρ a := by
  intro is
  induction is generalizing ρ with
  | nil => exact ⟨h, fun a m => m⟩
  | cons i is ih =>
    obtain ⟨h1, o1⟩ := h.clr1 i
    obtain ⟨h2, o2⟩ := ih h1
    exact ⟨h2, fun a m => o1 a (o2 a m)⟩
end
section
variable {X : Cx} {s : Stmt} {f : S} {pos px py pt pt2 : Pos} {x y : Str} {kt k2 : Nat} {a b : Expr} {ga : Ar}
theorem sx_clr (is : List Nat) (h : SX X s f) : SX X s (sClr is f) := PS.imp h fun D σ H w => by
  obtain ⟨B, T, β, ρ, st, fl, ρ', st', sr, e, q, r⟩ := w
  obtain ⟨s1, o1⟩ := sr.clrs is
  have l1 : LeS β σ ρ H β σ (clrs is ρ) H [] := ⟨fun a u e _ => e, List.prefix_refl _, fun a e n => ⟨fun z => n (z.elim .inl fun m => .inr (o1 a m)), by simp⟩⟩
  exact ⟨B, T, β, clrs is ρ, st, fl, ρ', st', s1, e, fun σ2 H2 β2 le2 s2 => q σ2 H2 β2 (l1.trans le2) s2, fun x v H2 β2 as z le2 p2 => r x v H2 β2 as z (l1.trans le2) p2⟩
theorem sx_retV (i : Nat) {p2 : Pos} (hN : X.N[i]? = some x := by rfl) (hv : Vis X.env.scope x := by first | exact Or.inl rfl | exact Or.inr (Or.inl rfl) | exact Or.inr (Or.inr rfl)) (hd : (x == ("__debug__" : Str)) = false := by decide)
    (hcd : (x == ("__classdict__" : Str)) = false := by decide) : SX X (.Return (some (.Name x p2)) pos) (sRetV i) := ⟨fun pins s σ H D I w => by
  by_cases hw : ∃ d, TSs X.K X.mg (sRetMv i) D σ H ∧ d = 0
  · obtain ⟨_, hw, _⟩ := hw
    exact (sx_retMv i hN hv hd hcd).run pins s σ H D I hw
  · refine (sx_ret (px_var i hN hv hd hcd)).run pins s σ H D I ?_
    obtain ⟨B, T, β, ρ, st, fl, ρ', st', sr, e, q, r⟩ := w
    unfold sRetV at e
    split at e
    · next d e1 =>
      cases e
      exact absurd ⟨0, ⟨B, T, β, ρ, st, _, _, _, sr, by unfold sRetMv; rw [e1], q, r⟩, rfl⟩ hw
    · next d e1 =>
      cases e
      exact ⟨B, T, β, ρ, st, _, _, _, sr, by unfold sRet pVar; rw [e1]; rfl, q, r⟩
    · cases e⟩
/-- a, b = x, y by way of the pair itself -/
theorem sx_par2c (m1 m2 : Bool) (i j : Nat) (hc : X.calm = true) (hN : X.N.Nodup) (ha : AX X [a, b] ga) (hi : X.N[i]? = some x := by rfl) (hj : X.N[j]? = some y := by rfl) (hx : Loc X.env.scope x := by first | exact Or.inl rfl | exact Or.inr rfl) (hy : Loc X.env.scope y := by first | exact Or.inl rfl | exact Or.inr rfl)
    (hfx : X.fn x = true ∨ X.env.scope.names.lookup x = some .local := by first | exact .inl rfl | exact .inr rfl | assumption) (hfy : X.fn y = true ∨ X.env.scope.names.lookup y = some .local := by first | exact .inl rfl | exact .inr rfl | assumption)
    (hs : swapsWithSole [.Tuple [.Name x px, .Name y py] kt pt] (.Tuple [a, b] k2 pt2) pos.line X.env = pure false := by rfl) (hw : swappedStores [.Tuple [.Name x px, .Name y py] kt pt] (.Tuple [a, b] k2 pt2) X.env = pure none := by rfl)
    (h1 : (assignEach [.Tuple [.Name x px, .Name y py] kt pt] X.env).map (·.2) = [assign (.Tuple [.Name x px, .Name y py] kt pt) X.env] := by rfl)
    (hn : (assignEach [.Name x px, .Name y py] X.env).length = 2 := by rfl) (hst : (assignEach [.Name x px, .Name y py] X.env).findIdx? (·.1) = none := by rfl)
    (he1 : (assignEach [.Name x px, .Name y py] X.env).map (·.2) = assign (.Name x px) X.env :: (assignEach [.Name y py] X.env).map (·.2) := by rfl) (he2 : (assignEach [.Name y py] X.env).map (·.2) = assign (.Name y py) X.env :: (assignEach [] X.env).map (·.2) := by rfl) :
    SX X (.Assign [.Tuple [.Name x px, .Name y py] kt pt] (.Tuple [a, b] k2 pt2) pos) (sPar2 m1 i m2 j ga) :=
  (ps_asg (pe_tup ha) (pg_tup (n := 2) hc (pgs_cons (pg_name hN hi hx hfx) (pgs_cons (pg_name hN hj hy hfy) pgs_nil he2) he1) hn hst) hs hw h1).imp fun D σ H w => by
  obtain ⟨B, T, β, ρ, st, fl, ρ', st', sr, e, q, r⟩ := w
  unfold sPar2 at e
  split at e
  case h_2 => cases e
  next s1 s2 st1 e1 =>
  split at e
  · cases e
  next ρ2 st2 e2 =>
  split at e
  · cases e
  next ρ3 st3 e3 =>
  cases e
  refine ⟨B, T, β, ρ, st, _, st1, sr, e1, fun vs H1 β1 as le fr P => ?_⟩
  have hl := RL.length P.rl
  match vs, hl with
  | [v, w], _ =>
    refine ⟨by rw [sizeLine_eq]; simp, fun l hl => ?_⟩
    have P0 := P.heap (H' := upd H1 l (.tup [v, w])) (fun a u h _ => ex_rd (up_ex hl a) h) (fun a xs h => up_ex hl a _ h) fun a m => by
      rw [upd_ne (fun z => by subst z; exact (P.sr.dom a m).1 hl)]
    have le0 : Le (fun a => a ∈ β) β H β1 (upd H1 l (.tup [v, w])) := (le.trans (up_le hl fun a m => m) fun a e n => le.out a e n)
    obtain ⟨β2, as2, P2, l2⟩ := P0.put1 (le0.leSA fr) e2
    obtain ⟨β3, as3, P3, l3⟩ := P2.put1 l2 e3
    exact ⟨l, [v, w], rfl, .inl (.inl upd_same), rfl, v, [w], rfl, w, [], rfl, rfl, (q _ _ β3 l3.dropA P3.drop).1 rfl⟩
/-- a, b, c = x, y, z by way of the tuple itself -/
theorem sx_par3c {c : Expr} {z : Str} {pz : Pos} (m1 m2 m3 : Bool) (i j l : Nat) (hc : X.calm = true) (hN : X.N.Nodup) (ha : AX X [a, b, c] ga) (hi : X.N[i]? = some x := by rfl) (hj : X.N[j]? = some y := by rfl) (hl : X.N[l]? = some z := by rfl) (hx : Loc X.env.scope x := by first | exact Or.inl rfl | exact Or.inr rfl) (hy : Loc X.env.scope y := by first | exact Or.inl rfl | exact Or.inr rfl) (hz : Loc X.env.scope z := by first | exact Or.inl rfl | exact Or.inr rfl)
    (hfx : X.fn x = true ∨ X.env.scope.names.lookup x = some .local := by first | exact .inl rfl | exact .inr rfl | assumption) (hfy : X.fn y = true ∨ X.env.scope.names.lookup y = some .local := by first | exact .inl rfl | exact .inr rfl | assumption) (hfz : X.fn z = true ∨ X.env.scope.names.lookup z = some .local := by first | exact .inl rfl | exact .inr rfl | assumption)
    (hs : swapsWithSole [.Tuple [.Name x px, .Name y py, .Name z pz] kt pt] (.Tuple [a, b, c] k2 pt2) pos.line X.env = pure false := by rfl) (hw : swappedStores [.Tuple [.Name x px, .Name y py, .Name z pz] kt pt] (.Tuple [a, b, c] k2 pt2) X.env = pure none := by rfl)
    (h1 : (assignEach [.Tuple [.Name x px, .Name y py, .Name z pz] kt pt] X.env).map (·.2) = [assign (.Tuple [.Name x px, .Name y py, .Name z pz] kt pt) X.env] := by rfl)
    (hn : (assignEach [.Name x px, .Name y py, .Name z pz] X.env).length = 3 := by rfl) (hst : (assignEach [.Name x px, .Name y py, .Name z pz] X.env).findIdx? (·.1) = none := by rfl)
    (he1 : (assignEach [.Name x px, .Name y py, .Name z pz] X.env).map (·.2) = assign (.Name x px) X.env :: (assignEach [.Name y py, .Name z pz] X.env).map (·.2) := by rfl) (he2 : (assignEach [.Name y py, .Name z pz] X.env).map (·.2) = assign (.Name y py) X.env :: (assignEach [.Name z pz] X.env).map (·.2) := by rfl) (he3 : (assignEach [.Name z pz] X.env).map (·.2) = assign (.Name z pz) X.env :: (assignEach [] X.env).map (·.2) := by rfl) :
    SX X (.Assign [.Tuple [.Name x px, .Name y py, .Name z pz] kt pt] (.Tuple [a, b, c] k2 pt2) pos) (sPar3 m1 i m2 j m3 l ga) :=
  (ps_asg (pe_tup ha) (pg_tup (n := 3) hc (pgs_cons (pg_name hN hi hx hfx) (pgs_cons (pg_name hN hj hy hfy) (pgs_cons (pg_name hN hl hz hfz) pgs_nil he3) he2) he1) hn hst) hs hw h1).imp fun D σ H w => by
  obtain ⟨B, T, β, ρ, st, fl, ρ', st', sr, e, q, r⟩ := w
  unfold sPar3 at e
  split at e
  case h_2 => cases e
  next s1 s2 s3 st1 e1 =>
  split at e
  · cases e
  next ρ2 st2 e2 =>
  split at e
  · cases e
  next ρ3 st3 e3 =>
  split at e
  · cases e
  next ρ4 st4 e4 =>
  cases e
  refine ⟨B, T, β, ρ, st, _, st1, sr, e1, fun vs H1 β1 as le fr P => ?_⟩
  have hlen := RL.length P.rl
  match vs, hlen with
  | [v, w, u], _ =>
    refine ⟨by rw [sizeLine_eq]; simp, fun p hp => ?_⟩
    have P0 := P.heap (H' := upd H1 p (.tup [v, w, u])) (fun a u h _ => ex_rd (up_ex hp a) h) (fun a xs h => up_ex hp a _ h) fun a m => by
      rw [upd_ne (fun z => by subst z; exact (P.sr.dom a m).1 hp)]
    have le0 : Le (fun a => a ∈ β) β H β1 (upd H1 p (.tup [v, w, u])) := (le.trans (up_le hp fun a m => m) fun a e n => le.out a e n)
    obtain ⟨β2, as2, P2, l2⟩ := P0.put1 (le0.leSA fr) e2
    obtain ⟨β3, as3, P3, l3⟩ := P2.put1 l2 e3
    obtain ⟨β4, as4, P4, l4⟩ := P3.put1 l3 e4
    exact ⟨p, [v, w, u], rfl, .inl (.inl upd_same), rfl, v, [w, u], rfl, w, [u], rfl, u, [], rfl, rfl, (q _ _ β4 l4.dropA P4.drop).1 rfl⟩
end
end PL

/-! PLRange: list(range(n)). -/
namespace PL
open PySem PySem.Spec L2

def intsUp (j : Int) : List Int := (List.range j.toNat).map fun (i : Nat) => (i : Int)
def rRngL (H : Hp) (vs : List V) (Q : VK) : Prop := ∃ a lo hi, vs = [.ref a] ∧ H a = some (.rng lo hi) ∧ lo = 0 ∧ -(2 ^ 62) ≤ hi ∧ hi ≤ 16777216 ∧ ∀ p, H p = none → Q (.ref p) (upd H p (.lst ((intsUp hi).map .int)))
section
variable {X : Cx}
theorem cr_rng1 : CallR X (.type "range") (fun vs H Q => ∃ j, vs = [V.int j] ∧ ∀ p, H p = none → Q (.ref p) (upd H p (.rng 0 j))) := by
  intro pins s σ H vs us Q I r h
  obtain ⟨j, rfl, q⟩ := h
  obtain ⟨u1, rfl, rj⟩ := vals1 r
  obtain ⟨t, rfl⟩ := rj
  exact call_range_1 ⟨.ref s.heap.objs.size, upd H s.heap.objs.size (.rng 0 j), I.laid (t' := s.toks + 1 + 1) (fun b o e => Heap.get?_push_of_some _ e) (Nat.le_refl _) ⟨s.toks, t, s.toks + 1, Heap.get?_push_size _ rfl⟩, rfl, q _ (I.hok.fresh (Nat.le_refl _))⟩
theorem cr_listRng (hc : X.calm = true) : CallR X (.type "list") (fun vs H Q => rRngL H vs Q) := by
  intro pins s σ H vs us Q I r h
  obtain ⟨a, lo, hi, rfl, ha, rfl, h1, h2, q⟩ := h
  obtain ⟨u, rfl, ru⟩ := vals1 r
  obtain rfl : u = .ref a := ru
  obtain ⟨t1, t2, t3, ho⟩ := I.hok a _ ha
  have hn : Builtin.Range.rangeSize 0 hi 1 = (hi.toNat : Int) := by
    unfold Builtin.Range.rangeSize
    rw [if_pos (by decide)]
    by_cases h : (0 : Int) < hi
    · rw [if_pos h, Int.ediv_one]; omega
    · rw [if_neg h]; omega
  have hs : Builtin.Range.small 0 hi 1 = true := by
    have fit : ∀ k : Int, -(2 ^ 62) ≤ k → k < 2 ^ 62 → Builtin.Range.rangeFitsLong k = true := fun k a b => by
      unfold Builtin.Range.rangeFitsLong
      simp
      omega
    unfold Builtin.Range.small
    simp only [hn, fit 0 (by decide) (by decide), fit 1 (by decide) (by decide), fit hi (by omega) (by omega), fit (hi.toNat : Int) (by omega) (by omega), Bool.and_true, Bool.or_true, Bool.true_and, if_true]
    simp
    exact .inr (fit hi (by omega) (by omega))
  refine call_list_range (I.ok.hd hc) ho hs hn (by omega) fun h' tk acc c' hk hS hacc => ?_
  obtain ⟨hsz, hit⟩ := hacc
  have hv : Vals ((intsUp hi).map V.int) acc.toList := by
    obtain ⟨xs, hvv, hp⟩ := vals_pick (P := fun i x => x = .int (i : Nat)) acc.toList 0 fun i y ey => by
      obtain ⟨t, rfl⟩ := hit i y (by rw [← Array.getElem?_toList]; exact ey)
      exact ⟨.int (i : Nat), by simp, t, by simp⟩
    have hl : xs.length = hi.toNat := by rw [hvv.length]; simpa using hsz
    have : xs = (intsUp hi).map V.int := by
      apply List.ext_getElem?
      intro i
      by_cases hi' : i < hi.toNat
      · have e := hp i _ (List.getElem?_eq_getElem (by omega : i < xs.length))
        rw [List.getElem?_eq_getElem (by omega : i < xs.length), e]
        simp [intsUp, hi']
      · rw [List.getElem?_eq_none (by omega), List.getElem?_eq_none (by simp [intsUp]; omega)]
    rw [← this]; exact hvv
  refine ⟨.ref _, _, I.laid (t' := tk) hk (Nat.le_refl _) (o := .lst ((intsUp hi).map .int)) ⟨?_, acc.toList, c', hv, by rw [Array.toArray_toList]; exact hS⟩, rfl, q _ (I.hok.fresh (Nat.le_refl _))⟩
  rw [sizeLine_eq, List.length_map]
  simp [intsUp]
  omega
end
/-- list(range(f)) -/
def pListRng (f : P) : P := fun ρ st => match f ρ st with
  | some (.sh (.int j), st1) => if -(2 ^ 62) ≤ j ∧ j ≤ 16777216 then some (.ow (.lst ((intsUp j).map .int)), st1) else none
  | _ => none
section
variable {X : Cx} {e : Expr} {f : P} {p1 p2 q1 q2 : Pos}
theorem px_listRng (hc : X.calm = true) (g1 : Gl X "list") (m1 : X.mg "list" = none) (g2 : Gl X "range") (m2 : X.mg "range" = none) (he : PX X e f)
    (hs1 : starEach [e] X.env = [(false, eval e X.env)] := by rfl) (hs2 : starEach [.Call (.Name "range" p2) [e] [] q2] X.env = [(false, eval (.Call (.Name "range" p2) [e] [] q2) X.env)] := by rfl) : PX X (.Call (.Name "list" p1) [.Call (.Name "range" p2) [e] [] q2] [] q1) (pListRng f) :=
  (pe_callTy (cr_listRng hc) g1 m1 rfl (pa_cons (pe_callTy cr_rng1 g2 m2 rfl (pa_cons he pa_nil hs1) (by decide) (by decide) hs1 rfl) pa_nil hs2) (by decide) (by decide) hs2 rfl).imp fun σ H Q w => by
  obtain ⟨B, T, β, ρ, st, sv, st', sr, e, q⟩ := w
  unfold pListRng at e
  split at e
  case h_2 => cases e
  next j st1 e1 =>
  split at e
  case isFalse => cases e
  next hk =>
  cases e
  refine ⟨B, T, β, ρ, st, _, _, sr, e1, fun v H1 β1 as le fr P => ?_⟩
  obtain ⟨ws, e5, r1⟩ := P.rl.int1
  cases e5
  refine ⟨j, rfl, fun p hp => ⟨p, 0, j, rfl, upd_same, rfl, hk.1, hk.2, fun l hl => ?_⟩⟩
  have P2 := P.heap (H' := upd H1 p (.rng 0 j)) (fun a u h _ => ex_rd (up_ex hp a) h) (fun a xs h => up_ex hp a _ h) fun a m => by
    rw [upd_ne (fun z => by subst z; exact (P.sr.dom a m).1 hp)]
  have le2 : Le (fun a => a ∈ β1) β1 H1 β1 (upd H1 p (.rng 0 j)) := up_le hp fun a m => m
  refine P2.newO (fun v' H' β' as' le3 fr3 P3 => q v' H' β' as' (((le.trans le2 fun a e n => le.out a e n)).trans le3 fun a e n z => z.elim ((le.trans le2 fun a e n => le.out a e n).out a e n) fun m => e (fr a m)) (fun a m => ?_) P3) hl trivial (fun xs z => by cases z) (.inl ⟨_, _, rfl, rfl, RpL.of_ints _⟩)
  rcases fr3 a m with z | z
  · cases e0 : H1 a with
    | none => exact pos_mem (SR.βne sr) le (SR.βne P.sr) e0
    | some u => rw [up_ex hp a u e0] at z; cases z
  · exact fr a z
end
end PL

/-! PLBlk: a comprehension's names, by a Bool. -/
namespace PL
open PySem PySem.Spec L2

def blkB (N : List Str) (sc scope : Scope) (own : List (Str × Nat)) : Bool :=
  decide (scope.kind = .function) && scope.names.all (fun y => decide (scope.names.lookup y.1 = some y.2)) && own.all (fun p => decide (N[p.2]? = some p.1)) &&
  scope.names.all (fun y => decide (y.2 = .free → sc.names.lookup y.1 = some .cell ∨ sc.names.lookup y.1 = some .free)) && scope.names.all (fun y => decide (y.2 = .local ∨ y.2 = .cell → y.1 ∈ own.map (·.1) ∨ y.1 ∉ N))
theorem blk_of {N : List Str} {sc scope : Scope} {own : List (Str × Nat)} (h : blkB N sc scope own = true) : BlkOk N sc scope own := by
  unfold blkB at h
  simp only [Bool.and_eq_true, List.all_eq_true, decide_eq_true_eq] at h
  obtain ⟨⟨⟨⟨h1, h2⟩, h3⟩, h4⟩, h5⟩ := h
  exact ⟨h1, h2, h3, h4, h5⟩
end PL

/-! PLEv: the pure functions are evaluated by simp. -/
namespace PL
open PySem PySem.Spec L2
@[simp] theorem ev_aNil  (ρ0 : Lo) (st : Sto) : aNil  ρ0 st = (some ([], st)) := rfl
@[simp] theorem ev_aCons (f : P) (g : Ar) (ρ : Lo) (st : Sto) : aCons f g ρ st = (match f ρ st with
  | none => none
  | some (x, st1) => match g ρ st1 with
    | none => none
    | some (xs, st2) => some (x :: xs, st2)) := rfl
@[simp] theorem ev_pOp (op : Op) (g : Ar) (ρ : Lo) (st : Sto) : pOp op g ρ st = (match g ρ st with
  | none => none
  | some (xs, st1) => op xs st1) := rfl
@[simp] theorem ev_pVar (i : Nat) (ρ : Lo) (st : Sto) : pVar i ρ st = (match ρ[i]? with
  | some (some (.sh d)) => some (.sh d, st)
  | some (some (.ow d)) => some (.ro d, st)
  | some (some (.ro d)) => some (.ro d, st)
  | _ => none) := rfl
@[simp] theorem ev_pC (d : D) (ρ0 : Lo) (st : Sto) : pC d ρ0 st = (some (.sh d, st)) := rfl
@[simp] theorem ev_pAnd (f g : P) (ρ : Lo) (st : Sto) : pAnd f g ρ st = (match f ρ st with
  | none => none
  | some (x, st1) => match truth x with
    | none => none
    | some true => g ρ st1
    | some false => some (.sh (.bl false), st1)) := rfl
@[simp] theorem ev_pOr (f g : P) (ρ : Lo) (st : Sto) : pOr f g ρ st = (match f ρ st with
  | none => none
  | some (x, st1) => match truth x with
    | none => none
    | some true => some (.sh (.bl true), st1)
    | some false => g ρ st1) := rfl
@[simp] theorem ev_pNot (f : P) (ρ : Lo) (st : Sto) : pNot f ρ st = (match f ρ st with
  | none => none
  | some (x, st1) => match truth x with
    | none => none
    | some b => some (.sh (.bl (!b)), st1)) := rfl
@[simp] theorem ev_pIf (c f g : P) (ρ : Lo) (st : Sto) : pIf c f g ρ st = (match c ρ st with
  | none => none
  | some (x, st1) => match truth x with
    | none => none
    | some true => f ρ st1
    | some false => g ρ st1) := rfl
@[simp] theorem ev_pChain (c1 c2 : Int → Int → Bool) (f g h : P) (ρ : Lo) (st : Sto) : pChain c1 c2 f g h ρ st = (match f ρ st with
  | some (.sh (.int i), st1) => match g ρ st1 with
    | some (.sh (.int j), st2) => if c1 i j = true then (match h ρ st2 with
        | some (.sh (.int k), st3) => some (.sh (.bl (c2 j k)), st3)
        | _ => none) else some (.sh (.bl false), st2)
    | _ => none
  | _ => none) := rfl
@[simp] theorem ev_isB (f : P) (ρ : Lo) (st : Sto) : isB f ρ st = (match f ρ st with
  | some (.sh (.bl b), st') => some (.sh (.bl b), st')
  | _ => none) := rfl
@[simp] theorem ev_sSkip  (ρ : Lo) (st : Sto) : sSkip  ρ st = (some (.nx, ρ, st)) := rfl
@[simp] theorem ev_sSeq (f g : S) (ρ : Lo) (st : Sto) : sSeq f g ρ st = (match f ρ st with
  | none => none
  | some (.nx, ρ1, st1) => g ρ1 st1
  | some r => some r) := rfl
@[simp] theorem ev_sRet (p : P) (ρ : Lo) (st : Sto) : sRet p ρ st = (match p ρ st with
  | none => none
  | some (s, st1) => if noRo s = true then some (.rt s, ρ, st1) else none) := rfl
@[simp] theorem ev_sRetN  (ρ : Lo) (st : Sto) : sRetN  ρ st = (some (.rt (.sh .non), ρ, st)) := rfl
@[simp] theorem ev_sRetV (i : Nat) (ρ : Lo) (st : Sto) : sRetV i ρ st = (match ρ[i]? with
  | some (some (.ow d)) => some (.rt (.ow d), ρ, st)
  | some (some (.sh d)) => some (.rt (.sh d), ρ, st)
  | _ => none) := rfl
@[simp] theorem ev_sIf (c : P) (f g : S) (ρ : Lo) (st : Sto) : sIf c f g ρ st = (match c ρ st with
  | none => none
  | some (x, st1) => match truth x with
    | none => none
    | some true => f ρ st1
    | some false => g ρ st1) := rfl
@[simp] theorem ev_sPut (m : Bool) (i : Nat) (p : P) (ρ : Lo) (st : Sto) : sPut m i p ρ st = (match p ρ st with
  | none => none
  | some (s, st1) => match put m i s ρ st1 with
    | none => none
    | some (ρ2, st2) => some (.nx, ρ2, st2)) := rfl
@[simp] theorem ev_sPar2 (m1 : Bool) (i : Nat) (m2 : Bool) (j : Nat) (g : Ar) (ρ : Lo) (st : Sto) : sPar2 m1 i m2 j g ρ st = (match g ρ st with
  | some ([x, y], st1) => match put m1 i x ρ st1 with
    | none => none
    | some (ρ2, st2) => match put m2 j y ρ2 st2 with
      | none => none
      | some (ρ3, st3) => some (.nx, ρ3, st3)
  | _ => none) := rfl
@[simp] theorem ev_sPar3 (m1 : Bool) (i : Nat) (m2 : Bool) (j : Nat) (m3 : Bool) (k : Nat) (g : Ar) (ρ : Lo) (st : Sto) : sPar3 m1 i m2 j m3 k g ρ st = (match g ρ st with
  | some ([x, y, z], st1) => match put m1 i x ρ st1 with
    | none => none
    | some (ρ2, st2) => match put m2 j y ρ2 st2 with
      | none => none
      | some (ρ3, st3) => match put m3 k z ρ3 st3 with
        | none => none
        | some (ρ4, st4) => some (.nx, ρ4, st4)
  | _ => none) := rfl
@[simp] theorem ev_sAsgT (g : Tg) (p : P) (ρ : Lo) (st : Sto) : sAsgT g p ρ st = (match p ρ st with
  | none => none
  | some (s, st1) => match toSh s with
    | none => none
    | some d => match g.f d ρ with
      | none => none
      | some ρ1 => some (.nx, ρ1, st1)) := rfl
@[simp] theorem ev_sFrz (is : List Nat) (f : S) (ρ : Lo) (st : Sto) : sFrz is f ρ st = (f (frz is ρ) st) := rfl
@[simp] theorem ev_sClr (is : List Nat) (f : S) (ρ : Lo) (st : Sto) : sClr is f ρ st = (f (clrs is ρ) st) := rfl
@[simp] theorem ev_sExpr (p : P) (ρ : Lo) (st : Sto) : sExpr p ρ st = (match p ρ st with
  | none => none
  | some (_, st1) => some (.nx, ρ, st1)) := rfl
@[simp] theorem ev_sApp (i : Nat) (p : P) (ρ : Lo) (st : Sto) : sApp i p ρ st = (match p ρ st with
  | none => none
  | some (s, st1) => match toSh s with
    | none => none
    | some y => match wrAt i (fApp y) ρ st1 with
      | none => none
      | some (ρ2, st2) => some (.nx, ρ2, st2)) := rfl
@[simp] theorem ev_sExt (i : Nat) (p : P) (ρ : Lo) (st : Sto) : sExt i p ρ st = (match p ρ st with
  | none => none
  | some (s, st1) => match seqD (dS st1 s) with
    | none => none
    | some ys => match wrAt i (fExt ys) ρ st1 with
      | none => none
      | some (ρ2, st2) => some (.nx, ρ2, st2)) := rfl
@[simp] theorem ev_sUpd (i : Nat) (p : P) (ρ : Lo) (st : Sto) : sUpd i p ρ st = (match p ρ st with
  | none => none
  | some (s, st1) => match toSh s with
    | none => none
    | some y => match wrAt i (fUpd y) ρ st1 with
      | none => none
      | some (ρ2, st2) => some (.nx, ρ2, st2)) := rfl
@[simp] theorem ev_sPutIx (i : Nat) (pk pv : P) (ρ : Lo) (st : Sto) : sPutIx i pk pv ρ st = (match pv ρ st with
  | none => none
  | some (s, st1) => match pk ρ st1 with
    | none => none
    | some (k, st2) => match toSh s with
      | none => none
      | some y => match wrAt i (fPut (dS st2 k) y) ρ st2 with
        | none => none
        | some (ρ3, st3) => some (.nx, ρ3, st3)) := rfl
@[simp] theorem ev_sFor (s : Src) (g : Tg) (f : S) (ρ : Lo) (st : Sto) : sFor s g f ρ st = (match s ρ st with
  | some (ds, false, st1) => forL g f ds ρ st1
  | _ => none) := rfl
@[simp] theorem ev_sAny (p : P) (ρ : Lo) (st : Sto) : sAny p ρ st = (match p ρ st with
  | some (.sh d, st') => match srcD d with
    | some ds => some (ds, false, st')
    | none => none
  | some (.ow d, st') => match srcD d with
    | some ds => some (ds, false, st')
    | none => none
  | some (.ro (.lst ds), st') => some (ds, true, st')
  | _ => none) := rfl
@[simp] theorem ev_sRng1 (g : Ar) (ρ : Lo) (st : Sto) : sRng1 g ρ st = (match g ρ st with
  | some ([.sh (.int j)], st') => if -(2 ^ 62) ≤ j ∧ j < 2 ^ 62 then some (rngL 0 1 j.toNat, false, st') else none
  | _ => none) := rfl
@[simp] theorem ev_sRng2 (g : Ar) (ρ : Lo) (st : Sto) : sRng2 g ρ st = (match g ρ st with
  | some ([.sh (.int i), .sh (.int j)], st') => if -(2 ^ 62) ≤ i ∧ i < 2 ^ 62 ∧ -(2 ^ 62) ≤ j ∧ j < 2 ^ 62 then some (rngL i 1 (j - i).toNat, false, st') else none
  | _ => none) := rfl
@[simp] theorem ev_sRng3 (g : Ar) (ρ : Lo) (st : Sto) : sRng3 g ρ st = (match g ρ st with
  | some ([.sh (.int i), .sh (.int j), .sh (.int c)], st') => if c = -1 ∧ -(2 ^ 62) ≤ i ∧ i < 2 ^ 62 ∧ -(2 ^ 62) ≤ j ∧ j < 2 ^ 62 then some (rngL i (-1) (i - j).toNat, false, st') else none
  | _ => none) := rfl
@[simp] theorem ev_sEnum (g : Ar) (ρ : Lo) (st : Sto) : sEnum g ρ st = (match g ρ st with
  | some ([x], st') => match seqOf x with
    | some ds => some (enumL 0 ds, isRo x, st')
    | none => none
  | _ => none) := rfl
@[simp] theorem ev_sZip2 (g : Ar) (ρ : Lo) (st : Sto) : sZip2 g ρ st = (match g ρ st with
  | some ([x, y], st') => match seqOf x, seqOf y with
    | some xs, some ys => some (List.zipWith (fun a b => .tup [a, b]) xs ys, isRo x || isRo y, st')
    | _, _ => none
  | _ => none) := rfl
@[simp] theorem ev_sZip3 (g : Ar) (ρ : Lo) (st : Sto) : sZip3 g ρ st = (match g ρ st with
  | some ([x, y, z], st') => match seqOf x, seqOf y, seqOf z with
    | some xs, some ys, some zs => some (zip3L xs ys zs, isRo x || isRo y || isRo z, st')
    | _, _, _ => none
  | _ => none) := rfl
@[simp] theorem ev_sItems (p : P) (ρ : Lo) (st : Sto) : sItems p ρ st = (match p ρ st with
  | some (s, st') => match toSh s with
    | some d => match itemsD d with
      | some ds => some (ds, false, st')
      | none => none
    | none => none
  | none => none) := rfl
@[simp] theorem ev_pLc (s : Src) (vs : List Nat) (g : Tg) (c : Option P) (e : P) (ρ : Lo) (st : Sto) : pLc s vs g c e ρ st = (if clr vs ρ = true ∧ g.is.all (fun i => decide (i ∈ vs)) = true then
    match s ρ st with
    | none => none
    | some (ds, _, st1) => if ds.length ≤ 16777216 then (match lcL g c e ρ ds st1 with
      | none => none
      | some (ys, st2) => some (.ow (.lst ys), st2)) else none
  else none) := rfl
@[simp] theorem ev_pDc (t : Bool) (s : Src) (vs : List Nat) (g : Tg) (c : Option P) (k v : P) (ρ : Lo) (st : Sto) : pDc t s vs g c k v ρ st = (if clr vs ρ = true ∧ g.is.all (fun i => decide (i ∈ vs)) = true then
    match s ρ st with
    | none => none
    | some (ds, _, st1) => match dcL g c k v ρ ds (if t then .dt [] else .dk []) st1 with
      | none => none
      | some (d, st2) => some (.ow d, st2)
  else none) := rfl
@[simp] theorem ev_pDK  (ρ0 : Lo) (st : Sto) : pDK  ρ0 st = (some (.ow (.dk []), st)) := rfl
@[simp] theorem ev_pDT  (ρ0 : Lo) (st : Sto) : pDT  ρ0 st = (some (.ow (.dt []), st)) := rfl
@[simp] theorem ev_pDisp1 (t : Bool) (gk gv : P) (ρ : Lo) (st : Sto) : pDisp1 t gk gv ρ st = (match gk ρ st with
  | none => none
  | some (k, st1) => match gv ρ st1 with
    | none => none
    | some (v, st2) => match toSh v with
      | none => none
      | some y => match fPut (dS st2 k) y (if t then .dt [] else .dk []) with
        | none => none
        | some d => some (.ow d, st2)) := rfl
@[simp] theorem ev_pMt (chk : D → Bool) (f : P) (g : Ar) (op : Op) (ρ : Lo) (st : Sto) : pMt chk f g op ρ st = (match f ρ st with
  | none => none
  | some (s, st1) => if chk (dS st1 s) = true then (match g ρ st1 with
    | none => none
    | some (xs, st2) => op (s :: xs) st2) else none) := rfl
@[simp] theorem ev_pListVals (f : P) (ρ : Lo) (st : Sto) : pListVals f ρ st = (match f ρ st with
  | none => none
  | some (s, st1) => match valsD s.d with
    | some ds => some (.ow (.lst ds), st1)
    | none => none) := rfl
@[simp] theorem ev_pSortSet (f : P) (ρ : Lo) (st : Sto) : pSortSet f ρ st = (match f ρ st with
  | none => none
  | some (s, st1) => match seqInts (dS st1 s) with
    | none => none
    | some ns => if ns.length + 1 < 4096 ∧ (usort ns).length < 64 then some (.ow (.lst ((usort ns).map .int)), st1) else none) := rfl
@[simp] theorem ev_pListRng (f : P) (ρ : Lo) (st : Sto) : pListRng f ρ st = (match f ρ st with
  | some (.sh (.int j), st1) => if -(2 ^ 62) ≤ j ∧ j ≤ 16777216 then some (.ow (.lst ((intsUp j).map .int)), st1) else none
  | _ => none) := rfl
@[simp] theorem ev_pRev (f : P) (ρ : Lo) (st : Sto) : pRev f ρ st = (match f ρ st with
  | none => none
  | some (s, st1) => match revD (dS st1 s) with
    | none => none
    | some r => some (r, st1)) := rfl
@[simp] theorem ev_pSlice (f : P) (l h : PPart) (ρ : Lo) (st : Sto) : pSlice f l h ρ st = (match f ρ st with
  | none => none
  | some (s, st1) => match l ρ st1 with
    | none => none
    | some (lo, st2) => match h ρ st2 with
      | none => none
      | some (hi, st3) => match sliceD lo hi (dS st3 s) with
        | none => none
        | some r => some (r, st3)) := rfl
@[simp] theorem ev_ptNo  (ρ0 : Lo) (st : Sto) : ptNo  ρ0 st = (some (none, st)) := rfl
@[simp] theorem ev_ptInt (f : P) (ρ : Lo) (st : Sto) : ptInt f ρ st = (match f ρ st with
  | some (.sh (.int i), st') => some (some i, st')
  | _ => none) := rfl
@[simp] theorem ev_aStar (f : P) (g : Ar) (ρ : Lo) (st : Sto) : aStar f g ρ st = (match f ρ st with
  | none => none
  | some (s, st1) => match seqOf s with
    | none => none
    | some ds => match g ρ st1 with
      | none => none
      | some (xs, st2) => some (ds.map .sh ++ xs, st2)) := rfl
@[simp] theorem ev_sNever  (ρ0 : Lo) (st0 : Sto) : sNever  ρ0 st0 = (none) := rfl
@[simp] theorem ev_sBreak  (ρ : Lo) (st : Sto) : sBreak  ρ st = (some (.bk, ρ, st)) := rfl
@[simp] theorem ev_sCont  (ρ : Lo) (st : Sto) : sCont  ρ st = (some (.ct, ρ, st)) := rfl
@[simp] theorem ev_pCallV (tbl : List (Str × Op)) (i : Nat) (ga : Ar) (ρ : Lo) (st : Sto) : pCallV tbl i ga ρ st = (match ρ[i]? with
  | some (some (.sh (.fn x))) => (match fnOp tbl x with
    | some op => pOp op ga ρ st
    | none => none)
  | _ => none) := rfl
end PL

/-! PLEnc: data that stand for lists of ints. -/
namespace PL
open PySem PySem.Spec L2

/-- a tuple of ints -/
abbrev dI (ns : List Int) : List D := ns.map .int
@[simp] theorem okNL_ints (n : Nat) : ∀ ns : List Int, okNL n (ns.map .int) = true
  | [] => by simp [okNL]
  | x :: xs => by simp [okNL, okN, okNL_ints n xs]
@[simp] theorem eqvL_ints : ∀ xs ys : List Int, eqvL (xs.map .int) (ys.map .int) = (xs == ys)
  | [], [] => by simp [eqvL]
  | [], _ :: _ => by simp [eqvL]
  | _ :: _, [] => by simp [eqvL]
  | x :: xs, y :: ys => by simp [eqvL, eqv, eqvL_ints xs ys]
@[simp] theorem keyD_ints : ∀ ns : List Int, keyD (ns.map .int) = some (ns.map .inl)
  | [] => rfl
  | x :: xs => by
    have := keyD_ints xs
    simp only [keyD] at this ⊢
    simp [hIx.keyD, this]
@[simp] theorem intsD_ints : ∀ ns : List Int, intsD (ns.map .int) = some ns
  | [] => rfl
  | x :: xs => by simp [intsD, intsD_ints xs]
@[simp] theorem toShs_sh : ∀ ds : List D, toShs (ds.map .sh) = some ds
  | [] => rfl
  | d :: ds => by simp [toShs, toSh, toShs_sh ds]
theorem any_int (ns : List Int) (c : Int) : (ns.map D.int).any (fun z => eqv z (.int c)) = decide (c ∈ ns) := by
  induction ns with
  | nil => simp
  | cons x xs ih =>
    rw [List.map_cons, List.any_cons, ih]
    by_cases h : x = c
    · subst h; simp [eqv]
    · have h2 : c ≠ x := fun z => h z.symm
      simp [eqv, h, h2]
@[simp] theorem any_int2 (ns : List Int) (c : Int) : ns.any ((fun z => eqv z (.int c)) ∘ D.int) = decide (c ∈ ns) := by rw [← List.any_map]; exact any_int ns c
end PL

/-! PLEnc2: sorting of ints. -/
namespace PL
open PySem PySem.Spec L2

def sortI (ns : List Int) : List Int := ns.mergeSort fun a b => decide (a ≤ b)
theorem leD_int (a b : Int) : leD (.int a) (.int b) = decide (a ≤ b) := by
  simp [leD, pd, PySem.W.dataLt, PySem.W.keyToks, PyProof.Rows.lexLt, PyProof.Rows.itemOrd, PyProof.Rows.itemLt]
  by_cases h : a ≤ b <;> simp [h] <;> omega
theorem sort_ints (ns : List Int) : (ns.map D.int).mergeSort leD = (sortI ns).map .int := by
  unfold sortI
  rw [List.map_mergeSort (r := fun a b => decide (a ≤ b)) (s := leD)]
  intro a _ b _
  rw [leD_int]
theorem sortable_ints (ns : List Int) (h : ns.length ≤ 16777216) : sortable (ns.map .int) = true := by
  simp [sortable, noTup, pd, PySem.W.alike, h]
end PL

/-! PLEv2: more for simp: values by their forms; loops. -/
namespace PL
open PySem PySem.Spec L2

section
variable {st : Sto} {d : D} {i : Int} {b : Bool} {x : Str} {xs : List D} {es : List (Key × D)} {fs : List (List Key × D)} {n : Nat}
@[simp] theorem dS_non : dS st (.sh .non) = .non := rfl
@[simp] theorem dS_bl : dS st (.sh (.bl b)) = .bl b := rfl
@[simp] theorem dS_int : dS st (.sh (.int i)) = .int i := rfl
@[simp] theorem dS_str : dS st (.sh (.str x)) = .str x := rfl
@[simp] theorem dS_tup : dS st (.sh (.tup xs)) = .tup xs := rfl
@[simp] theorem dS_lst : dS st (.sh (.lst xs)) = .lst xs := rfl
@[simp] theorem dS_lsto : dS st (.ow (.lst xs)) = .lst xs := rfl
@[simp] theorem dS_lstr : dS st (.ro (.lst xs)) = .lst xs := rfl
@[simp] theorem dS_dk : dS st (.sh (.dk es)) = .dk es := rfl
@[simp] theorem dS_dt : dS st (.sh (.dt fs)) = .dt fs := rfl
@[simp] theorem dS_dko : dS st (.ow (.dk es)) = .dk es := rfl
@[simp] theorem dS_dto : dS st (.ow (.dt fs)) = .dt fs := rfl
@[simp] theorem dS_dkr : dS st (.ro (.dk es)) = .dk es := rfl
@[simp] theorem dS_dtr : dS st (.ro (.dt fs)) = .dt fs := rfl
theorem dS_obj {ds : List D} (h : st[n]? = some (.lst ds)) : dS st (.sh (.obj n)) = .lst ds := by unfold dS SV.d; simp [h]
@[simp] theorem noRo_sh : noRo (.sh d) = true := rfl
@[simp] theorem noRo_ow : noRo (.ow d) = true := rfl
@[simp] theorem d_sh : (SV.sh d).d = d := rfl
@[simp] theorem d_ow : (SV.ow d).d = d := rfl
@[simp] theorem d_ro : (SV.ro d).d = d := rfl
@[simp] theorem toSh_sh : toSh (.sh d) = some d := rfl
@[simp] theorem toSh_ow : toSh (.ow d) = some d := rfl
@[simp] theorem tr_bl : truth (.sh (.bl b)) = some b := rfl
@[simp] theorem ev_oG {h : List D → Option SV} {svs : List SV} : oG h svs st = (match h (svs.map (dS st)) with
  | some s => if noRo s = true then some (s, st) else none
  | none => none) := rfl
end
/-- a loop whose body goes on: an invariant over the items done -/
theorem forL_inv {α : Type} (enc : α → D) (g : Tg) (f : S) (P : List α → Lo → Sto → Prop) (step : ∀ done x ρ st, P done ρ st → ∃ ρ1 ρ2 st2, g.f (enc x) ρ = some ρ1 ∧ f ρ1 st = some (.nx, ρ2, st2) ∧ P (done ++ [x]) ρ2 st2) :
    ∀ (xs done : List α) ρ st, P done ρ st → ∃ ρ' st', forL g f (xs.map enc) ρ st = some (.nx, ρ', st') ∧ P (done ++ xs) ρ' st'
  | [], done, ρ, st, h => ⟨ρ, st, rfl, by simpa using h⟩
  | x :: xs, done, ρ, st, h => by
    obtain ⟨ρ1, ρ2, st2, e1, e2, h2⟩ := step done x ρ st h
    obtain ⟨ρ', st', e3, h3⟩ := forL_inv enc g f P step xs (done ++ [x]) ρ2 st2 h2
    refine ⟨ρ', st', ?_, by simpa using h3⟩
    rw [List.map_cons]
    simp only [forL, e1, e2]
    exact e3
end PL

/-! PLWp: loops and comprehensions over encoded items; draws. -/
namespace PL
open PySem PySem.Spec L2

@[simp] theorem runF_eq {k n : Nat} {b : S} {args : List SV} {st : Sto} (h : args.length = k) : runF k n b args st = (match b (args.map some ++ List.replicate (n - args.length) none) st with
    | some (.rt s, _, st') => if noRo s = true then some (s, st') else none
    | some (.nx, _, st') => some (.sh .non, st')
    | _ => none) := by unfold runF; rw [if_pos h]; first | done | rfl

/-- a loop over a prefix, the store as it is -/
theorem forL_pre {α τ : Type} (enc : α → D) (g : Tg) (f : S) (st : Sto) (R : List α → τ → Lo) (xs : List α)
    (h : ∀ done x rest, xs = done ++ x :: rest → ∀ t, ∃ ρ1 t', g.f (enc x) (R done t) = some ρ1 ∧ f ρ1 st = some (.nx, R (done ++ [x]) t', st)) :
    ∀ t, ∃ t', forL g f (xs.map enc) (R [] t) st = some (.nx, R xs t', st) := by
  suffices ∀ (rest done : List α), xs = done ++ rest → ∀ t, ∃ t', forL g f (rest.map enc) (R done t) st = some (.nx, R xs t', st) by
    intro t; exact this xs [] rfl t
  intro rest
  induction rest with
  | nil => intro done e t; exact ⟨t, by simp [forL, e]⟩
  | cons x rest ih =>
    intro done e t
    obtain ⟨ρ1, t', e1, e2⟩ := h done x rest e t
    obtain ⟨t2, e3⟩ := ih (done ++ [x]) (by simp [e]) t'
    exact ⟨t2, by simp only [List.map_cons, forL, e1, e2]; exact e3⟩
/-- the same, with a store that changes, and returns -/
theorem forL_gen {α : Type} (enc : α → D) (g : Tg) (f : S) (P : List α → Lo → Sto → Prop) (R : SV → Sto → Prop) (xs : List α)
    (h : ∀ done x rest, xs = done ++ x :: rest → ∀ ρ st, P done ρ st → ∃ ρ1 ρ2 st2, g.f (enc x) ρ = some ρ1 ∧ ((f ρ1 st = some (.nx, ρ2, st2) ∧ P (done ++ [x]) ρ2 st2) ∨ ∃ s, f ρ1 st = some (.rt s, ρ2, st2) ∧ R s st2)) :
    ∀ ρ st, P [] ρ st → ∃ ρ' st', (forL g f (xs.map enc) ρ st = some (.nx, ρ', st') ∧ P xs ρ' st') ∨ ∃ s, forL g f (xs.map enc) ρ st = some (.rt s, ρ', st') ∧ R s st' := by
  suffices ∀ (rest done : List α), xs = done ++ rest → ∀ ρ st, P done ρ st → ∃ ρ' st', (forL g f (rest.map enc) ρ st = some (.nx, ρ', st') ∧ P xs ρ' st') ∨ ∃ s, forL g f (rest.map enc) ρ st = some (.rt s, ρ', st') ∧ R s st' by
    intro ρ st p; exact this xs [] rfl ρ st p
  intro rest
  induction rest with
  | nil => intro done e ρ st p; exact ⟨ρ, st, .inl ⟨rfl, by simpa [e] using p⟩⟩
  | cons x rest ih =>
    intro done e ρ st p
    obtain ⟨ρ1, ρ2, st2, e1, h2⟩ := h done x rest e ρ st p
    rcases h2 with ⟨e2, p2⟩ | ⟨s, e2, r⟩
    · obtain ⟨ρ', st', h3⟩ := ih (done ++ [x]) (by simp [e]) ρ2 st2 p2
      refine ⟨ρ', st', ?_⟩
      rcases h3 with ⟨e3, p3⟩ | ⟨s, e3, r⟩
      · exact .inl ⟨by simp only [List.map_cons, forL, e1, e2]; exact e3, p3⟩
      · exact .inr ⟨s, by simp only [List.map_cons, forL, e1, e2]; exact e3, r⟩
    · exact ⟨ρ2, st2, .inr ⟨s, by simp only [List.map_cons, forL, e1, e2], r⟩⟩
/-- what is returned -/
def rtOf : Option (Fl × Lo × Sto) → Option (SV × Sto)
  | some (.rt s, _, st) => some (s, st)
  | _ => none
@[simp] theorem rtOf_rt (s : SV) (ρ : Lo) (st : Sto) : rtOf (some (.rt s, ρ, st)) = some (s, st) := rfl
theorem rtOf_ex {r : Option (Fl × Lo × Sto)} {s : SV} {st : Sto} (h : rtOf r = some (s, st)) : ∃ ρ, r = some (.rt s, ρ, st) := by
  unfold rtOf at h
  split at h
  · cases h; exact ⟨_, rfl⟩
  · cases h
/-- the same, the slots behind a return unsaid -/
theorem forL_ret {α : Type} (enc : α → D) (g : Tg) (f : S) (P : List α → Lo → Sto → Prop) (R : SV → Sto → Prop) (xs : List α)
    (h : ∀ done x rest, xs = done ++ x :: rest → ∀ ρ st, P done ρ st → ∃ ρ1 st2, g.f (enc x) ρ = some ρ1 ∧ ((∃ ρ2, f ρ1 st = some (.nx, ρ2, st2) ∧ P (done ++ [x]) ρ2 st2) ∨ ∃ s, rtOf (f ρ1 st) = some (s, st2) ∧ R s st2)) :
    ∀ ρ st, P [] ρ st → ∃ ρ' st', (forL g f (xs.map enc) ρ st = some (.nx, ρ', st') ∧ P xs ρ' st') ∨ ∃ s, forL g f (xs.map enc) ρ st = some (.rt s, ρ', st') ∧ R s st' := by
  refine forL_gen enc g f P R xs fun done x rest e ρ st p => ?_
  obtain ⟨ρ1, st2, e1, h2⟩ := h done x rest e ρ st p
  rcases h2 with ⟨ρ2, e2, p2⟩ | ⟨s, e2, r⟩
  · exact ⟨ρ1, ρ2, st2, e1, .inl ⟨e2, p2⟩⟩
  · obtain ⟨ρ2, e3⟩ := rtOf_ex e2
    exact ⟨ρ1, ρ2, st2, e1, .inr ⟨s, e3, r⟩⟩
/-- a loop that only goes on -/
theorem forL_st {α : Type} (enc : α → D) (g : Tg) (f : S) (P : List α → Lo → Sto → Prop) (xs : List α)
    (h : ∀ done x rest, xs = done ++ x :: rest → ∀ ρ st, P done ρ st → ∃ ρ1 ρ2 st2, g.f (enc x) ρ = some ρ1 ∧ f ρ1 st = some (.nx, ρ2, st2) ∧ P (done ++ [x]) ρ2 st2) :
    ∀ ρ st, P [] ρ st → ∃ ρ' st', forL g f (xs.map enc) ρ st = some (.nx, ρ', st') ∧ P xs ρ' st' := by
  intro ρ st p
  obtain ⟨ρ', st', h⟩ := forL_gen enc g f P (fun _ _ => False) xs (fun done x rest e ρ st p => by
    obtain ⟨ρ1, ρ2, st2, e1, e2, p2⟩ := h done x rest e ρ st p
    exact ⟨ρ1, ρ2, st2, e1, .inl ⟨e2, p2⟩⟩) ρ st p
  rcases h with h | ⟨_, _, h⟩
  · exact ⟨ρ', st', h⟩
  · exact h.elim
/-- comprehensions that read -/
theorem lcL_pre {α : Type} (enc : α → D) (g : Tg) (e : P) (ρ : Lo) (st : Sto) (r : α → D) : ∀ xs : List α, (∀ x ∈ xs, ∃ ρ1 s, g.f (enc x) ρ = some ρ1 ∧ e ρ1 st = some (s, st) ∧ toSh s = some (r x)) → lcL g none e ρ (xs.map enc) st = some (xs.map r, st)
  | [], _ => rfl
  | x :: xs, h => by
    obtain ⟨ρ1, s, e1, e2, e3⟩ := h x (by simp)
    have ih := lcL_pre enc g e ρ st r xs fun y hy => h y (by simp [hy])
    simp [lcL, e1, e2, e3, ih]
theorem lcL_if {α : Type} (enc : α → D) (g : Tg) (c e : P) (ρ : Lo) (st : Sto) (r : α → D) (t : α → Bool) : ∀ xs : List α, (∀ x ∈ xs, ∃ ρ1 v, g.f (enc x) ρ = some ρ1 ∧ c ρ1 st = some (v, st) ∧ truth v = some (t x) ∧ (t x = true → ∃ s, e ρ1 st = some (s, st) ∧ toSh s = some (r x))) → lcL g (some c) e ρ (xs.map enc) st = some ((xs.filter t).map r, st)
  | [], _ => rfl
  | x :: xs, h => by
    obtain ⟨ρ1, v, e1, e2, e3, e4⟩ := h x (by simp)
    have ih := lcL_if enc g c e ρ st r t xs fun y hy => h y (by simp [hy])
    cases ht : t x
    · simp [lcL, e1, e2, e3, ht, ih]
    · obtain ⟨s, e5, e6⟩ := e4 ht
      simp [lcL, e1, e2, e3, e5, e6, ht, ih]
/-- comprehensions that draw -/
theorem lcL_st {α : Type} (enc : α → D) (g : Tg) (c : Option P) (e : P) (ρ : Lo) (P : List α → List D → Sto → Prop) (xs : List α)
    (h : ∀ done x rest, xs = done ++ x :: rest → ∀ st ys, P done ys st → ∃ ρ1 b st1, g.f (enc x) ρ = some ρ1 ∧ (match c with | none => b = true ∧ st1 = st | some c => ∃ v, c ρ1 st = some (v, st1) ∧ truth v = some b) ∧ (b = false → P (done ++ [x]) ys st1) ∧ (b = true → ∃ s d st2, e ρ1 st1 = some (s, st2) ∧ toSh s = some d ∧ P (done ++ [x]) (ys ++ [d]) st2)) :
    ∀ st, P [] [] st → ∃ ys st', lcL g c e ρ (xs.map enc) st = some (ys, st') ∧ P xs ys st' := by
  suffices ∀ (rest done : List α), xs = done ++ rest → ∀ st ys, P done ys st → ∃ zs st', lcL g c e ρ (rest.map enc) st = some (zs, st') ∧ P xs (ys ++ zs) st' by
    intro st p
    obtain ⟨zs, st', h1, h2⟩ := this xs [] rfl st [] p
    exact ⟨zs, st', h1, by simpa using h2⟩
  intro rest
  induction rest with
  | nil => intro done e st ys p; exact ⟨[], st, rfl, by simpa [e] using p⟩
  | cons x rest ih =>
    intro done e st ys p
    obtain ⟨ρ1, b, st1, e1, e2, h3, h4⟩ := h done x rest e st ys p
    cases b with
    | false =>
      obtain ⟨zs, st', h5, h6⟩ := ih (done ++ [x]) (by simp [e]) st1 ys (h3 rfl)
      refine ⟨zs, st', ?_, h6⟩
      cases c with
      | none => exact absurd e2.1 (by simp)
      | some c =>
        obtain ⟨v, e3, e4⟩ := e2
        simp only [List.map_cons, lcL, e1, e3, e4]; exact h5
    | true =>
      obtain ⟨s, d, st2, e5, e6, p2⟩ := h4 rfl
      obtain ⟨zs, st', h5, h6⟩ := ih (done ++ [x]) (by simp [e]) st2 (ys ++ [d]) p2
      refine ⟨d :: zs, st', ?_, by simpa using h6⟩
      cases c with
      | none => obtain ⟨_, rfl⟩ := e2; simp only [List.map_cons, lcL, e1, e5, e6, h5]
      | some c =>
        obtain ⟨v, e3, e4⟩ := e2
        simp only [List.map_cons, lcL, e1, e3, e4, e5, e6, h5]
/-- dict comprehensions, by what stands behind a prefix -/
theorem dcL_pre {α : Type} (enc : α → D) (g : Tg) (k v : P) (ρ : Lo) (st : Sto) (R : List α → D) (xs : List α) (h : ∀ done x rest, xs = done ++ x :: rest → ∃ ρ1 ks vs y, g.f (enc x) ρ = some ρ1 ∧ k ρ1 st = some (ks, st) ∧ v ρ1 st = some (vs, st) ∧ toSh vs = some y ∧ fPut (dS st ks) y (R done) = some (R (done ++ [x]))) :
    dcL g none k v ρ (xs.map enc) (R []) st = some (R xs, st) := by
  suffices ∀ (rest done : List α), xs = done ++ rest → dcL g none k v ρ (rest.map enc) (R done) st = some (R xs, st) from this xs [] rfl
  intro rest
  induction rest with
  | nil => intro done e; simp [dcL, e]
  | cons x rest ih =>
    intro done e
    obtain ⟨ρ1, ks, vs, y, e1, e2, e3, e4, e5⟩ := h done x rest e
    have := ih (done ++ [x]) (by simp [e])
    simp [dcL, e1, e2, e3, e4, e5, this]
theorem dcL_preIf {α : Type} (enc : α → D) (g : Tg) (c k v : P) (ρ : Lo) (st : Sto) (R : List α → D) (xs : List α) (h : ∀ done x rest, xs = done ++ x :: rest → ∃ ρ1 b tb, g.f (enc x) ρ = some ρ1 ∧ c ρ1 st = some (b, st) ∧ truth b = some tb ∧ (tb = false → R (done ++ [x]) = R done) ∧ (tb = true → ∃ ks vs y, k ρ1 st = some (ks, st) ∧ v ρ1 st = some (vs, st) ∧ toSh vs = some y ∧ fPut (dS st ks) y (R done) = some (R (done ++ [x])))) :
    dcL g (some c) k v ρ (xs.map enc) (R []) st = some (R xs, st) := by
  suffices ∀ (rest done : List α), xs = done ++ rest → dcL g (some c) k v ρ (rest.map enc) (R done) st = some (R xs, st) from this xs [] rfl
  intro rest
  induction rest with
  | nil => intro done e; simp [dcL, e]
  | cons x rest ih =>
    intro done e
    obtain ⟨ρ1, b, tb, e1, e2, e3, e6, e7⟩ := h done x rest e
    have := ih (done ++ [x]) (by simp [e])
    cases tb with
    | false => rw [e6 rfl] at this; simp [dcL, e1, e2, e3, this]
    | true =>
      obtain ⟨ks, vs, y, e2', e3', e4, e5⟩ := e7 rfl
      simp [dcL, e1, e2, e3, e2', e3', e4, e5, this]
@[simp] theorem gName_f (i : Nat) (d : D) (ρ : Lo) : (gName i).f d ρ = if i < ρ.length then some (ρ.set i (some (.sh d))) else none := rfl
@[simp] theorem gTup_f (gs : List Tg) (ds : List D) (ρ : Lo) : (gTup gs).f (.tup ds) ρ = gList gs ds ρ := rfl
@[simp] theorem gName_is (i : Nat) : (gName i).is = [i] := rfl
@[simp] theorem gTup_is (gs : List Tg) : (gTup gs).is = gs.flatMap Tg.is := rfl
@[simp] theorem okN_non (n : Nat) : okN n .non = true := by cases n <;> rfl
@[simp] theorem okN_bl (n : Nat) (b : Bool) : okN n (.bl b) = true := by cases n <;> rfl
@[simp] theorem okN_int (n : Nat) (i : Int) : okN n (.int i) = true := by cases n <;> rfl
@[simp] theorem okN_tup (n : Nat) (xs : List D) : okN (n + 1) (.tup xs) = okNL n xs := rfl
@[simp] theorem okN_lst (n : Nat) (xs : List D) : okN (n + 1) (.lst xs) = okNL n xs := rfl
@[simp] theorem okNL_nil (n : Nat) : okNL n [] = true := rfl
@[simp] theorem okNL_cons (n : Nat) (x : D) (xs : List D) : okNL n (x :: xs) = (okN n x && okNL n xs) := rfl
@[simp] theorem tr_non : truth (.sh .non) = some false := rfl
@[simp] theorem tr_int {i : Int} : truth (.sh (.int i)) = some (i != 0) := rfl
@[simp] theorem srcD_lst (xs : List D) : srcD (.lst xs) = some xs := rfl
@[simp] theorem srcD_tup (xs : List D) : srcD (.tup xs) = some xs := rfl
@[simp] theorem srcD_dk (es : List (Key × D)) : srcD (.dk es) = some (es.map fun p => kD p.1) := rfl
@[simp] theorem srcD_dt (es : List (List Key × D)) : srcD (.dt es) = some (es.map fun p => .tup (p.1.map kD)) := rfl
@[simp] theorem seqOf_shl (xs : List D) : seqOf (.sh (.lst xs)) = some xs := rfl
@[simp] theorem seqOf_sht (xs : List D) : seqOf (.sh (.tup xs)) = some xs := rfl
@[simp] theorem seqOf_ow (xs : List D) : seqOf (.ow (.lst xs)) = some xs := rfl
@[simp] theorem seqOf_ro (xs : List D) : seqOf (.ro (.lst xs)) = some xs := rfl
@[simp] theorem isRo_sh (d : D) : isRo (.sh d) = false := rfl
@[simp] theorem isRo_ow (d : D) : isRo (.ow d) = false := rfl
@[simp] theorem isRo_ro (d : D) : isRo (.ro d) = true := rfl
@[simp] theorem seqD_lst (xs : List D) : seqD (.lst xs) = some xs := rfl
@[simp] theorem seqD_tup (xs : List D) : seqD (.tup xs) = some xs := rfl
@[simp] theorem toSh_ro (d : D) : toSh (.ro d) = none := rfl
@[simp] theorem toShs_nil : toShs [] = some [] := rfl
@[simp] theorem toShs_cons (s : SV) (ss : List SV) : toShs (s :: ss) = (match toSh s, toShs ss with | some d, some ds => some (d :: ds) | _, _ => none) := rfl
@[simp] theorem frz_nil (ρ : Lo) : frz [] ρ = ρ := rfl
@[simp] theorem frz_cons (i : Nat) (is : List Nat) (ρ : Lo) : frz (i :: is) ρ = frz is (frz1 i ρ) := rfl
@[simp] theorem clrs_nil (ρ : Lo) : clrs [] ρ = ρ := rfl
@[simp] theorem clrs_cons (i : Nat) (is : List Nat) (ρ : Lo) : clrs (i :: is) ρ = clrs is (ρ.set i none) := rfl
@[simp] theorem gList_nil (ρ : Lo) : gList [] [] ρ = some ρ := rfl
@[simp] theorem gList_cons (g : Tg) (gs : List Tg) (d : D) (ds : List D) (ρ : Lo) : gList (g :: gs) (d :: ds) ρ = (match g.f d ρ with | none => none | some ρ1 => gList gs ds ρ1) := rfl
@[simp] theorem put_f (i : Nat) (s : SV) (ρ : Lo) (st : Sto) : put false i s ρ st = (if i < ρ.length then (if noRo s = true then some (ρ.set i (some s), st) else none) else none) := rfl
@[simp] theorem put_t (i : Nat) (ds : List D) (ρ : Lo) (st : Sto) : put true i (.ow (.lst ds)) ρ st = (if i < ρ.length then some (ρ.set i (some (.sh (.obj st.length))), st ++ [.lst ds]) else none) := rfl
@[simp] theorem kD_i (i : Int) : kD (.inl i) = .int i := rfl
@[simp] theorem kD_s (x : Str) : kD (.inr x) = .str x := rfl
theorem eqv_ii (a b : Int) : eqv (.int a) (.int b) = (a == b) := rfl
theorem eqE_bl (a b : Bool) (st : Sto) : oEqE false [.sh (.bl a), .sh (.bl b)] st = some (.sh (.bl (a == b)), st) := by
  simp [oEqE, dE, oEq, eqv]
theorem neE_bl (a b : Bool) (st : Sto) : oEqE true [.sh (.bl a), .sh (.bl b)] st = some (.sh (.bl (a != b)), st) := by
  simp [oEqE, dE, oEq, eqv, bne]
theorem neE_int (a b : Int) (st : Sto) : oEqE true [.sh (.int a), .sh (.int b)] st = some (.sh (.bl (a != b)), st) := by
  simp [oEqE, dE, oEq, eqv, bne]
theorem eqE_int (a b : Int) (st : Sto) : oEqE false [.sh (.int a), .sh (.int b)] st = some (.sh (.bl (a == b)), st) := by
  simp [oEqE, dE, oEq, eqv]
theorem inN_tup (neg : Bool) (l : List Int) (c : Int) (st : Sto) : oInN neg [.sh (.int c), .sh (.tup (l.map .int))] st = some (.sh (.bl (if neg then !decide (c ∈ l) else decide (c ∈ l))), st) := by
  simp [oInN, hInN, hIn, inD]
theorem sorted_tup (l : List Int) (h : l.length ≤ 10000) (st : Sto) : oSorted [.sh (.tup (l.map .int))] st = some (.ow (.lst ((sortI l).map .int)), st) := by
  simp [oSorted, hSorted, sortable_ints l (by omega), sort_ints]
theorem sorted_lst (l : List Int) (h : l.length ≤ 10000) (st : Sto) : oSorted [.ow (.lst (l.map .int))] st = some (.ow (.lst ((sortI l).map .int)), st) := by
  simp [oSorted, hSorted, sortable_ints l (by omega), sort_ints]
end PL

/-! PLRep: texts of data. -/
namespace PL
open PySem PySem.Spec L2

def asc (x : Str) : Bool := x.cps.all (· < 0x110000)
theorem asc_iff {x : Str} : asc x = true ↔ ∀ c ∈ x.cps.toList, c < 0x110000 := by
  unfold asc
  rw [Array.all_eq_true_iff_forall_mem]
  constructor
  · intro h c hc; simpa using h c (Array.mem_toList_iff.mp hc)
  · intro h c hc; simpa using h c (Array.mem_toList_iff.mpr hc)
theorem asc_app {x y : Str} (hx : asc x = true) (hy : asc y = true) : asc (x ++ y) = true := by
  rw [asc_iff] at *
  intro c hc
  have e : (x ++ y).cps = x.cps ++ y.cps := rfl
  rw [e, Array.toList_append, List.mem_append] at hc
  exact hc.elim (hx c) (hy c)
theorem asc_int (i : Int) : asc (toString i : String) = true := by
  rw [asc_iff]
  intro c hc
  refine Nat.lt_of_not_le fun z => ?_
  exact PyProof.Rows.int_text_free' c ⟨by omega, by omega⟩ i hc
theorem asc_from : ∀ (ts : List Str) (k : Nat) (acc : Str), asc acc = true → (∀ t ∈ ts, asc t = true) → asc (textFrom k acc ts) = true
  | [], _, _, h, _ => h
  | t :: ts, k, acc, h, ht => by
    refine asc_from ts (k + 1) _ (asc_app (asc_app h ?_) (ht t (by simp))) fun u hu => ht u (by simp [hu])
    split
    · decide +kernel
    · decide +kernel
theorem asc_join : ∀ (ts : List Str), (∀ t ∈ ts, asc t = true) → asc (Str.join ", " ts) = true
  | [], _ => by decide +kernel
  | [x], h => h x (by simp)
  | x :: y :: r, h => by
    have ih := asc_join (y :: r) fun t ht => h t (by simp at ht ⊢; exact .inr ht)
    exact asc_app (asc_app (h x (by simp)) (by decide +kernel)) ih
theorem asc_tuple (ts : List Str) (h : ∀ t ∈ ts, asc t = true) : asc (tupleText ts) = true := by
  unfold tupleText
  refine asc_app (asc_app (by decide +kernel) (asc_join ts h)) ?_
  split <;> decide +kernel
theorem asc_list (ts : List Str) (h : ∀ t ∈ ts, asc t = true) : asc (listText ts) = true := by
  unfold listText
  exact asc_app (asc_from ts 0 _ (by decide +kernel) h) (by decide +kernel)
mutual
def rpOk : D → Bool
  | .non => true
  | .bl _ => true
  | .int i => decide (i.natAbs < 10 ^ 12)
  | .str x => asc x && asc (PySem.reprText x)
  | .tup xs => rpOkL xs
  | .lst xs => rpOkL xs
  | _ => false
def rpOkL : List D → Bool
  | [] => true
  | x :: xs => rpOk x && rpOkL xs
end
mutual
theorem rp_asc : ∀ d : D, rpOk d = true → asc (pd d).shown = true
  | .non, _ => by simp only [pd, PyData.shown]; decide +kernel
  | .bl b, _ => by cases b <;> simp only [pd, PyData.shown] <;> decide +kernel
  | .int i, _ => by simp only [pd, PyData.shown]; exact asc_int i
  | .str x, h => by simp only [pd, PyData.shown]; simp only [rpOk, Bool.and_eq_true] at h; exact h.2
  | .tup xs, h => by simp only [pd, PyData.shown]; exact asc_tuple _ (rp_ascL xs (by simpa [rpOk] using h))
  | .lst xs, h => by simp only [pd, PyData.shown]; exact asc_list _ (rp_ascL xs (by simpa [rpOk] using h))
  | .dk _, h => by simp [rpOk] at h
  | .dt _, h => by simp [rpOk] at h
  | .obj _, h => by simp [rpOk] at h
  | .fn _, h => by simp [rpOk] at h
theorem rp_ascL : ∀ xs : List D, rpOkL xs = true → ∀ t ∈ PyData.shownAll (pdL xs), asc t = true
  | [], _, t, ht => by simp [pdL, PyData.shownAll] at ht
  | x :: xs, h, t, ht => by
    simp only [rpOkL, Bool.and_eq_true] at h
    simp only [pdL, PyData.shownAll, List.mem_cons] at ht
    rcases ht with rfl | ht
    · exact rp_asc x h.1
    · exact rp_ascL xs h.2 t ht
end
theorem log2_1920 {i : Int} (h : i.natAbs < 10 ^ 12) : i.natAbs.log2 < 1920 := by
  by_cases h0 : i.natAbs = 0
  · rw [h0]; decide
  · have : i.natAbs.log2 < 64 := (Nat.log2_lt h0).mpr (Nat.lt_trans h (by decide))
    omega
mutual
theorem rp_show : ∀ d : D, rpOk d = true → (pd d).showable = true
  | .non, _ => by simp [pd, PyData.showable]
  | .bl b, _ => by simp [pd, PyData.showable]
  | .int i, h => by simp only [rpOk, decide_eq_true_eq] at h; simp only [pd, PyData.showable, decide_eq_true_eq]; exact log2_1920 h
  | .str x, h => by simp [pd, PyData.showable]
  | .tup xs, h => by simp only [pd, PyData.showable]; exact rp_showL xs (by simpa [rpOk] using h)
  | .lst xs, h => by simp only [pd, PyData.showable]; exact rp_showL xs (by simpa [rpOk] using h)
  | .dk _, h => by simp [rpOk] at h
  | .dt _, h => by simp [rpOk] at h
  | .obj _, h => by simp [rpOk] at h
  | .fn _, h => by simp [rpOk] at h
theorem rp_showL : ∀ xs : List D, rpOkL xs = true → PyData.showableAll (pdL xs) = true
  | [], _ => by simp [pdL, PyData.showableAll]
  | x :: xs, h => by
    simp only [rpOkL, Bool.and_eq_true] at h
    simp only [pdL, PyData.showableAll, rp_show x h.1, rp_showL xs h.2, Bool.and_self]
end
mutual
theorem rp_short : ∀ d : D, rpOk d = true → (pd d).leavesShort 13 = true
  | .non, _ => by simp [pd, PyData.leavesShort]
  | .bl b, _ => by simp [pd, PyData.leavesShort]
  | .int i, h => by
    simp only [rpOk, decide_eq_true_eq] at h
    simp only [pd, PyData.leavesShort, PyData.shown, decide_eq_true_eq]
    have := PySem.int_text_length_le10 (a := i) (k := 12) (by decide) h
    have e : (Str.ofString (toString i)).length = (toString i).length := by
      simp only [Str.ofString_eq_toList, Str.length, List.size_toArray, List.length_map]
      first | exact String.length_toList | rfl
    exact decide_eq_true (Nat.le_trans (Nat.le_of_eq e) this)
  | .str x, h => by
    simp only [rpOk, Bool.and_eq_true] at h
    simp only [pd, PyData.leavesShort, List.all_eq_true, decide_eq_true_eq]
    intro c hc
    exact Nat.lt_trans (asc_iff.mp h.1 c hc) (by decide)
  | .tup xs, h => by simp only [pd, PyData.leavesShort]; exact rp_shortL xs (by simpa [rpOk] using h)
  | .lst xs, h => by simp only [pd, PyData.leavesShort]; exact rp_shortL xs (by simpa [rpOk] using h)
  | .dk _, h => by simp [rpOk] at h
  | .dt _, h => by simp [rpOk] at h
  | .obj _, h => by simp [rpOk] at h
  | .fn _, h => by simp [rpOk] at h
theorem rp_shortL : ∀ xs : List D, rpOkL xs = true → PyData.leavesShortAll 13 (pdL xs) = true
  | [], _ => by simp [pdL, PyData.leavesShortAll]
  | x :: xs, h => by
    simp only [rpOkL, Bool.and_eq_true] at h
    simp only [pdL, PyData.leavesShortAll, rp_short x h.1, rp_shortL xs h.2, Bool.and_self]
end
mutual
def bulkD : D → Nat
  | .str x => x.cps.size
  | .tup xs => bulkL xs
  | .lst xs => bulkL xs
  | _ => 0
def bulkL : List D → Nat
  | [] => 0
  | x :: xs => bulkD x + 1 + bulkL xs
end
mutual
theorem bulk_pd : ∀ d : D, (pd d).bulk = bulkD d
  | .non => by simp [pd, PyData.bulk, bulkD]
  | .bl b => by simp [pd, PyData.bulk, bulkD]
  | .int i => by simp [pd, PyData.bulk, bulkD]
  | .str x => by simp [pd, PyData.bulk, bulkD]
  | .tup xs => by simp only [pd, PyData.bulk, bulkD]; exact bulk_pdL xs
  | .lst xs => by simp only [pd, PyData.bulk, bulkD]; exact bulk_pdL xs
  | .dk _ => by simp [pd, PyData.bulk, bulkD]
  | .dt _ => by simp [pd, PyData.bulk, bulkD]
  | .obj _ => by simp [pd, PyData.bulk, bulkD]
  | .fn _ => by simp [pd, PyData.bulk, bulkD]
theorem bulk_pdL : ∀ xs : List D, PyData.bulkAll (pdL xs) = bulkL xs
  | [] => by simp [pdL, PyData.bulkAll, bulkL]
  | x :: xs => by simp only [pdL, PyData.bulkAll, bulkL, bulk_pd x, bulk_pdL xs]
end
/-- may be written: what repr gives -/
def RpD (d : D) : Prop := okN 60 d = true ∧ rpOk d = true ∧ bulkD d ≤ 2 ^ 20
abbrev txt (d : D) : Str := (pd d).shown
theorem hRepr_ok {d : D} (h : RpD d) : hRepr [d] = some (.sh (.str (txt d))) := by
  have := PyData.shown_fits_bulk (B := 13) (by decide) (by decide) (rp_short d h.2.1) (by rw [bulk_pd]; exact h.2.2)
  rw [sizeLine_eq] at this
  exact if_pos ⟨h.1, rp_show d h.2.1, this⟩
theorem txt_ok {d : D} (h : RpD d) (n : Nat) : okN n (.str (txt d)) = true := by
  simp only [okN]; exact rp_asc d h.2.1
theorem r_repr {d : D} (h : RpD d) (st : Sto) : oRepr [.sh d] st = some (.sh (.str (txt d)), st) := by
  have e : dS st (.sh d) = d := by
    cases d <;> first | rfl | (have := h.2.1; simp [rpOk] at this)
  simp [oRepr, e, hRepr_ok h]
/-- repr(x) != repr(x) -/
theorem ne_txt {d : D} (h : RpD d) (st : Sto) : oEqE true [.sh (.str (txt d)), .sh (.str (txt d))] st = some (.sh (.bl false), st) := by
  simp [oEqE, dE, oEq, txt_ok h, eqv]
theorem rpOkL_ints (ns : List Int) (h : ∀ n ∈ ns, n.natAbs < 10 ^ 12) : rpOkL (ns.map .int) = true := by
  induction ns with
  | nil => rfl
  | cons x xs ih =>
    simp only [List.map_cons, rpOkL, rpOk, Bool.and_eq_true, decide_eq_true_eq]
    exact ⟨h x (by simp), ih fun n hn => h n (by simp [hn])⟩
theorem bulkL_ints (ns : List Int) : bulkL (ns.map .int) = ns.length := by
  induction ns with
  | nil => rfl
  | cons x xs ih => simp only [List.map_cons, bulkL, bulkD, ih, List.length_cons]; omega
theorem rpd_non : RpD .non := ⟨rfl, rfl, by decide⟩
theorem rpd_int {i : Int} (h : i.natAbs < 10 ^ 12) : RpD (.int i) := ⟨rfl, by simp [rpOk]; omega, by simp [bulkD]⟩
theorem rpd_ints {ns : List Int} (h : ∀ n ∈ ns, n.natAbs < 10 ^ 12) (hl : ns.length ≤ 1000000) : RpD (.tup (ns.map .int)) :=
  ⟨by simp [okN], by simp only [rpOk]; exact rpOkL_ints ns h, by simp only [bulkD, bulkL_ints]; omega⟩
end PL

/-! PLWq: indices, slices, zips over encoded items. -/
namespace PL
open PySem PySem.Spec L2

theorem atI_pos {α : Type} (xs : List α) (i : Int) (h : 0 ≤ i) : atI xs i = xs[i.toNat]? := by
  unfold atI ixN
  rw [if_pos h]
  by_cases h2 : i < xs.length
  · rw [if_pos h2]; rfl
  · rw [if_neg h2, List.getElem?_eq_none (by omega)]; rfl
@[simp] theorem atI_nat {α : Type} (xs : List α) (i : Nat) : atI xs (i : Int) = xs[i]? := by rw [atI_pos _ _ (by omega)]; simp
@[simp] theorem atI_nat1 {α : Type} (xs : List α) (i : Nat) : atI xs ((i : Int) + 1) = xs[i + 1]? := by rw [atI_pos _ _ (by omega)]; congr 1
@[simp] theorem atI_0 {α : Type} (xs : List α) : atI xs 0 = xs[0]? := atI_pos _ _ (by omega)
@[simp] theorem atI_1 {α : Type} (xs : List α) : atI xs 1 = xs[1]? := atI_pos _ _ (by omega)
@[simp] theorem atI_2 {α : Type} (xs : List α) : atI xs 2 = xs[2]? := atI_pos _ _ (by omega)
@[simp] theorem atI_3 {α : Type} (xs : List α) : atI xs 3 = xs[3]? := atI_pos _ _ (by omega)
@[simp] theorem atI_last {α : Type} (xs : List α) : atI xs (-1) = xs.getLast? := by
  unfold atI ixN
  rw [if_neg (by omega), List.getLast?_eq_getElem?]
  by_cases h : -(xs.length : Int) ≤ -1
  · rw [if_pos h]
    show xs[(-1 + (xs.length : Int)).toNat]? = _
    congr 1; omega
  · rw [if_neg h]
    have : xs = [] := by cases xs with | nil => rfl | cons a l => simp at h; omega
    subst this; rfl
/-- a[i] -/
theorem ix_lst (xs : List D) (i : Int) (s : SV) (st : Sto) (hs : dS st s = .lst xs) (d : D) (h : atI xs i = some d) : oIx [s, .sh (.int i)] st = some (.sh d, st) := by
  simp [oIx, hs, hIx, h]
@[simp] theorem ix_lsth (xs : List D) (i : Int) (st : Sto) : oIx [.sh (.lst xs), .sh (.int i)] st = (atI xs i).map fun d => (.sh d, st) := by
  cases h : atI xs i <;> simp [oIx, hIx, h]
@[simp] theorem ix_lsto (xs : List D) (i : Int) (st : Sto) : oIx [.ow (.lst xs), .sh (.int i)] st = (atI xs i).map fun d => (.sh d, st) := by
  cases h : atI xs i <;> simp [oIx, hIx, h]
@[simp] theorem ix_lstr (xs : List D) (i : Int) (st : Sto) : oIx [.ro (.lst xs), .sh (.int i)] st = (atI xs i).map fun d => (.sh d, st) := by
  cases h : atI xs i <;> simp [oIx, hIx, h]
@[simp] theorem ix_tup (xs : List D) (i : Int) (st : Sto) : oIx [.sh (.tup xs), .sh (.int i)] st = (atI xs i).map fun d => (.sh d, st) := by
  cases h : atI xs i <;> simp [oIx, hIx, h]
theorem sx_pos (n d : Nat) (k : Int) (h : 0 ≤ k) : HT.sIx n d (some k) = min k.toNat n := by
  show (if k < 0 then (k + (n : Int)).toNat else min k.toNat n) = _
  rw [if_neg (by omega)]
theorem cut_from (xs : List D) (k : Int) (h : 0 ≤ k) : cutD xs (some k) none = xs.drop k.toNat := by
  unfold cutD
  rw [sx_pos _ _ _ h, HT.sIx_none]
  by_cases h2 : k.toNat ≤ xs.length
  · rw [Nat.min_eq_left h2, List.take_of_length_le (by simp)]
  · rw [Nat.min_eq_right (by omega), List.drop_length, List.drop_of_length_le (by omega)]; simp
theorem cut_to (xs : List D) (k : Int) (h : 0 ≤ k) : cutD xs none (some k) = xs.take k.toNat := by
  unfold cutD
  rw [sx_pos _ _ _ h, HT.sIx_none]
  simp only [List.drop_zero, Nat.sub_zero]
  by_cases h2 : k.toNat ≤ xs.length
  · rw [Nat.min_eq_left h2]
  · rw [Nat.min_eq_right (by omega), List.take_length, List.take_of_length_le (by omega)]
theorem cut_mid (xs : List D) (a k : Int) (ha : 0 ≤ a) (h : 0 ≤ k) : cutD xs (some a) (some k) = (xs.drop a.toNat).take (k.toNat - a.toNat) := by
  unfold cutD
  rw [sx_pos _ _ _ h, sx_pos _ _ _ ha]
  by_cases h2 : a.toNat ≤ xs.length
  · rw [Nat.min_eq_left h2]
    by_cases h3 : k.toNat ≤ xs.length
    · rw [Nat.min_eq_left h3]
    · rw [Nat.min_eq_right (by omega), List.take_of_length_le (by simp), List.take_of_length_le (by simp; omega)]
  · rw [Nat.min_eq_right (by omega : xs.length ≤ a.toNat), List.drop_length, List.drop_of_length_le (by omega)]; simp
@[simp] theorem cut_1 (xs : List D) : cutD xs (some 1) none = xs.drop 1 := cut_from xs 1 (by omega)
theorem zip2_map {α β : Type} (f : α → D) (g : β → D) (xs : List α) (ys : List β) : List.zipWith (fun a b => D.tup [a, b]) (xs.map f) (ys.map g) = (xs.zip ys).map fun p => .tup [f p.1, g p.2] := by
  induction xs generalizing ys with
  | nil => rfl
  | cons x xs ih => cases ys with
    | nil => rfl
    | cons y ys => simp [ih]
theorem zip3_map {α β γ : Type} (f : α → D) (g : β → D) (h : γ → D) (xs : List α) (ys : List β) (zs : List γ) : zip3L (xs.map f) (ys.map g) (zs.map h) = (xs.zip (ys.zip zs)).map fun p => .tup [f p.1, g p.2.1, h p.2.2] := by
  induction xs generalizing ys zs with
  | nil => simp [zip3L]
  | cons x xs ih => cases ys with
    | nil => simp [zip3L]
    | cons y ys => cases zs with
      | nil => simp [zip3L]
      | cons z zs => simp [zip3L, ih]
theorem enum_map {α : Type} (f : α → D) (xs : List α) (n : Nat) : enumL n (xs.map f) = (xs.zipIdx n).map fun p => .tup [.int (p.2 : Nat), f p.1] := by
  induction xs generalizing n with
  | nil => rfl
  | cons x xs ih => simp [enumL, ih]
theorem rng_map (n : Nat) : rngL 0 1 n = (List.range n).map fun i => .int (i : Nat) := by
  unfold rngL
  refine List.map_congr_left fun i _ => ?_
  simp
@[simp] theorem bools_map {α : Type} (t : α → Bool) (xs : List α) : bools (xs.map fun x => .bl (t x)) = some (xs.map t) := by
  induction xs with
  | nil => rfl
  | cons x xs ih => simp [bools, ih]
@[simp] theorem all_map {α : Type} (t : α → Bool) (xs : List α) (st : Sto) : oAll [.ow (.lst (xs.map fun x => .bl (t x)))] st = some (.sh (.bl (xs.all t)), st) := by
  simp [oAll, hBls]
@[simp] theorem any_map {α : Type} (t : α → Bool) (xs : List α) (st : Sto) : oAny [.ow (.lst (xs.map fun x => .bl (t x)))] st = some (.sh (.bl (xs.any t)), st) := by
  simp [oAny, hBls]
@[simp] theorem all_mapr {α : Type} (t : α → Bool) (xs : List α) (st : Sto) : oAll [.ro (.lst (xs.map fun x => .bl (t x)))] st = some (.sh (.bl (xs.all t)), st) := by
  simp [oAll, hBls]
@[simp] theorem any_mapr {α : Type} (t : α → Bool) (xs : List α) (st : Sto) : oAny [.ro (.lst (xs.map fun x => .bl (t x)))] st = some (.sh (.bl (xs.any t)), st) := by
  simp [oAny, hBls]
@[simp] theorem len_lsth (xs : List D) (st : Sto) : oLen [.sh (.lst xs)] st = some (.sh (.int xs.length), st) := by simp [oLen, hLen]
@[simp] theorem len_lsto (xs : List D) (st : Sto) : oLen [.ow (.lst xs)] st = some (.sh (.int xs.length), st) := by simp [oLen, hLen]
@[simp] theorem len_lstr (xs : List D) (st : Sto) : oLen [.ro (.lst xs)] st = some (.sh (.int xs.length), st) := by simp [oLen, hLen]
@[simp] theorem len_tup (xs : List D) (st : Sto) : oLen [.sh (.tup xs)] st = some (.sh (.int xs.length), st) := by simp [oLen, hLen]
@[simp] theorem len_dth (es : List (List Key × D)) (st : Sto) : oLen [.sh (.dt es)] st = some (.sh (.int es.length), st) := by simp [oLen, hLen]
@[simp] theorem len_dtr (es : List (List Key × D)) (st : Sto) : oLen [.ro (.dt es)] st = some (.sh (.int es.length), st) := by simp [oLen, hLen]
@[simp] theorem len_dkh (es : List (Key × D)) (st : Sto) : oLen [.sh (.dk es)] st = some (.sh (.int es.length), st) := by simp [oLen, hLen]
@[simp] theorem len_dkr (es : List (Key × D)) (st : Sto) : oLen [.ro (.dk es)] st = some (.sh (.int es.length), st) := by simp [oLen, hLen]
@[simp] theorem sub_int (a b : Int) (st : Sto) : oSub [.sh (.int a), .sh (.int b)] st = some (.sh (.int (a - b)), st) := by simp [oSub, i2]
@[simp] theorem add_int (a b : Int) (st : Sto) : oAdd [.sh (.int a), .sh (.int b)] st = some (.sh (.int (a + b)), st) := by simp [oAdd, hAdd]
@[simp] theorem neg_int (a : Int) (st : Sto) : oNeg [.sh (.int a)] st = some (.sh (.int (-a)), st) := by simp [oNeg]
@[simp] theorem cmp_int (c : Int → Int → Bool) (a b : Int) (st : Sto) : oCmp c [.sh (.int a), .sh (.int b)] st = some (.sh (.bl (c a b)), st) := by simp [oCmp]
@[simp] theorem tup_lsth (xs : List D) (st : Sto) : oTuple [.sh (.lst xs)] st = some (.sh (.tup xs), st) := by simp [oTuple, hTuple]
@[simp] theorem tup_lsto (xs : List D) (st : Sto) : oTuple [.ow (.lst xs)] st = some (.sh (.tup xs), st) := by simp [oTuple, hTuple]
@[simp] theorem tup_lstr (xs : List D) (st : Sto) : oTuple [.ro (.lst xs)] st = some (.sh (.tup xs), st) := by simp [oTuple, hTuple]
@[simp] theorem lst_tup (xs : List D) (st : Sto) : oList [.sh (.tup xs)] st = some (.ow (.lst xs), st) := by simp [oList, hList]
@[simp] theorem lst_lsto (xs : List D) (st : Sto) : oList [.ow (.lst xs)] st = some (.ow (.lst xs), st) := by simp [oList, hList]
@[simp] theorem lst_lsth (xs : List D) (st : Sto) : oList [.sh (.lst xs)] st = some (.ow (.lst xs), st) := by simp [oList, hList]
@[simp] theorem lst_lstr (xs : List D) (st : Sto) : oList [.ro (.lst xs)] st = some (.ow (.lst xs), st) := by simp [oList, hList]
@[simp] theorem int_int (i : Int) (st : Sto) : oInt [.sh (.int i)] st = some (.sh (.int i), st) := by simp [oInt]
@[simp] theorem int_bl (b : Bool) (st : Sto) : oInt [.sh (.bl b)] st = some (.sh (.int (if b then 1 else 0)), st) := by simp [oInt]
@[simp] theorem abs_int (i : Int) (st : Sto) : oAbs [.sh (.int i)] st = some (.sh (.int i.natAbs), st) := by
  simp [oAbs]; split <;> omega
@[simp] theorem min_int (a b : Int) (st : Sto) : oMin [.sh (.int a), .sh (.int b)] st = some (.sh (.int (min a b)), st) := by
  simp [oMin, hMin]; omega
@[simp] theorem max_int (a b : Int) (st : Sto) : oMax [.sh (.int a), .sh (.int b)] st = some (.sh (.int (max a b)), st) := by
  simp [oMax, hMax]; omega
theorem add_tup (xs ys : List D) (st : Sto) (h : xs.length + ys.length ≤ 16777216) : oAdd [.sh (.tup xs), .sh (.tup ys)] st = some (.sh (.tup (xs ++ ys)), st) := by simp [oAdd, hAdd, h]
theorem add_lst (x y : SV) (xs ys : List D) (st : Sto) (hx : dS st x = .lst xs) (hy : dS st y = .lst ys) (h : xs.length + ys.length ≤ 16777216) : oAdd [x, y] st = some (.ow (.lst (xs ++ ys)), st) := by simp [oAdd, hAdd, h, hx, hy]
theorem neE_lst {α : Type} (xs : List α) (f : α → D) (hf : ∀ x ∈ xs, okN 59 (f x) = true) (s : SV) (st : Sto) (hs : s.d = .lst (xs.map f)) (neg : Bool) (x : SV) (hx : x.d = .lst []) : oEqE neg [s, x] st = some (.sh (.bl (if neg then !xs.isEmpty else xs.isEmpty)), st) := by
  have h1 : okNL 59 (xs.map f) = true := by rw [okNL_iff]; simpa using hf
  have h2 : eqvL (xs.map f) [] = xs.isEmpty := by cases xs <;> rfl
  simp [oEqE, hs, hx, dE, oEq, h1, eqv, h2]
@[simp] theorem isNon_non : isNon .non = true := rfl
@[simp] theorem isNon_int (i : Int) : isNon (.int i) = false := rfl
@[simp] theorem isNon_bl (i : Bool) : isNon (.bl i) = false := rfl
@[simp] theorem isNon_str (i : Str) : isNon (.str i) = false := rfl
@[simp] theorem isNon_tup (i : List D) : isNon (.tup i) = false := rfl
@[simp] theorem isNon_lst (i : List D) : isNon (.lst i) = false := rfl
@[simp] theorem is_none (b : Bool) (d : D) (st : Sto) (h : ∀ n, d ≠ .obj n) : oIs b [.sh d, .sh .non] st = some (.sh (.bl (if b then !isNon d else isNon d)), st) := by
  cases d with
  | obj n => exact absurd rfl (h n)
  | fn x =>
    have e : dS st (.sh (.fn x)) = .fn x := rfl
    cases b <;> simp [oIs, hIs, e]
  | _ => cases b <;> simp [oIs, hIs]
@[simp] theorem toShs_app {α : Type} (f : α → D) (l : List α) (ss : List SV) : toShs (l.map (SV.sh ∘ f) ++ ss) = (toShs ss).map fun ds => l.map f ++ ds := by
  induction l with
  | nil => cases h : toShs ss <;> simp [h]
  | cons x l ih => cases h : toShs ss <;> simp [ih, h]
@[simp] theorem toShs_mapc {α : Type} (f : α → D) (l : List α) : toShs (l.map (SV.sh ∘ f)) = some (l.map f) := by
  induction l with
  | nil => rfl
  | cons x l ih => simp [ih]
mutual
theorem eqv_self : ∀ (n : Nat) (d : D), okN n d = true → eqv d d = true
  | _, .non, _ => rfl
  | _, .bl b, _ => by simp [eqv]
  | _, .int i, _ => by simp [eqv]
  | _, .str x, _ => by simp [eqv]
  | n + 1, .tup xs, h => by simp only [eqv]; exact eqvL_self n xs (by simpa using h)
  | n + 1, .lst xs, h => by simp only [eqv]; exact eqvL_self n xs (by simpa using h)
  | 0, .tup xs, h => by simp [okN] at h
  | 0, .lst xs, h => by simp [okN] at h
  | 0, .dk xs, h => by simp [okN] at h
  | 0, .dt xs, h => by simp [okN] at h
  | 0, .obj xs, h => by simp [okN] at h
  | 0, .fn xs, h => by simp [okN] at h
  | _ + 1, .dk xs, h => by simp [okN] at h
  | _ + 1, .dt xs, h => by simp [okN] at h
  | _ + 1, .obj xs, h => by simp [okN] at h
  | _ + 1, .fn xs, h => by simp [okN] at h
theorem eqvL_self : ∀ (n : Nat) (xs : List D), okNL n xs = true → eqvL xs xs = true
  | _, [], _ => rfl
  | n, x :: xs, h => by
    simp only [okNL_cons, Bool.and_eq_true] at h
    simp only [eqvL, eqv_self n x h.1, eqvL_self n xs h.2, Bool.and_self]
end
theorem ne_same {d : D} (h : okN 60 d = true) (st : Sto) : oEqE true [.sh d, .sh d] st = some (.sh (.bl false), st) := by
  have e := eqv_self 60 d h
  have e2 : dE d d = none := by
    cases d <;> first | rfl | simp [okN] at h
  simp [oEqE, e2, oEq, h, e]
theorem alike_ints : ∀ (a b : List Int), PySem.W.alikeAll (pdL (a.map .int)) (pdL (b.map .int)) = true
  | [], _ => by simp [pdL, PySem.W.alikeAll]
  | _ :: _, [] => by simp [pdL, PySem.W.alikeAll]
  | x :: a, y :: b => by simp [pdL, pd, PySem.W.alikeAll, PySem.W.alike, alike_ints a b]
/-- lists of tuples of ints may be sorted: none of them empty, or one alone -/
theorem sortable_tups (ks : List (List Int)) (hl : ks.length ≤ 16777216) (h : (∀ k ∈ ks, k ≠ []) ∨ ks.length ≤ 1) : sortable (ks.map fun k => .tup (k.map .int)) = true := by
  unfold sortable
  have h1 : okNL 59 (ks.map fun k => D.tup (k.map .int)) = true := by rw [okNL_iff]; simp
  have h2 : ((ks.map fun k => D.tup (k.map .int)).all fun a => (ks.map fun k => D.tup (k.map .int)).all fun b => PySem.W.alike (pd a) (pd b)) = true := by
    rw [List.all_map, List.all_eq_true]
    intro a _
    simp only [Function.comp]
    rw [List.all_map, List.all_eq_true]
    intro b _
    simp [pd, PySem.W.alike, alike_ints]
  rw [h1, h2]
  simp only [Bool.true_and, List.length_map, Bool.and_eq_true, Bool.or_eq_true, decide_eq_true_eq]
  refine ⟨?_, hl⟩
  rcases h with h | h
  · left; left
    rw [List.all_map, List.all_eq_true]
    intro k hk
    have := h k hk
    cases k with
    | nil => exact absurd rfl this
    | cons x k => rfl
  · right
    exact ⟨h, by rw [List.all_map, List.all_eq_true]; intro k _; rfl⟩
def sortK (ks : List (List Int)) : List (List Int) := ks.mergeSort fun a b => leD (.tup (a.map .int)) (.tup (b.map .int))
theorem sort_tups (ks : List (List Int)) : (ks.map fun k => D.tup (k.map .int)).mergeSort leD = (sortK ks).map fun k => .tup (k.map .int) := by
  exact (List.map_mergeSort (f := fun k : List Int => D.tup (k.map .int)) (r := fun a b : List Int => leD (.tup (a.map .int)) (.tup (b.map .int))) (s := leD) (l := ks) fun a _ b _ => rfl).symm
theorem sortK_perm (ks : List (List Int)) : (sortK ks).Perm ks := List.mergeSort_perm _ _
end PL

/-! PLKd: dicts of lots. -/
namespace PL
open PySem PySem.Spec L2
theorem inl_inj {a b : List Int} (h : a.map (Sum.inl : Int → Key) = b.map Sum.inl) : a = b := by
  induction a generalizing b with
  | nil => cases b with | nil => rfl | cons y b => simp at h
  | cons x a ih => cases b with
    | nil => simp at h
    | cons y b => simp at h; rw [h.1, ih h.2]
/-- a dict from lots -/
def dL {α : Type} (f : α → D) (es : List (List Int × α)) : D := .dt (es.map fun p => (p.1.map Sum.inl, f p.2))
theorem putA_enc {α : Type} (f : α → D) (es : List (List Int × α)) (k : List Int) (v : α) : putA (es.map fun p => ((p.1.map Sum.inl : List Key), f p.2)) (k.map Sum.inl) (f v) = (putA es k v).map fun p => (p.1.map Sum.inl, f p.2) := by
  unfold putA
  have e : ((es.map fun p => ((p.1.map Sum.inl : List Key), f p.2)).any fun p => decide (p.1 = k.map Sum.inl)) = es.any fun p => decide (p.1 = k) := by
    rw [List.any_map]
    congr 1
    funext p
    simp only [Function.comp, decide_eq_decide]
    exact ⟨inl_inj, fun h => by rw [h]⟩
  rw [e]
  split
  · rw [List.map_map, List.map_map]
    refine List.map_congr_left fun p _ => ?_
    simp only [Function.comp]
    by_cases h : p.1 = k
    · rw [if_pos h, if_pos (by rw [h])]
    · rw [if_neg h, if_neg fun z => h (inl_inj z)]
  · simp
theorem findA_enc {α : Type} (f : α → D) (es : List (List Int × α)) (k : List Int) : findA (es.map fun p => ((p.1.map Sum.inl : List Key), f p.2)) (k.map Sum.inl) = (findA es k).map f := by
  unfold findA
  induction es with
  | nil => rfl
  | cons p es ih =>
    simp only [List.map_cons, List.find?_cons]
    by_cases h : p.1 = k
    · simp [h]
    · have h2 : ¬ (p.1.map (Sum.inl : Int → Key) = k.map Sum.inl) := fun z => h (inl_inj z)
      simp only [h, h2, decide_false]
      simpa using ih
theorem fPut_dL {α : Type} (f : α → D) (es : List (List Int × α)) (k : List Int) (v : α) (h : es.length < 16777216) : fPut (.tup (k.map .int)) (f v) (dL f es) = some (dL f (putA es k v)) := by
  unfold fPut dL
  simp [h, putA_enc]
theorem mergeA_enc {α : Type} (f : α → D) (es fs : List (List Int × α)) : mergeA (es.map fun p => ((p.1.map Sum.inl : List Key), f p.2)) (fs.map fun p => (p.1.map Sum.inl, f p.2)) = (mergeA es fs).map fun p => (p.1.map Sum.inl, f p.2) := by
  unfold mergeA
  induction fs generalizing es with
  | nil => rfl
  | cons p fs ih =>
    simp only [List.map_cons, List.foldl_cons]
    rw [putA_enc, ih]
theorem find_isSome {α : Type} (es : List (List Int × α)) (k : List Int) : (findA es k).isSome = decide (k ∈ es.map (·.1)) := by
  unfold findA
  induction es with
  | nil => rfl
  | cons p es ih =>
    simp only [List.find?_cons, List.map_cons, List.mem_cons]
    by_cases h : p.1 = k
    · simp [h]
    · have h2 : ¬ k = p.1 := fun z => h z.symm
      simp only [h, decide_false, h2, false_or]; exact ih
theorem find_eq {κ α : Type} [DecidableEq κ] (es : List (κ × α)) (k : κ) : (es.find? fun p => decide (p.1 = k)).map (·.2) = findA es k := rfl
@[simp] theorem dS_dLs {α : Type} {f : α → D} {es : List (List Int × α)} {st : Sto} : dS st (.sh (dL f es)) = dL f es := rfl
@[simp] theorem dS_dLo {α : Type} {f : α → D} {es : List (List Int × α)} {st : Sto} : dS st (.ow (dL f es)) = dL f es := rfl
@[simp] theorem dS_dLr {α : Type} {f : α → D} {es : List (List Int × α)} {st : Sto} : dS st (.ro (dL f es)) = dL f es := rfl
theorem inD_dL {α : Type} (f : α → D) (es : List (List Int × α)) (k : List Int) : inD (.tup (k.map .int)) (dL f es) = some (decide (k ∈ es.map (·.1))) := by
  unfold inD dL
  simp only [keyD_ints, Option.map_some, Option.some.injEq]
  rw [find_eq, findA_enc, ← find_isSome]
  simp
theorem inN_dL {α : Type} (neg : Bool) (f : α → D) (es : List (List Int × α)) (k : List Int) (st : Sto) (s : SV) (hs : dS st s = dL f es) : oInN neg [.sh (.tup (k.map .int)), s] st = some (.sh (.bl (if neg then !decide (k ∈ es.map (·.1)) else decide (k ∈ es.map (·.1)))), st) := by
  simp [oInN, hs, hInN, hIn, inD_dL]
theorem inN_non {α : Type} (neg : Bool) (f : α → D) (es : List (List Int × α)) (st : Sto) (s : SV) (hs : dS st s = dL f es) : oInN neg [.sh .non, s] st = some (.sh (.bl neg), st) := by
  simp [oInN, hs, hInN, dL]
theorem ix_dL {α : Type} (f : α → D) (es : List (List Int × α)) (k : List Int) (st : Sto) (s : SV) (hs : dS st s = dL f es) (v : α) (h : findA es k = some v) : oIx [s, .sh (.tup (k.map .int))] st = some (.sh (f v), st) := by
  have h2 := findA_enc f es k
  rw [h] at h2
  simp only [oIx, ev_oG, List.map_cons, List.map_nil, hs, dS_tup]
  unfold dL hIx
  have e3 : hIx.keyD (k.map .int) = some (k.map Sum.inl) := keyD_ints k
  simp only [e3, find_eq, h2, Option.map_some]
  rfl
theorem get2_dL {α : Type} (f : α → D) (es : List (List Int × α)) (k : List Int) (st : Sto) (s : SV) (hs : s.d = dL f es) (x : D) : oGet2 [s, .sh (.tup (k.map .int)), .sh x] st = some (.sh (((findA es k).map f).getD x), st) := by
  have h2 := findA_enc f es k
  have e : getD (dL f es) (.tup (k.map .int)) = some ((findA es k).map f) := by
    unfold getD dL; simp [h2]
  unfold oGet2
  simp only [dS_tup, hs, e]
  cases findA es k <;> rfl
theorem srcD_dL {α : Type} (f : α → D) (es : List (List Int × α)) : srcD (dL f es) = some (es.map fun p => .tup (p.1.map .int)) := by
  unfold dL
  simp only [srcD_dt, List.map_map, Option.some.injEq]
  refine List.map_congr_left fun p _ => ?_
  simp only [Function.comp]
  congr 1
  rw [List.map_map]
  exact List.map_congr_left fun x _ => rfl
theorem itemsD_dL {α : Type} (f : α → D) (es : List (List Int × α)) : itemsD (dL f es) = some (es.map fun p => .tup [.tup (p.1.map .int), f p.2]) := by
  unfold dL itemsD
  simp only [List.map_map, Option.some.injEq]
  refine List.map_congr_left fun p _ => ?_
  simp only [Function.comp]
  congr 2
  rw [List.map_map]
  congr 1
theorem len_dL {α : Type} (f : α → D) (es : List (List Int × α)) (st : Sto) (s : SV) (hs : dS st s = dL f es) : oLen [s] st = some (.sh (.int es.length), st) := by
  simp only [oLen, ev_oG, List.map_cons, List.map_nil, hs]
  simp [dL, hLen]
theorem vals_dL {α : Type} (f : α → D) (es : List (List Int × α)) : valsD (dL f es) = some (es.map fun p => f p.2) := by
  unfold dL valsD
  simp [Function.comp]
end PL

/-! PLPot: draws. -/
namespace PL
open PySem PySem.Spec L2
/-- few bits -/
def Bt (a : Nat) (i : Int) : Prop := i.natAbs < 2 ^ a
theorem Bt.mul {a b : Nat} {i j : Int} (h : Bt a i) (k : Bt b j) : Bt (a + b) (i * j) := by
  unfold Bt at *
  rw [Int.natAbs_mul, Nat.pow_add]
  exact Nat.mul_lt_mul'' h k
theorem Bt.add {a b : Nat} {i j : Int} (h : Bt a i) (k : Bt b j) : Bt (a + b + 1) (i + j) := by
  unfold Bt at *
  have h1 : (2 : Nat) ^ a ≤ 2 ^ (a + b) := Nat.pow_le_pow_right (by decide) (by omega)
  have h2 : (2 : Nat) ^ b ≤ 2 ^ (a + b) := Nat.pow_le_pow_right (by decide) (by omega)
  have h3 : (2 : Nat) ^ (a + b + 1) = 2 ^ (a + b) + 2 ^ (a + b) := by rw [Nat.pow_succ]; omega
  have := Int.natAbs_add_le i j
  omega
theorem Bt.log {a : Nat} {i : Int} (h : Bt a i) : i.natAbs.log2 ≤ a := by
  unfold Bt at h
  by_cases h0 : i.natAbs = 0
  · rw [h0]; exact Nat.zero_le _
  · exact Nat.le_of_lt ((Nat.log2_lt h0).mpr h)
theorem Bt.mono {a b : Nat} {i : Int} (h : Bt a i) (hab : a ≤ b) : Bt b i := Nat.lt_of_lt_of_le h (Nat.pow_le_pow_right (by decide) hab)
theorem bt_of {a : Nat} {i : Int} (h0 : 0 ≤ i) (h : i < (2 ^ a : Nat)) : Bt a i := by unfold Bt; omega
theorem mul_int {a b : Nat} {i j : Int} (h : Bt a i) (k : Bt b j) (hab : a + b < 1000000) (st : Sto) : oMul [.sh (.int i), .sh (.int j)] st = some (.sh (.int (i * j)), st) := by
  have h1 := h.log; have h2 := k.log
  have : i.natAbs.log2 + j.natAbs.log2 < 1000000 := by omega
  simp [oMul, oMulI, i2, this]
theorem fdiv_int {i j : Int} (h : 0 < j) (h2 : Bt 8000 j) (st : Sto) : oFdiv [.sh (.int i), .sh (.int j)] st = some (.sh (.int (i / j)), st) := by
  have := h2.log
  have h3 : j.natAbs.log2 < 9000 := by omega
  simp [oFdiv, i2, h, h3]
theorem mod_int {i j : Int} (h : 0 < j) (st : Sto) : oMod [.sh (.int i), .sh (.int j)] st = some (.sh (.int (i % j)), st) := by
  simp [oMod, i2, h]
theorem pow_int {a : Nat} {i : Int} (h : Bt a i) (j : Nat) (hab : (a + 1) * j ≤ 2 ^ 27) (st : Sto) : oPow [.sh (.int i), .sh (.int (j : Int))] st = some (.sh (.int (i ^ j)), st) := by
  have h1 := h.log
  have h2 : Builtin.Int.intBits i ≤ a + 1 := by unfold Builtin.Int.intBits; split <;> omega
  have h3 : ((Builtin.Int.intBits i : Nat) : Int) * (j : Int) ≤ 2 ^ 27 := by
    have := Nat.mul_le_mul_right j h2
    have h4 : Builtin.Int.intBits i * j ≤ 2 ^ 27 := Nat.le_trans this hab
    have h5 : ((Builtin.Int.intBits i * j : Nat) : Int) ≤ ((2 ^ 27 : Nat) : Int) := Int.ofNat_le.mpr h4
    simpa using h5
  have h4 : (0 : Int) ≤ (j : Int) := by omega
  have : (0 ≤ (j : Int) ∧ ((Builtin.Int.intBits i : Nat) : Int) * (j : Int) ≤ 2 ^ 27) := ⟨h4, h3⟩
  simp only [oPow, ev_oG, List.map_cons, List.map_nil, dS_int, i2]
  rw [if_pos this]
  rfl
theorem mod_bt {i j : Int} {a : Nat} (h : 0 < j) (h2 : j ≤ (2 ^ a : Nat)) : Bt a (i % j) := by
  have h3 := Int.emod_nonneg i (by omega : j ≠ 0)
  have h4 := Int.emod_lt_of_pos i h
  exact bt_of h3 (by omega)
theorem eraseIdx_perm {α : Type} : ∀ (l : List α) (i : Nat) (d : α), l[i]? = some d → (d :: l.eraseIdx i).Perm l
  | [], i, d, h => by simp at h
  | x :: l, 0, d, h => by simp at h; subst h; exact List.Perm.refl _
  | x :: l, i + 1, d, h => by
    have := eraseIdx_perm l i d (by simpa using h)
    rw [List.eraseIdx_cons_succ]
    exact (List.Perm.swap x d _).trans (this.cons x)
theorem sRng1_int (g : Ar) (ρ : Lo) (st st' : Sto) (j : Int) (h0 : 0 ≤ j) (hj : j ≤ 1000000) (hg : g ρ st = some ([.sh (.int j)], st')) : sRng1 g ρ st = some ((List.range j.toNat).map fun i => .int (i : Nat), false, st') := by
  rw [ev_sRng1, hg]
  simp only
  rw [if_pos ⟨by omega, by omega⟩, rng_map]
theorem sRng1_nat (g : Ar) (ρ : Lo) (st st' : Sto) (n : Nat) (hn : n ≤ 1000000) (hg : g ρ st = some ([.sh (.int (n : Nat))], st')) : sRng1 g ρ st = some ((List.range n).map fun i => .int (i : Nat), false, st') := by
  have := sRng1_int g ρ st st' (n : Nat) (by omega) (by omega) hg
  rw [this, Int.toNat_natCast]
/-- a pot: at most b draws of the mixed numbers so far -/
def Pot (b : Nat) (n : Nat) (st : Sto) : Prop := ∃ own small k : Int, st[n]? = some (.lst [.int own, .int small, .int k]) ∧ 0 ≤ own ∧ Bt 1000 own ∧ 0 ≤ small ∧ small < 2305843009213693952 ∧ 0 ≤ k ∧ k ≤ b
theorem Pot.mono {b b' n : Nat} {st : Sto} (h : Pot b n st) (hb : b ≤ b') : Pot b' n st := by
  obtain ⟨o, s, k, h1, h2, h3, h4, h5, h6, h7⟩ := h
  exact ⟨o, s, k, h1, h2, h3, h4, h5, h6, by omega⟩
/-- what a draw leaves -/
structure Drawn (b n : Nat) (st st' : Sto) : Prop where
  pot : Pot (b + 1) n st'
  len : st'.length = st.length
  oth : ∀ m, m ≠ n → st'[m]? = st[m]?
theorem drawn_set {b n : Nat} {st : Sto} {own small k : Int} (h : ∃ d, st[n]? = some d) (h2 : 0 ≤ own) (h3 : Bt 1000 own) (h4 : 0 ≤ small) (h5 : small < 2305843009213693952) (h6 : 0 ≤ k) (h7 : k ≤ b + 1) : Drawn b n st (st.set n (.lst [.int own, .int small, .int k])) := by
  obtain ⟨d, hd⟩ := h
  have hn : n < st.length := (List.getElem?_eq_some_iff.mp hd).1
  refine ⟨⟨own, small, k, by simp [hn], h2, h3, h4, h5, h6, by omega⟩, by simp, fun m hm => ?_⟩
  rw [List.getElem?_set_ne fun z => hm z.symm]
end PL

section
set_option maxHeartbeats 4000000
namespace K80
open PySem PySem.Spec L2 PL
/-! ### the pure functions -/
def f__law_places : S := sRet (pListRng (pOp oMax (aCons (pC (.int 1)) (aCons (pOp oMin (aCons (pVar 1) (aCons (pOp oLen (aCons (pVar 0) (aNil))) (aNil)))) (aNil)))))
def o__law_places : Op := runF 2 2 f__law_places
def f__law_pot : S := sSeq (sPut false 2 (pIf (pOp (oCmp (fun i j => decide (i < j))) (a2 (pVar 1) (pOp oLen (aCons (pVar 0) (aNil))))) (pOp oIx (a2 (pVar 0) (pVar 1))) (pOp oAdd (a2 (pOp oAdd (a2 (pOp oMod (a2 (pOp oSum (aCons (pSlice (pVar 0) ptNo (ptInt (pC (.int 1)))) (aNil))) (pC (.int 1000003)))) (pOp oMul (a2 (pC (.int 12181)) (pVar 1))))) (pC (.int 511)))))) (sSeq (sPut false 3 (pOp oMul (a2 (pOp oMod (a2 (pOp oInt (aCons (pOp oAbs (aCons (pVar 2) (aNil))) (aNil))) (pOp oPow (a2 (pOp oPow (a2 (pC (.int 10)) (pC (.int 60)))) (pC (.int 5)))))) (pOp oInt (aCons (pOp (oCmp (fun i j => decide (j ≤ i))) (a2 (pOp oAbs (aCons (pVar 2) (aNil))) (pOp oPow (a2 (pC (.int 10)) (pC (.int 18)))))) (aNil)))))) (sSeq (sPut false 4 (pOp oMod (a2 (pOp oInt (aCons (pVar 2) (aNil))) (pC (.int 2305843009213693951))))) (sFrz [3] (sRet (pOp oLst (aCons (pVar 3) (aCons (pOp oMod (a2 (pOp oInt (aCons (pOp oAdd (a2 (pOp oAdd (a2 (pOp oMul (a2 (pVar 4) (pC (.int 100119)))) (pOp oMul (a2 (pOp oMul (a2 (pC (.int 16743)) (pVar 1))) (pVar 1))))) (pC (.int 918)))) (aNil))) (pC (.int 2305843009213693921)))) (aCons (pC (.int 0)) (aNil)))))))))
def o__law_pot : Op := runF 2 5 f__law_pot
def c1__law_step : P := pOp (oEqE true) (a2 (pVar 3) (pVar 2))
def f__law_step : S := sSeq (sIf (pOp (oEqE false) (a2 (pOp (oEqE false) (a2 (pVar 1) (pC (.str "in")))) (pOp (oInN false) (a2 (pVar 2) (pVar 0))))) (sRet (pC .non)) (sSkip)) (sFrz [2, 3] (sRet (pIf (pOp (oEqE false) (a2 (pVar 1) (pC (.str "in")))) (pOp oTuple (aCons (pOp oSorted (aCons (pOp oAdd (a2 (pVar 0) (pOp oTup (aCons (pVar 2) (aNil))))) (aNil))) (aNil))) (pOp oTuple (aCons (pLc (sAny (pVar 0)) [3] (PL.gName 3) (some (c1__law_step)) (pVar 3)) (aNil))))))
def o__law_step : Op := runF 3 4 f__law_step
def c1__law_first_way : P := pOp (oInN false) (a2 (pOp o__law_step (aCons (pVar 2) (aCons (pVar 5) (aCons (pVar 7) (aNil))))) (pOp oIx (a2 (pVar 1) (pOp oAdd (a2 (pVar 4) (pC (.int 1)))))))
def b2__law_first_way : S := sSeq (sClr [7] (sFrz [7, 2, 5] (sPut false 7 (pOp oIx (a2 (pLc (sAny (pVar 6)) [7] (PL.gName 7) (some (c1__law_first_way)) (pVar 7)) (pC (.int 0))))))) (sSeq (sFrz [2, 5, 7] (sPut false 2 (pOp o__law_step (aCons (pVar 2) (aCons (pVar 5) (aCons (pVar 7) (aNil))))))) (sFrz [7] (sApp 3 (pVar 7))))
def f__law_first_way : S := sSeq (sIf (pOp (oInN true) (a2 (pOp oTup (aNil)) (pOp oIx (a2 (pVar 1) (pC (.int 0)))))) (sRet (pC .non)) (sSkip)) (sSeq (sPar2 false 2 false 3 (aCons (pOp oTup (aNil)) (aCons (pOp oLst (aNil)) (aNil)))) (sSeq (sFor (sEnum (aCons (pOp oIx (a2 (pVar 0) (pC (.int 1)))) (aNil))) (PL.gTup [PL.gName 4, PL.gTup [PL.gName 5, PL.gName 6]]) (b2__law_first_way)) (sRet (pOp oTuple (aCons (pVar 3) (aNil))))))
def o__law_first_way : Op := runF 2 8 f__law_first_way
def f__law_is_int : S := sRet (pAnd (isB (pOp (oIsi "int") (a1 (pVar 0)))) (pAnd (isB (pNot (isB (pOp (oIsi "bool") (a1 (pVar 0)))))) (pChain (fun i j => decide (i ≤ j)) (fun i j => decide (i ≤ j)) (pVar 1) (pVar 0) (pVar 2))))
def o__law_is_int : Op := runF 3 3 f__law_is_int
def b1__law_inside : S := sSeq (sFrz [3] (sIf (pOr (pNot (pOp o__law_is_int (aCons (pVar 3) (aCons (pC (.int 0)) (aCons (pOp oSub (a2 (pOp oIx (a2 (pVar 0) (pC (.int 0)))) (pC (.int 1)))) (aNil)))))) (pOp (oInN true) (a2 (pVar 3) (pVar 5)))) (sRet (pC .non)) (sSkip))) (sSeq (sFrz [2, 4, 3] (sPut false 2 (pOp o__law_step (aCons (pVar 2) (aCons (pVar 4) (aCons (pVar 3) (aNil))))))) (sIf (pOp (oIs false) (a2 (pVar 2) (pC .non))) (sRet (pC .non)) (sSkip)))
def f__law_inside : S := sSeq (sIf (pOr (pNot (pOp (oIsi "tuple") (a1 (pVar 1)))) (pOp (oEqE true) (a2 (pOp oLen (aCons (pVar 1) (aNil))) (pOp oLen (aCons (pOp oIx (a2 (pVar 0) (pC (.int 1)))) (aNil)))))) (sRet (pC .non)) (sSkip)) (sSeq (sPut false 2 (pOp oTup (aNil))) (sSeq (sFrz [1] (sFor (sZip2 (aCons (pVar 1) (aCons (pOp oIx (a2 (pVar 0) (pC (.int 1)))) (aNil)))) (PL.gTup [PL.gName 3, PL.gTup [PL.gName 4, PL.gName 5]]) (b1__law_inside))) (sRetV 2)))
def o__law_inside : Op := runF 2 6 f__law_inside
def e1__law_lasts : P := pOp oTup (aCons (pVar 8) (aCons (pC (.bl true)) (aNil)))
def e2__law_lasts : P := pOp (oInN false) (a2 (pOp o__law_step (aCons (pVar 8) (aCons (pVar 5) (aCons (pVar 9) (aNil))))) (pOp oIx (a2 (pVar 3) (pC (.int 0)))))
def b3__law_lasts : S := sFrz [8, 5, 9] (sIf (pOp oAny (aCons (pLc (sAny (pVar 6)) [9] (PL.gName 9) none (e2__law_lasts)) (aNil))) (sPutIx 7 (pVar 8) (pC (.bl true))) (sSkip))
def b4__law_lasts : S := sSeq (sAsgT (PL.gTup [PL.gName 5, PL.gName 6]) (pOp oIx (a2 (pOp oIx (a2 (pVar 0) (pC (.int 1)))) (pVar 4)))) (sSeq (sPut false 7 (pDT)) (sSeq (sFor (sAny (pOp oIx (a2 (pVar 1) (pVar 4)))) (PL.gName 8) (b3__law_lasts)) (sFrz [7] (sPut false 3 (pOp oAdd (a2 (pOp oLst (aCons (pVar 7) (aNil))) (pVar 3)))))))
def f__law_lasts : S := sSeq (sClr [8] (sFrz [8] (sPut false 3 (pOp oLst (aCons (pOp oDictT (aCons (pLc (sAny (pVar 2)) [8] (PL.gName 8) none (e1__law_lasts)) (aNil))) (aNil)))))) (sSeq (sFor (sRng3 (aCons (pOp oSub (a2 (pOp oLen (aCons (pOp oIx (a2 (pVar 0) (pC (.int 1)))) (aNil))) (pC (.int 1)))) (aCons (pOp oNeg (a1 (pC (.int 1)))) (aCons (pOp oNeg (a1 (pC (.int 1)))) (aNil))))) (PL.gName 4) (b4__law_lasts)) (sRetV 3))
def o__law_lasts : Op := runF 3 10 f__law_lasts
def f__law_take : S := sSeq (sIf (pOp (oCmp (fun i j => decide (j < i))) (a2 (pOp oIx (a2 (pVar 0) (pC (.int 0)))) (pC (.int 0)))) (sSeq (sPut false 2 (pOp oMod (a2 (pOp oInt (aCons (pOp oIx (a2 (pVar 0) (pC (.int 0)))) (aNil))) (pVar 1)))) (sSeq (sPutIx 0 (pC (.int 0)) (pOp oFdiv (a2 (pOp oIx (a2 (pVar 0) (pC (.int 0)))) (pVar 1)))) (sRetV 2))) (sSkip)) (sSeq (sPutIx 0 (pC (.int 2)) (pOp oAdd (a2 (pOp oIx (a2 (pVar 0) (pC (.int 2)))) (pC (.int 1))))) (sSeq (sPut false 3 (pOp oIx (a2 (pOp oLst (aCons (pC (.int 2147483647)) (aCons (pC (.int 2147483629)) (aCons (pC (.int 2147483587)) (aCons (pC (.int 2147483579)) (aCons (pC (.int 2147483563)) (aNil))))))) (pOp oMod (a2 (pOp oInt (aCons (pOp oIx (a2 (pVar 0) (pC (.int 2)))) (aNil))) (pC (.int 5))))))) (sSeq (sPut false 4 (pOp oMod (a2 (pOp oInt (aCons (pOp oPow (a2 (pOp oInt (aCons (pOp oAdd (a2 (pOp oAdd (a2 (pOp oIx (a2 (pVar 0) (pC (.int 1)))) (pOp oMul (a2 (pOp oMul (a2 (pC (.int 96632)) (pOp oIx (a2 (pVar 0) (pC (.int 2)))))) (pOp oIx (a2 (pVar 0) (pC (.int 2)))))))) (pC (.int 718)))) (aNil))) (pC (.int 3)))) (aNil))) (pVar 3)))) (sSeq (sPut false 4 (pOp oMod (a2 (pOp oInt (aCons (pOp oMul (a2 (pVar 4) (pOp oAdd (a2 (pOp oMod (a2 (pOp oInt (aCons (pVar 4) (aNil))) (pC (.int 10259)))) (pOp oMul (a2 (pC (.int 122)) (pOp oIx (a2 (pVar 0) (pC (.int 2)))))))))) (aNil))) (pC (.int 2305843009213693907))))) (sRet (pOp oMod (a2 (pOp oInt (aCons (pOp oFdiv (a2 (pVar 4) (pC (.int 152)))) (aNil))) (pVar 1))))))))
def o__law_take : Op := runF 2 5 f__law_take
def b1__law_some : S := sFrz [0] (sApp 4 (pMt isLst (pVar 3) (aCons (pOp o__law_take (aCons (pVar 0) (aCons (pOp oLen (aCons (pVar 3) (aNil))) (aNil)))) (aNil)) oPopAt))
def f__law_some : S := sSeq (sPar2 true 3 false 4 (aCons (pOp oList (aCons (pVar 1) (aNil))) (aCons (pOp oLst (aNil)) (aNil)))) (sSeq (sFor (sRng1 (aCons (pVar 2) (aNil))) (PL.gName 5) (b1__law_some)) (sRetV 4))
def o__law_some : Op := runF 3 6 f__law_some
def c1_behind_of : P := pOp (oEqE true) (a2 (pVar 4) (pVar 3))
def b2_behind_of : S := sSeq (sIf (pAnd (pOp (oEqE false) (a2 (pOp oIx (a2 (pVar 1) (pC (.int 0)))) (pC (.str "in")))) (pOp (oInN true) (a2 (pVar 3) (pVar 0)))) (sFrz [3] (sApp 2 (pOp oTup (aCons (pVar 3) (aCons (pOp oTuple (aCons (pOp oSorted (aCons (pOp oLst (aStar (pVar 0) (aCons (pVar 3) (aNil)))) (aNil))) (aNil))) (aNil)))))) (sSkip)) (sIf (pAnd (pOp (oEqE false) (a2 (pOp oIx (a2 (pVar 1) (pC (.int 0)))) (pC (.str "out")))) (pOp (oInN false) (a2 (pVar 3) (pVar 0)))) (sFrz [3, 4] (sApp 2 (pOp oTup (aCons (pVar 3) (aCons (pOp oTuple (aCons (pLc (sAny (pVar 0)) [4] (PL.gName 4) (some (c1_behind_of)) (pVar 4)) (aNil))) (aNil)))))) (sSkip))
def f_behind_of : S := sSeq (sPut false 2 (pOp oLst (aNil))) (sSeq (sFor (sAny (pOp oIx (a2 (pVar 1) (pC (.int 1))))) (PL.gName 3) (b2_behind_of)) (sRetV 2))
def o_behind_of : Op := runF 2 5 f_behind_of
def f_is_whole : S := sRet (pAnd (isB (pOp (oIsi "int") (a1 (pVar 0)))) (pNot (isB (pOp (oIsi "bool") (a1 (pVar 0))))))
def o_is_whole : Op := runF 1 1 f_is_whole
def f_is_integer : S := sFrz [0] (sRet (pAnd (isB (pOp o_is_whole (aCons (pVar 0) (aNil)))) (pChain (fun i j => decide (i ≤ j)) (fun i j => decide (i ≤ j)) (pVar 1) (pVar 0) (pVar 2))))
def o_is_integer : Op := runF 3 3 f_is_integer
def e1_is_rising : P := pOp (oCmp (fun i j => decide (i < j))) (a2 (pVar 1) (pVar 2))
def f_is_rising : S := sFrz [0] (sRet (pOp oAll (aCons (pLc (sZip2 (aCons (pVar 0) (aCons (pSlice (pVar 0) (ptInt (pC (.int 1))) ptNo) (aNil)))) [1, 2] (PL.gTup [PL.gName 1, PL.gName 2]) none (e1_is_rising)) (aNil))))
def o_is_rising : Op := runF 1 3 f_is_rising
def f_is_tuple : S := sRet (pAnd (isB (pOp (oIsi "tuple") (a1 (pVar 0)))) (pChain (fun i j => decide (i ≤ j)) (fun i j => decide (i ≤ j)) (pVar 1) (pOp oLen (aCons (pVar 0) (aNil))) (pVar 2)))
def o_is_tuple : Op := runF 3 3 f_is_tuple
def f_is_word : S := sRet (pAnd (isB (pOp (oIsi "str") (a1 (pVar 0)))) (pOp (oInN false) (a2 (pVar 0) (pVar 1))))
def o_is_word : Op := runF 2 2 f_is_word
def e1_is_event : P := pOp o_is_integer (aCons (pVar 2) (aCons (pC (.int 0)) (aCons (pOp oSub (a2 (pVar 0) (pC (.int 1)))) (aNil))))
def f_is_event : S := sSeq (sFrz [1] (sIf (pOr (pNot (pOp o_is_tuple (aCons (pVar 1) (aCons (pC (.int 2)) (aCons (pC (.int 2)) (aNil)))))) (pNot (pOp o_is_word (aCons (pOp oIx (a2 (pVar 1) (pC (.int 0)))) (aCons (pOp oTup (aCons (pC (.str "in")) (aCons (pC (.str "out")) (aNil)))) (aNil)))))) (sRet (pC (.bl false))) (sSkip))) (sSeq (sFrz [0, 2] (sIf (pOr (pNot (pOp o_is_tuple (aCons (pOp oIx (a2 (pVar 1) (pC (.int 1)))) (aCons (pC (.int 1)) (aCons (pVar 0) (aNil)))))) (pNot (pOp oAll (aCons (pLc (sAny (pOp oIx (a2 (pVar 1) (pC (.int 1))))) [2] (PL.gName 2) none (e1_is_event)) (aNil))))) (sRet (pC (.bl false))) (sSkip))) (sRet (pOp o_is_rising (aCons (pOp oIx (a2 (pVar 1) (pC (.int 1)))) (aNil)))))
def o_is_event : Op := runF 2 3 f_is_event
def e1_is_day : P := pOp o_is_event (aCons (pOp oIx (a2 (pVar 0) (pC (.int 0)))) (aCons (pVar 1) (aNil)))
def f_is_day : S := sSeq (sFrz [0] (sIf (pOr (pNot (pOp o_is_tuple (aCons (pVar 0) (aCons (pC (.int 2)) (aCons (pC (.int 2)) (aNil)))))) (pNot (pOp o_is_integer (aCons (pOp oIx (a2 (pVar 0) (pC (.int 0)))) (aCons (pC (.int 1)) (aCons (pC (.int 10)) (aNil))))))) (sRet (pC (.bl false))) (sSkip))) (sFrz [1] (sRet (pAnd (isB (pOp o_is_tuple (aCons (pOp oIx (a2 (pVar 0) (pC (.int 1)))) (aCons (pC (.int 0)) (aCons (pC (.int 40)) (aNil)))))) (pOp oAll (aCons (pLc (sAny (pOp oIx (a2 (pVar 0) (pC (.int 1))))) [1] (PL.gName 1) none (e1_is_day)) (aNil))))))
def o_is_day : Op := runF 1 2 f_is_day
def f_check_day : S := sFrz [0] (sIf (pNot (pOp o_is_day (aCons (pVar 0) (aNil)))) (sNever) (sSkip))
def o_check_day : Op := runF 1 1 f_check_day
def c1_inside_by : P := pOp (oEqE false) (a2 (pVar 6) (pVar 4))
def b2_inside_by : S := sSeq (sFrz [4] (sIf (pNot (pOp o_is_integer (aCons (pVar 4) (aCons (pC (.int 0)) (aCons (pOp oSub (a2 (pOp oIx (a2 (pVar 0) (pC (.int 0)))) (pC (.int 1)))) (aNil)))))) (sRet (pC .non)) (sSkip))) (sSeq (sFrz [7, 2, 3] (sPut false 5 (pLc (sAny (pOp o_behind_of (aCons (pVar 2) (aCons (pVar 3) (aNil))))) [6, 7] (PL.gTup [PL.gName 6, PL.gName 7]) (some (c1_inside_by)) (pVar 7)))) (sSeq (sIf (pOp (oEqE false) (a2 (pVar 5) (pOp oLst (aNil)))) (sRet (pC .non)) (sSkip)) (sPut false 2 (pOp oIx (a2 (pVar 5) (pC (.int 0)))))))
def f_inside_by : S := sSeq (sFrz [0] (sExpr (pOp o_check_day (aCons (pVar 0) (aNil))))) (sSeq (sFrz [1] (sIf (pNot (pOp o_is_tuple (aCons (pVar 1) (aCons (pOp oLen (aCons (pOp oIx (a2 (pVar 0) (pC (.int 1)))) (aNil))) (aCons (pOp oLen (aCons (pOp oIx (a2 (pVar 0) (pC (.int 1)))) (aNil))) (aNil)))))) (sRet (pC .non)) (sSkip))) (sSeq (sPut false 2 (pOp oTup (aNil))) (sSeq (sFrz [1] (sFor (sZip2 (aCons (pOp oIx (a2 (pVar 0) (pC (.int 1)))) (aCons (pVar 1) (aNil)))) (PL.gTup [PL.gName 3, PL.gName 4]) (b2_inside_by))) (sRetV 2))))
def o_inside_by : Op := runF 2 8 f_inside_by
def f_check_car : S := sSeq (sFrz [0] (sExpr (pOp o_check_day (aCons (pVar 0) (aNil))))) (sFrz [1] (sIf (pNot (pOp o_is_integer (aCons (pVar 1) (aCons (pC (.int 0)) (aCons (pOp oSub (a2 (pOp oIx (a2 (pVar 0) (pC (.int 0)))) (pC (.int 1)))) (aNil)))))) (sNever) (sSkip)))
def o_check_car : Op := runF 2 2 f_check_car
def b1_levels_of : S := sFrz [4, 2] (sUpd 3 (pDc true (sAny (pOp o_behind_of (aCons (pVar 4) (aCons (pVar 2) (aNil))))) [5, 6] (PL.gTup [PL.gName 5, PL.gName 6]) none (pVar 6) (pC (.bl true))))
def b2_levels_of : S := sSeq (sPut false 3 (pDT)) (sSeq (sFor (sAny (pOp oIx (a2 (pVar 1) (pOp oNeg (a1 (pC (.int 1))))))) (PL.gName 4) (b1_levels_of)) (sFrz [3] (sApp 1 (pVar 3))))
def f_levels_of : S := sSeq (sPut false 1 (pOp oLst (aCons (pDisp1 true (pOp oTup (aNil)) (pC (.bl true))) (aNil)))) (sSeq (sFor (sAny (pOp oIx (a2 (pVar 0) (pC (.int 1))))) (PL.gName 2) (b2_levels_of)) (sRetV 1))
def o_levels_of : Op := runF 1 7 f_levels_of
def c1_way_to : P := pOp (oInN false) (a2 (pVar 10) (pVar 1))
def e2_way_to : P := pOp (oInN false) (a2 (pVar 11) (pVar 6))
def c3_way_to : P := pOp oAny (aCons (pLc (sAny (pOp o_behind_of (aCons (pVar 10) (aCons (pVar 5) (aNil))))) [9, 11] (PL.gTup [PL.gName 9, PL.gName 11]) none (e2_way_to)) (aNil))
def b4_way_to : S := sSeq (sPar2 false 5 false 6 (aCons (pOp oIx (a2 (pOp oIx (a2 (pVar 0) (pC (.int 1)))) (pVar 4))) (aCons (pOp oIx (a2 (pVar 3) (pC (.int 0)))) (aNil)))) (sClr [9] (sFrz [10, 5] (sPut false 3 (pOp oLst (aCons (pDc true (sAny (pOp oIx (a2 (pVar 2) (pVar 4)))) [10] (PL.gName 10) (some (c3_way_to)) (pVar 10) (pC (.bl true))) (aStar (pVar 3) (aNil)))))))
def c5_way_to : P := pOp (oInN false) (a2 (pOp oIx (a2 (pVar 12) (pC (.int 1)))) (pVar 6))
def b6_way_to : S := sSeq (sFrz [12, 7, 5] (sAsgT (PL.gTup [PL.gName 9, PL.gName 7]) (pOp oIx (a2 (pLc (sAny (pOp o_behind_of (aCons (pVar 7) (aCons (pVar 5) (aNil))))) [12] (PL.gName 12) (some (c5_way_to)) (pVar 12)) (pC (.int 0)))))) (sFrz [9] (sApp 8 (pVar 9)))
def f_way_to : S := sSeq (sFrz [0] (sPut false 2 (pOp o_levels_of (aCons (pVar 0) (aNil))))) (sSeq (sPut false 3 (pOp oLst (aCons (pDc true (sAny (pOp oIx (a2 (pVar 2) (pOp oNeg (a1 (pC (.int 1))))))) [10] (PL.gName 10) (some (c1_way_to)) (pVar 10) (pC (.bl true))) (aNil)))) (sSeq (sFor (sRng3 (aCons (pOp oSub (a2 (pOp oLen (aCons (pOp oIx (a2 (pVar 0) (pC (.int 1)))) (aNil))) (pC (.int 1)))) (aCons (pOp oNeg (a1 (pC (.int 1)))) (aCons (pOp oNeg (a1 (pC (.int 1)))) (aNil))))) (PL.gName 4) (b4_way_to)) (sSeq (sIf (pOp (oEqE false) (a2 (pOp oLen (aCons (pOp oIx (a2 (pVar 3) (pC (.int 0)))) (aNil))) (pC (.int 0)))) (sRet (pC .non)) (sSkip)) (sSeq (sPar2 false 7 false 8 (aCons (pOp oTup (aNil)) (aCons (pOp oLst (aNil)) (aNil)))) (sSeq (sFor (sZip2 (aCons (pOp oIx (a2 (pVar 0) (pC (.int 1)))) (aCons (pSlice (pVar 3) (ptInt (pC (.int 1))) ptNo) (aNil)))) (PL.gTup [PL.gName 5, PL.gName 6]) (b6_way_to)) (sRet (pOp oTuple (aCons (pVar 8) (aNil)))))))))
def o_way_to : Op := runF 2 13 f_way_to
def c1_way_in : P := pOp (oInN false) (a2 (pVar 1) (pVar 2))
def f_way_in : S := sSeq (sFrz [0, 1] (sExpr (pOp o_check_car (aCons (pVar 0) (aCons (pVar 1) (aNil)))))) (sFrz [0] (sRet (pOp o_way_to (aCons (pVar 0) (aCons (pDc true (sAny (pOp oIx (a2 (pOp o_levels_of (aCons (pVar 0) (aNil))) (pOp oNeg (a1 (pC (.int 1))))))) [2] (PL.gName 2) (some (c1_way_in)) (pVar 2) (pC (.bl true))) (aNil))))))
def o_way_in : Op := runF 2 3 f_way_in
def c1_way_out : P := pOp (oInN true) (a2 (pVar 1) (pVar 2))
def f_way_out : S := sSeq (sFrz [0, 1] (sExpr (pOp o_check_car (aCons (pVar 0) (aCons (pVar 1) (aNil)))))) (sFrz [0] (sRet (pOp o_way_to (aCons (pVar 0) (aCons (pDc true (sAny (pOp oIx (a2 (pOp o_levels_of (aCons (pVar 0) (aNil))) (pOp oNeg (a1 (pC (.int 1))))))) [2] (PL.gName 2) (some (c1_way_out)) (pVar 2) (pC (.bl true))) (aNil))))))
def o_way_out : Op := runF 2 3 f_way_out
def c1__law_are_ways_right : P := pOp (oInN false) (a2 (pVar 6) (pVar 15))
def c2__law_are_ways_right : P := pOp (oInN true) (a2 (pVar 6) (pVar 15))
def b3__law_are_ways_right : S := sFrz [1, 14] (sIf (pOp (oEqE true) (a2 (pOp oRepr (aCons (pOp o_inside_by (aCons (pVar 1) (aCons (pVar 14) (aNil)))) (aNil))) (pOp oRepr (aCons (pOp o__law_inside (aCons (pVar 1) (aCons (pVar 14) (aNil)))) (aNil))))) (sRet (pC (.bl false))) (sSkip))
def b4__law_are_ways_right : S := sSeq (sFrz [1, 2, 10] (sPut false 11 (pOp o__law_first_way (aCons (pVar 1) (aCons (pOp o__law_lasts (aCons (pVar 1) (aCons (pVar 2) (aCons (pVar 10) (aNil))))) (aNil)))))) (sSeq (sFrz [1, 6] (sIf (pOp (oEqE true) (a2 (pOp oRepr (aCons (pCallV [("way_in", o_way_in), ("way_out", o_way_out)] 9 (aCons (pVar 1) (aCons (pVar 6) (aNil)))) (aNil))) (pOp oRepr (aCons (pVar 11) (aNil))))) (sRet (pC (.bl false))) (sSkip))) (sSeq (sIf (pOr (pOp (oIs false) (a2 (pVar 11) (pC .non))) (pOp (oEqE false) (a2 (pVar 4) (pOp oTup (aNil))))) (sPut false 11 (pOp oTup (aNil))) (sSkip)) (sSeq (sFrz [0] (sPut false 12 (pOp o__law_take (aCons (pVar 0) (aCons (pOp oMax (aCons (pC (.int 1)) (aCons (pOp oLen (aCons (pVar 11) (aNil))) (aNil)))) (aNil)))))) (sSeq (sFrz [11, 0, 3] (sPut false 13 (pOp oLst (aCons (pVar 11) (aCons (pRev (pVar 11)) (aCons (pSlice (pVar 11) (ptInt (pC (.int 1))) ptNo) (aCons (pOp oAdd (a2 (pVar 11) (pOp oTup (aCons (pC (.int 0)) (aNil))))) (aCons (pOp oAdd (a2 (pOp oAdd (a2 (pSlice (pVar 11) ptNo (ptInt (pVar 12))) (pOp oTup (aCons (pOp o__law_take (aCons (pVar 0) (aCons (pVar 3) (aNil)))) (aNil))))) (pSlice (pVar 11) (ptInt (pOp oAdd (a2 (pVar 12) (pC (.int 1))))) ptNo))) (aCons (pOp oList (aCons (pVar 11) (aNil))) (aNil)))))))))) (sSeq (sApp 13 (pOp oAdd (a2 (pOp oAdd (a2 (pSlice (pVar 11) ptNo (ptInt (pVar 12))) (pSlice (pVar 11) (ptInt (pOp oAdd (a2 (pVar 12) (pC (.int 1))))) ptNo))) (pSlice (pVar 11) (ptInt (pVar 12)) (ptInt (pOp oAdd (a2 (pVar 12) (pC (.int 1))))))))) (sFrz [13] (sFor (sAny (pVar 13)) (PL.gName 14) (b3__law_are_ways_right))))))))
def b5__law_are_ways_right : S := sSeq (sFrz [15] (sPut false 7 (pLc (sAny (pVar 5)) [15] (PL.gName 15) (some (c1__law_are_ways_right)) (pVar 15)))) (sSeq (sFrz [15] (sPut false 8 (pLc (sAny (pVar 5)) [15] (PL.gName 15) (some (c2__law_are_ways_right)) (pVar 15)))) (sFrz [7, 8] (sFor (sAny (pOp oTup (aCons (pOp oTup (aCons (pC (.fn "way_in")) (aCons (pVar 7) (aNil)))) (aCons (pOp oTup (aCons (pC (.fn "way_out")) (aCons (pVar 8) (aNil)))) (aNil))))) (PL.gTup [PL.gName 9, PL.gName 10]) (b4__law_are_ways_right))))
def f__law_are_ways_right : S := sSeq (sFrz [1] (sAsgT (PL.gTup [PL.gName 3, PL.gName 4]) (pVar 1))) (sSeq (sPut false 5 (pOp oSorted (aCons (pOp oIx (a2 (pVar 2) (pOp oNeg (a1 (pC (.int 1)))))) (aNil)))) (sSeq (sFrz [0] (sFor (sAny (pOp o__law_some (aCons (pVar 0) (aCons (pListRng (pVar 3)) (aCons (pOp oMin (aCons (pVar 3) (aCons (pC (.int 3)) (aNil)))) (aNil)))))) (PL.gName 6) (b5__law_are_ways_right))) (sRet (pC (.bl true)))))
def o__law_are_ways_right : Op := runF 3 16 f__law_are_ways_right
def f__law_of : S := sFrz [0] (sRet (pOp oIx (a2 (pVar 1) (pOp o__law_take (aCons (pVar 0) (aCons (pOp oLen (aCons (pVar 1) (aNil))) (aNil)))))))
def o__law_of : Op := runF 2 2 f__law_of
def c1__law_day : P := pOp (oInN true) (a2 (pVar 9) (pVar 4))
def c2__law_day : P := pOp (oEqE false) (a2 (pOp o__law_take (aCons (pVar 0) (aCons (pC (.int 3)) (aNil)))) (pC (.int 0)))
def b3__law_day : S := sSeq (sClr [9] (sFrz [9] (sPut false 7 (pLc (sRng1 (aCons (pVar 3) (aNil))) [9] (PL.gName 9) (some (c1__law_day)) (pVar 9))))) (sSeq (sFrz [0] (sPut false 8 (pIf (pOr (pOp (oEqE false) (a2 (pVar 4) (pOp oTup (aNil)))) (pAnd (pOp (oEqE true) (a2 (pVar 7) (pOp oLst (aNil)))) (pOp (oCmp (fun i j => decide (j < i))) (a2 (pOp o__law_take (aCons (pVar 0) (aCons (pC (.int 3)) (aNil)))) (pC (.int 0)))))) (pC (.str "in")) (pC (.str "out"))))) (sSeq (sFrz [0, 7] (sPut false 9 (pOp o__law_of (aCons (pVar 0) (aCons (pIf (pOp (oEqE false) (a2 (pVar 8) (pC (.str "in")))) (pVar 7) (pOp oList (aCons (pVar 4) (aNil)))) (aNil)))))) (sSeq (sFrz [11, 0] (sPut false 10 (pLc (sRng1 (aCons (pVar 3) (aNil))) [11] (PL.gName 11) (some (c2__law_day)) (pVar 11)))) (sSeq (sFrz [4, 8, 9] (sPut false 4 (pOp o__law_step (aCons (pVar 4) (aCons (pVar 8) (aCons (pVar 9) (aNil))))))) (sSeq (sFrz [0] (sIf (pOp (oEqE false) (a2 (pOp o__law_take (aCons (pVar 0) (aCons (pC (.int 40)) (aNil)))) (pC (.int 0)))) (sFrz [0, 3] (sPut false 9 (pOp o__law_take (aCons (pVar 0) (aCons (pVar 3) (aNil)))))) (sSkip))) (sFrz [8, 9] (sApp 5 (pOp oTup (aCons (pVar 8) (aCons (pOp oTuple (aCons (pSortSet (pOp oAdd (a2 (pVar 10) (pOp oLst (aCons (pVar 9) (aNil)))))) (aNil))) (aNil)))))))))))
def f__law_day : S := sSeq (sFrz [0, 1] (sPar3 false 3 false 4 false 5 (aCons (pOp oAdd (a2 (pC (.int 1)) (pOp o__law_take (aCons (pVar 0) (aCons (pVar 1) (aNil)))))) (aCons (pOp oTup (aNil)) (aCons (pOp oLst (aNil)) (aNil)))))) (sSeq (sFrz [0] (sFor (sRng1 (aCons (pOp o__law_take (aCons (pVar 0) (aCons (pOp oAdd (a2 (pVar 2) (pC (.int 1)))) (aNil)))) (aNil))) (PL.gName 6) (b3__law_day))) (sFrz [3] (sRet (pOp oTup (aCons (pVar 3) (aCons (pOp oTuple (aCons (pVar 5) (aNil))) (aNil)))))))
def o__law_day : Op := runF 3 12 f__law_day
def b1__law_levels : S := sSeq (sFrz [5, 2, 6] (sPut false 7 (pOp o__law_step (aCons (pVar 5) (aCons (pVar 2) (aCons (pVar 6) (aNil))))))) (sIf (pOp (oIs true) (a2 (pVar 7) (pC .non))) (sPutIx 4 (pVar 7) (pOp oAdd (a2 (pMt isDct (pVar 4) (a2 (pVar 7) (pC (.int 0))) oGet2) (pOp oIx (a2 (pOp oIx (a2 (pVar 1) (pOp oNeg (a1 (pC (.int 1)))))) (pVar 5)))))) (sSkip))
def b2__law_levels : S := sFrz [3] (sFor (sAny (pVar 3)) (PL.gName 6) (b1__law_levels))
def b3__law_levels : S := sSeq (sPut false 4 (pDT)) (sSeq (sFor (sAny (pOp oIx (a2 (pVar 1) (pOp oNeg (a1 (pC (.int 1))))))) (PL.gName 5) (b2__law_levels)) (sFrz [4] (sApp 1 (pVar 4))))
def f__law_levels : S := sSeq (sPut false 1 (pOp oLst (aCons (pDisp1 true (pOp oTup (aNil)) (pC (.int 1))) (aNil)))) (sSeq (sFor (sAny (pOp oIx (a2 (pVar 0) (pC (.int 1))))) (PL.gTup [PL.gName 2, PL.gName 3]) (b3__law_levels)) (sRetV 1))
def o__law_levels : Op := runF 1 8 f__law_levels
def f_all_inside : S := sSeq (sFrz [0] (sExpr (pOp o_check_day (aCons (pVar 0) (aNil))))) (sFrz [0] (sRet (pOp oTuple (aCons (pOp oSorted (aCons (pOp oIx (a2 (pOp o_levels_of (aCons (pVar 0) (aNil))) (pOp oNeg (a1 (pC (.int 1)))))) (aNil))) (aNil)))))
def o_all_inside : Op := runF 1 1 f_all_inside
def f_can_be : S := sSeq (sFrz [0] (sExpr (pOp o_check_day (aCons (pVar 0) (aNil))))) (sFrz [0] (sRet (pOp (oCmp (fun i j => decide (j < i))) (a2 (pOp oLen (aCons (pOp oIx (a2 (pOp o_levels_of (aCons (pVar 0) (aNil))) (pOp oNeg (a1 (pC (.int 1)))))) (aNil))) (pC (.int 0))))))
def o_can_be : Op := runF 1 1 f_can_be
def e1_kept_of : P := pOp (oInN false) (a2 (pVar 8) (pVar 5))
def c2_kept_of : P := pOp oAny (aCons (pLc (sAny (pOp o_behind_of (aCons (pVar 6) (aCons (pVar 4) (aNil))))) [7, 8] (PL.gTup [PL.gName 7, PL.gName 8]) none (e1_kept_of)) (aNil))
def b3_kept_of : S := sSeq (sPar2 false 4 false 5 (aCons (pOp oIx (a2 (pOp oIx (a2 (pVar 0) (pC (.int 1)))) (pVar 3))) (aCons (pOp oIx (a2 (pVar 2) (pC (.int 0)))) (aNil)))) (sFrz [6, 4] (sPut false 2 (pOp oLst (aCons (pDc true (sAny (pOp oIx (a2 (pVar 1) (pVar 3)))) [6] (PL.gName 6) (some (c2_kept_of)) (pVar 6) (pC (.bl true))) (aStar (pVar 2) (aNil))))))
def f_kept_of : S := sSeq (sFrz [0] (sPut false 1 (pOp o_levels_of (aCons (pVar 0) (aNil))))) (sSeq (sPut false 2 (pOp oLst (aCons (pOp oIx (a2 (pVar 1) (pOp oNeg (a1 (pC (.int 1)))))) (aNil)))) (sSeq (sFor (sRng3 (aCons (pOp oSub (a2 (pOp oLen (aCons (pOp oIx (a2 (pVar 0) (pC (.int 1)))) (aNil))) (pC (.int 1)))) (aCons (pOp oNeg (a1 (pC (.int 1)))) (aCons (pOp oNeg (a1 (pC (.int 1)))) (aNil))))) (PL.gName 3) (b3_kept_of)) (sRetV 2)))
def o_kept_of : Op := runF 1 9 f_kept_of
def c1_cars_of : P := pOp (oInN false) (a2 (pVar 9) (pVar 5))
def b2_cars_of : S := sFrz [8, 7, 3] (sExt 6 (pLc (sAny (pOp o_behind_of (aCons (pVar 7) (aCons (pVar 3) (aNil))))) [8, 9] (PL.gTup [PL.gName 8, PL.gName 9]) (some (c1_cars_of)) (pVar 8)))
def b3_cars_of : S := sSeq (sPut false 6 (pOp oLst (aNil))) (sSeq (sFrz [4] (sFor (sAny (pVar 4)) (PL.gName 7) (b2_cars_of))) (sApp 2 (pOp oTuple (aCons (pSortSet (pVar 6)) (aNil)))))
def f_cars_of : S := sSeq (sFrz [0] (sExpr (pOp o_check_day (aCons (pVar 0) (aNil))))) (sSeq (sFrz [0] (sPar2 false 1 false 2 (aCons (pOp o_kept_of (aCons (pVar 0) (aNil))) (aCons (pOp oLst (aNil)) (aNil))))) (sSeq (sFrz [1] (sFor (sZip3 (aCons (pOp oIx (a2 (pVar 0) (pC (.int 1)))) (aCons (pVar 1) (aCons (pSlice (pVar 1) (ptInt (pC (.int 1))) ptNo) (aNil))))) (PL.gTup [PL.gName 3, PL.gName 4, PL.gName 5]) (b3_cars_of))) (sRet (pOp oTuple (aCons (pVar 2) (aNil))))))
def o_cars_of : Op := runF 1 10 f_cars_of
def c1_first_wrong : P := pOp (oEqE false) (a2 (pOp oLen (aCons (pVar 3) (aNil))) (pC (.int 0)))
def f_first_wrong : S := sSeq (sFrz [0] (sExpr (pOp o_check_day (aCons (pVar 0) (aNil))))) (sSeq (sFrz [2, 0] (sPut false 1 (pLc (sEnum (aCons (pOp o_levels_of (aCons (pVar 0) (aNil))) (aNil))) [2, 3] (PL.gTup [PL.gName 2, PL.gName 3]) (some (c1_first_wrong)) (pVar 2)))) (sRet (pIf (pOp (oEqE true) (a2 (pVar 1) (pOp oLst (aNil)))) (pOp oSub (a2 (pOp oIx (a2 (pVar 1) (pC (.int 0)))) (pC (.int 1)))) (pC .non))))
def o_first_wrong : Op := runF 1 4 f_first_wrong
def b1_how_many_ways : S := sPutIx 3 (pVar 7) (pOp oAdd (a2 (pMt isDct (pVar 3) (a2 (pVar 7) (pC (.int 0))) oGet2) (pVar 5)))
def b2_how_many_ways : S := sFrz [4, 2] (sFor (sAny (pOp o_behind_of (aCons (pVar 4) (aCons (pVar 2) (aNil))))) (PL.gTup [PL.gName 6, PL.gName 7]) (b1_how_many_ways))
def b3_how_many_ways : S := sSeq (sPut false 3 (pDT)) (sSeq (sFrz [1] (sFor (sItems (pVar 1)) (PL.gTup [PL.gName 4, PL.gName 5]) (b2_how_many_ways))) (sFrz [3] (sPut false 1 (pVar 3))))
def f_how_many_ways : S := sSeq (sFrz [0] (sExpr (pOp o_check_day (aCons (pVar 0) (aNil))))) (sSeq (sPut false 1 (pDisp1 true (pOp oTup (aNil)) (pC (.int 1)))) (sSeq (sFor (sAny (pOp oIx (a2 (pVar 0) (pC (.int 1))))) (PL.gName 2) (b3_how_many_ways)) (sRet (pOp oSum (aCons (pListVals (pVar 1)) (aNil))))))
def o_how_many_ways : Op := runF 1 8 f_how_many_ways
def e1_told : P := pOp (oInN false) (a2 (pVar 3) (pVar 5))
def b2_told : S := sSeq (sPut false 4 (pLc (sAny (pVar 1)) [5] (PL.gName 5) none (e1_told))) (sApp 2 (pIf (pOp oAll (aCons (pVar 4) (aNil))) (pC (.str "sure")) (pIf (pOp oAny (aCons (pVar 4) (aNil))) (pC (.str "open")) (pC (.str "never")))))
def f_told : S := sSeq (sFrz [0] (sExpr (pOp o_check_day (aCons (pVar 0) (aNil))))) (sSeq (sFrz [0] (sPut false 1 (pOp oList (aCons (pOp oIx (a2 (pOp o_levels_of (aCons (pVar 0) (aNil))) (pOp oNeg (a1 (pC (.int 1)))))) (aNil))))) (sSeq (sIf (pOp (oEqE false) (a2 (pVar 1) (pOp oLst (aNil)))) (sRet (pC .non)) (sSkip)) (sSeq (sPut false 2 (pOp oLst (aNil))) (sSeq (sFor (sRng1 (aCons (pOp oIx (a2 (pVar 0) (pC (.int 0)))) (aNil))) (PL.gName 3) (b2_told)) (sRet (pOp oTuple (aCons (pVar 2) (aNil))))))))
def o_told : Op := runF 1 6 f_told
def c1__law_right : P := pOp (oEqE false) (a2 (pVar 17) (pDT))
def e2__law_right : P := pOp (oInN false) (a2 (pVar 8) (pVar 18))
def b3__law_right : S := sSeq (sPut false 9 (pLc (sAny (pVar 6)) [18] (PL.gName 18) none (e2__law_right))) (sApp 7 (pIf (pOp oAll (aCons (pVar 9) (aNil))) (pC (.str "sure")) (pIf (pOp oAny (aCons (pVar 9) (aNil))) (pC (.str "open")) (pC (.str "never")))))
def e4__law_right : P := pOp o__law_step (aCons (pVar 18) (aCons (pVar 13) (aCons (pVar 8) (aNil))))
def e5__law_right : P := pAnd (isB (pOp (oIs true) (a2 (pVar 19) (pC .non)))) (pOp (oInN false) (a2 (pVar 19) (pOp oIx (a2 (pVar 10) (pOp oAdd (a2 (pVar 12) (pC (.int 1))))))))
def b6__law_right : S := sSeq (sFrz [18, 13, 8] (sPut false 16 (pLc (sAny (pOp oIx (a2 (pVar 4) (pVar 12)))) [18] (PL.gName 18) none (e4__law_right)))) (sFrz [8] (sExt 15 (pIf (pOp oAny (aCons (pLc (sAny (pVar 16)) [19] (PL.gName 19) none (e5__law_right)) (aNil))) (pOp oLst (aCons (pVar 8) (aNil))) (pOp oLst (aNil)))))
def b7__law_right : S := sSeq (sPut false 15 (pOp oLst (aNil))) (sSeq (sFrz [14] (sFor (sAny (pVar 14)) (PL.gName 8) (b6__law_right))) (sApp 11 (pOp oTuple (aCons (pVar 15) (aNil)))))
def f__law_right : S := sSeq (sFrz [0] (sPut false 1 (pOp o__law_day (aCons (pVar 0) (aCons (pC (.int 7)) (aCons (pC (.int 20)) (aNil))))))) (sSeq (sFrz [1] (sAsgT (PL.gTup [PL.gName 2, PL.gName 3]) (pVar 1))) (sSeq (sFrz [1] (sPut false 4 (pOp o__law_levels (aCons (pVar 1) (aNil))))) (sSeq (sClr [12] (sFrz [12] (sPut false 5 (pLc (sEnum (aCons (pSlice (pVar 4) (ptInt (pC (.int 1))) ptNo) (aNil))) [12, 17] (PL.gTup [PL.gName 12, PL.gName 17]) (some (c1__law_right)) (pVar 12))))) (sSeq (sFrz [1] (sIf (pOr (pOp (oEqE true) (a2 (pOp oRepr (aCons (pOp o_first_wrong (aCons (pVar 1) (aNil))) (aNil))) (pOp oRepr (aCons (pIf (pOp (oEqE true) (a2 (pVar 5) (pOp oLst (aNil)))) (pOp oIx (a2 (pVar 5) (pC (.int 0)))) (pC .non)) (aNil))))) (pOp (oEqE true) (a2 (pOp o_can_be (aCons (pVar 1) (aNil))) (pOp (oEqE false) (a2 (pVar 5) (pOp oLst (aNil))))))) (sRet (pC (.bl false))) (sSkip))) (sSeq (sFrz [1] (sIf (pOr (pOp (oEqE true) (a2 (pOp o_how_many_ways (aCons (pVar 1) (aNil))) (pOp oSum (aCons (pListVals (pOp oIx (a2 (pVar 4) (pOp oNeg (a1 (pC (.int 1))))))) (aNil))))) (pOp (oEqE true) (a2 (pOp o_all_inside (aCons (pVar 1) (aNil))) (pOp oTuple (aCons (pOp oSorted (aCons (pOp oIx (a2 (pVar 4) (pOp oNeg (a1 (pC (.int 1)))))) (aNil))) (aNil)))))) (sRet (pC (.bl false))) (sSkip))) (sSeq (sPar2 false 6 false 7 (aCons (pOp oSorted (aCons (pOp oIx (a2 (pVar 4) (pOp oNeg (a1 (pC (.int 1)))))) (aNil))) (aCons (pOp oLst (aNil)) (aNil)))) (sSeq (sFor (sRng1 (aCons (pVar 2) (aNil))) (PL.gName 8) (b3__law_right)) (sSeq (sFrz [1] (sIf (pOp (oEqE true) (a2 (pOp oRepr (aCons (pOp o_told (aCons (pVar 1) (aNil))) (aNil))) (pOp oRepr (aCons (pIf (pOp (oEqE true) (a2 (pVar 6) (pOp oLst (aNil)))) (pOp oTuple (aCons (pVar 7) (aNil))) (pC .non)) (aNil))))) (sRet (pC (.bl false))) (sSkip))) (sSeq (sFrz [1, 4, 6] (sPar2 false 10 false 11 (aCons (pOp o__law_lasts (aCons (pVar 1) (aCons (pVar 4) (aCons (pVar 6) (aNil))))) (aCons (pOp oLst (aNil)) (aNil))))) (sSeq (sFrz [3] (sFor (sEnum (aCons (pVar 3) (aNil))) (PL.gTup [PL.gName 12, PL.gTup [PL.gName 13, PL.gName 14]]) (b7__law_right))) (sSeq (sFrz [1] (sIf (pOp (oEqE true) (a2 (pOp oRepr (aCons (pOp o_cars_of (aCons (pVar 1) (aNil))) (aNil))) (pOp oRepr (aCons (pOp oTuple (aCons (pVar 11) (aNil))) (aNil))))) (sRet (pC (.bl false))) (sSkip))) (sFrz [0, 1, 4] (sRet (pOp o__law_are_ways_right (aCons (pVar 0) (aCons (pVar 1) (aCons (pVar 4) (aNil))))))))))))))))))
def o__law_right : Op := runF 1 20 f__law_right
def b1_law : S := sSeq (sFrz [0, 1] (sPut true 2 (pOp o__law_pot (aCons (pVar 0) (aCons (pVar 1) (aNil)))))) (sIf (pOr (pNot (pOp o__law_right (aCons (pVar 2) (aNil)))) (pNot (pOp o__law_right (aCons (pVar 2) (aNil))))) (sRet (pC (.bl false))) (sSkip))
def f_law : S := sSeq (sFrz [0] (sFor (sAny (pOp o__law_places (aCons (pVar 0) (aCons (pC (.int 3)) (aNil))))) (PL.gName 1) (b1_law))) (sRet (pC (.bl true)))
def o_law : Op := runF 1 3 f_law
end K80
end

section
/-! K80Typed: the yard in plain words. -/
namespace K80
open PySem PySem.Spec L2 PL
abbrev Lot := List Int
abbrev Ev := Bool × List Int
def nStep (lot : Lot) (isin : Bool) (car : Int) : Option Lot := if isin = decide (car ∈ lot) then none else some (if isin then sortI (lot ++ [car]) else lot.filter fun x => x != car)
def behind (l : Lot) (e : Ev) : List (Int × Lot) := e.2.filterMap fun c => (nStep l e.1 c).map fun n => (c, n)
def news (l : Lot) (e : Ev) : List Lot := (behind l e).map (·.2)
def addK (ks : List Lot) (k : Lot) : List Lot := if k ∈ ks then ks else ks ++ [k]
def kAfter (ks : List Lot) (e : Ev) : List Lot := ks.foldl (fun later l => (news l e).foldl addK later) []
def kl (evs : List Ev) : List Lot := evs.foldl kAfter [[]]
def getA (es : List (Lot × Int)) (k : Lot) : Int := (findA es k).getD 0
def cAfter (es : List (Lot × Int)) (e : Ev) : List (Lot × Int) := es.foldl (fun later p => (news p.1 e).foldl (fun a new => putA a new (getA a new + p.2)) later) []
def cl (evs : List Ev) : List (Lot × Int) := evs.foldl cAfter [([], 1)]
theorem kl_nil : kl [] = [[]] := rfl
theorem kl_snoc (evs : List Ev) (e : Ev) : kl (evs ++ [e]) = kAfter (kl evs) e := by simp [kl]
theorem cl_snoc (evs : List Ev) (e : Ev) : cl (evs ++ [e]) = cAfter (cl evs) e := by simp [cl]

/-! ### keys -/
theorem mem_addK {ks : List Lot} {k x : Lot} : x ∈ addK ks k ↔ x ∈ ks ∨ x = k := by
  unfold addK; split
  · next h => exact ⟨.inl, fun z => z.elim id fun z => z ▸ h⟩
  · simp
theorem nodup_addK {ks : List Lot} {k : Lot} (h : ks.Nodup) : (addK ks k).Nodup := by
  unfold addK; split
  · exact h
  · next hk => exact List.nodup_append.mpr ⟨h, by simp, fun a ha b hb => by simp at hb; subst hb; exact fun z => hk (z ▸ ha)⟩
theorem mem_foldK : ∀ (ns ks : List Lot) {x : Lot}, x ∈ ns.foldl addK ks ↔ x ∈ ks ∨ x ∈ ns
  | [], ks, x => by simp
  | n :: ns, ks, x => by rw [List.foldl_cons, mem_foldK ns, mem_addK, List.mem_cons, or_assoc]
theorem nodup_foldK : ∀ (ns ks : List Lot), ks.Nodup → (ns.foldl addK ks).Nodup
  | [], ks, h => h
  | n :: ns, ks, h => nodup_foldK ns _ (nodup_addK h)
theorem foldK_nodup : ∀ (ns ks : List Lot), (ks ++ ns).Nodup → ns.foldl addK ks = ks ++ ns
  | [], ks, h => by simp
  | n :: ns, ks, h => by
    have hn : n ∉ ks := fun z => by
      have := (List.nodup_append.mp h).2.2 n z n (by simp)
      exact this rfl
    rw [List.foldl_cons]
    have e : addK ks n = ks ++ [n] := by unfold addK; rw [if_neg hn]
    rw [e, foldK_nodup ns (ks ++ [n]) (by simpa using h)]
    simp
theorem addK_mem {ks : List Lot} {k : Lot} (h : k ∈ ks) : addK ks k = ks := by unfold addK; rw [if_pos h]
/-- what is put in already goes in at once -/
theorem foldK_fold : ∀ (ns acc ks : List Lot), (ns.foldl addK acc).foldl addK ks = ns.foldl addK (acc.foldl addK ks)
  | [], acc, ks => rfl
  | n :: ns, acc, ks => by
    rw [List.foldl_cons, List.foldl_cons, foldK_fold ns (addK acc n) ks]
    congr 1
    by_cases h : n ∈ acc
    · have : n ∈ acc.foldl addK ks := (mem_foldK acc ks).mpr (.inr h)
      rw [addK_mem h, addK_mem this]
    · have e : addK acc n = acc ++ [n] := by unfold addK; rw [if_neg h]
      rw [e, List.foldl_append]; rfl
theorem mem_kAfter {ks : List Lot} {e : Ev} {x : Lot} : x ∈ kAfter ks e ↔ ∃ l ∈ ks, x ∈ news l e := by
  unfold kAfter
  suffices ∀ (ks acc : List Lot), x ∈ ks.foldl (fun later l => (news l e).foldl addK later) acc ↔ x ∈ acc ∨ ∃ l ∈ ks, x ∈ news l e by simpa using this ks []
  intro ks
  induction ks with
  | nil => intro acc; simp
  | cons l ks ih =>
    intro acc
    rw [List.foldl_cons, ih, mem_foldK]
    simp only [List.mem_cons, exists_eq_or_imp, or_assoc]
theorem nodup_kAfter {ks : List Lot} {e : Ev} : (kAfter ks e).Nodup := by
  unfold kAfter
  suffices ∀ (ks acc : List Lot), acc.Nodup → (ks.foldl (fun later l => (news l e).foldl addK later) acc).Nodup from this ks [] (by simp)
  intro ks
  induction ks with
  | nil => intro acc h; exact h
  | cons l ks ih => intro acc h; exact ih _ (nodup_foldK _ _ h)
theorem nodup_kl (evs : List Ev) : (kl evs).Nodup := by
  rcases List.eq_nil_or_concat evs with rfl | ⟨l, e, rfl⟩
  · simp [kl]
  · rw [List.concat_eq_append, kl_snoc]; exact nodup_kAfter
/-! ### counts have the same keys -/
theorem map_putA {es : List (Lot × Int)} {k : Lot} {v : Int} : (putA es k v).map (·.1) = addK (es.map (·.1)) k := by
  unfold putA addK
  by_cases h : k ∈ es.map (·.1)
  · have h2 : (es.any fun p => decide (p.1 = k)) = true := by
      obtain ⟨p, hp, e⟩ := List.mem_map.mp h
      exact List.any_eq_true.mpr ⟨p, hp, by simpa using e⟩
    rw [if_pos h2, if_pos h, List.map_map]
    refine List.map_congr_left fun p _ => ?_
    by_cases e : p.1 = k <;> simp [e]
  · have h2 : ¬ (es.any fun p => decide (p.1 = k)) = true := fun z => by
      obtain ⟨p, hp, e⟩ := List.any_eq_true.mp z
      exact h (List.mem_map.mpr ⟨p, hp, by simpa using e⟩)
    rw [if_neg h2, if_neg h, List.map_append]; rfl
theorem keys_cAfter (es : List (Lot × Int)) (e : Ev) : (cAfter es e).map (·.1) = kAfter (es.map (·.1)) e := by
  unfold cAfter kAfter
  rw [List.foldl_map]
  suffices ∀ (es : List (Lot × Int)) (acc : List (Lot × Int)) (ks : List Lot), acc.map (·.1) = ks → (es.foldl (fun later p => (news p.1 e).foldl (fun a new => putA a new (getA a new + p.2)) later) acc).map (·.1) = es.foldl (fun later p => (news p.1 e).foldl addK later) ks from this es [] [] rfl
  intro es
  induction es with
  | nil => intro acc ks h; exact h
  | cons p es ih =>
    intro acc ks h
    rw [List.foldl_cons, List.foldl_cons]
    refine ih _ _ ?_
    generalize news p.1 e = ns
    induction ns generalizing acc ks with
    | nil => exact h
    | cons n ns ih2 => exact ih2 _ _ (by rw [map_putA, h])
theorem keys_cl (evs : List Ev) : (cl evs).map (·.1) = kl evs := by
  suffices ∀ (evs : List Ev) (es : List (Lot × Int)) (ks : List Lot), es.map (·.1) = ks → (evs.foldl cAfter es).map (·.1) = evs.foldl kAfter ks from this evs _ _ rfl
  intro evs
  induction evs with
  | nil => intro es ks h; exact h
  | cons e evs ih => intro es ks h; exact ih _ _ (by rw [keys_cAfter, h])
/-! ### an event's lots -/
theorem mem_behind {l : Lot} {e : Ev} {c : Int} {n : Lot} : (c, n) ∈ behind l e ↔ c ∈ e.2 ∧ nStep l e.1 c = some n := by
  unfold behind
  rw [List.mem_filterMap]
  constructor
  · rintro ⟨a, ha, h⟩
    cases h2 : nStep l e.1 a with
    | none => rw [h2] at h; cases h
    | some m => rw [h2] at h; simp at h; obtain ⟨rfl, rfl⟩ := h; exact ⟨ha, h2⟩
  · rintro ⟨h1, h2⟩; exact ⟨c, h1, by rw [h2]; rfl⟩
theorem mem_news {l : Lot} {e : Ev} {n : Lot} : n ∈ news l e ↔ ∃ c ∈ e.2, nStep l e.1 c = some n := by
  unfold news
  rw [List.mem_map]
  constructor
  · rintro ⟨⟨c, m⟩, h, rfl⟩; exact ⟨c, mem_behind.mp h⟩
  · rintro ⟨c, h1, h2⟩; exact ⟨(c, n), mem_behind.mpr ⟨h1, h2⟩, rfl⟩
/-- ascending cars of 0 .. 6 -/
def Rise (l : List Int) : Prop := l.Pairwise (· < ·)
def Cars (m : Int) (l : List Int) : Prop := Rise l ∧ ∀ c ∈ l, 0 ≤ c ∧ c < m
theorem sortI_perm (l : List Int) : (sortI l).Perm l := List.mergeSort_perm _ _
theorem sortI_le (l : List Int) : (sortI l).Pairwise (· ≤ ·) := by
  have := List.pairwise_mergeSort (le := fun a b : Int => decide (a ≤ b)) (fun a b c h1 h2 => by simp at *; omega) (fun a b => by simp; omega) l
  exact this.imp fun h => by simpa using h
theorem rise_of {l : List Int} (h : l.Pairwise (· ≤ ·)) (n : l.Nodup) : Rise l := by
  unfold Rise
  exact (h.and n).imp fun h => by omega
theorem Rise.nodup {l : List Int} (h : Rise l) : l.Nodup := h.imp fun h => by omega
theorem rise_sort {l : List Int} (n : l.Nodup) : Rise (sortI l) := rise_of (sortI_le l) ((sortI_perm l).nodup_iff.mpr n)
theorem rise_ext : ∀ {a b : List Int}, Rise a → Rise b → (∀ x, x ∈ a ↔ x ∈ b) → a = b
  | [], [], _, _, _ => rfl
  | [], y :: b, _, _, h => by have := (h y).mpr (by simp); simp at this
  | x :: a, [], _, _, h => by have := (h x).mp (by simp); simp at this
  | x :: a, y :: b, ha, hb, h => by
    have ha1 := List.pairwise_cons.mp ha
    have hb1 := List.pairwise_cons.mp hb
    have exy : x = y := by
      have h1 := (h x).mp (by simp)
      have h2 := (h y).mpr (by simp)
      rcases List.mem_cons.mp h1 with h1 | h1
      · exact h1
      · rcases List.mem_cons.mp h2 with h2 | h2
        · exact h2.symm
        · have := ha1.1 y h2; have := hb1.1 x h1; omega
    subst exy
    congr 1
    refine rise_ext ha1.2 hb1.2 fun z => ?_
    constructor
    · intro hz
      rcases List.mem_cons.mp ((h z).mp (by simp [hz])) with e | e
      · have := ha1.1 z hz; omega
      · exact e
    · intro hz
      rcases List.mem_cons.mp ((h z).mpr (by simp [hz])) with e | e
      · have := hb1.1 z hz; omega
      · exact e
theorem nStep_cars {m : Int} {l : Lot} {b : Bool} {c : Int} {n : Lot} (h : Cars m l) (hc : 0 ≤ c ∧ c < m) (e : nStep l b c = some n) : Cars m n ∧ n.length = (if b then l.length + 1 else l.length - 1) ∧ (b = false → 0 < l.length) := by
  unfold nStep at e
  split at e
  · cases e
  · next hb =>
    injection e with e
    cases b with
    | true =>
      simp only [if_true] at e
      have hn : c ∉ l := by simpa using hb
      subst e
      refine ⟨⟨rise_sort ?_, fun x hx => ?_⟩, ?_, by simp⟩
      · exact List.nodup_append.mpr ⟨h.1.nodup, by simp, fun a ha b hb => by simp at hb; subst hb; exact fun z => hn (z ▸ ha)⟩
      · have hx := (sortI_perm _).mem_iff.mp hx
        rcases List.mem_append.mp hx with hx | hx
        · exact h.2 x hx
        · simp at hx; subst hx; exact hc
      · rw [(sortI_perm _).length_eq]; simp
    | false =>
      have hn : c ∈ l := by simpa using hb
      simp only [Bool.false_eq_true, if_false] at e
      subst e
      refine ⟨⟨h.1.sublist List.filter_sublist, fun x hx => h.2 x (List.mem_filter.mp hx).1⟩, ?_, fun _ => List.length_pos_of_mem hn⟩
      have : l.filter (fun x => x != c) = l.erase c := by
        rw [h.1.nodup.erase_eq_filter]
      rw [this, List.length_erase_of_mem hn]; rfl
/-! ### all lots of seven cars -/
def subs : List Int → List (List Int)
  | [] => [[]]
  | x :: xs => subs xs ++ (subs xs).map (x :: ·)
theorem filter_subs (p : Int → Bool) : ∀ xs : List Int, xs.filter p ∈ subs xs
  | [] => by simp [subs]
  | x :: xs => by
    have ih := filter_subs p xs
    simp only [subs, List.mem_append, List.mem_map]
    cases hp : p x
    · left; simpa [hp] using ih
    · right; exact ⟨_, ih, by simp [hp]⟩
abbrev all7 : List (List Int) := subs [0, 1, 2, 3, 4, 5, 6]
theorem cars_mem7 {l : Lot} (h : Cars 7 l) : l ∈ all7 := by
  have e : l = [0, 1, 2, 3, 4, 5, 6].filter fun x => decide (x ∈ l) := by
    refine rise_ext h.1 ?_ fun x => ?_
    · exact List.Pairwise.sublist List.filter_sublist (by decide)
    · rw [List.mem_filter]
      constructor
      · intro hx
        have := h.2 x hx
        refine ⟨?_, by simpa using hx⟩
        simp; omega
      · intro hx; simpa using hx.2
  rw [e]; exact filter_subs _ _
theorem hash_nodup : (all7.map hashI).Nodup := by decide +kernel
theorem len7 : all7.length = 128 := by decide +kernel
theorem nodup_sub_len {α : Type} [DecidableEq α] : ∀ {a b : List α}, a.Nodup → (∀ x ∈ a, x ∈ b) → a.length ≤ b.length
  | [], b, _, _ => by simp
  | x :: a, b, n, h => by
    have hx := h x (by simp)
    have n1 := List.nodup_cons.mp n
    have := nodup_sub_len (a := a) (b := b.erase x) n1.2 fun y hy => by
      have hne : y ≠ x := fun z => n1.1 (z ▸ hy)
      exact (List.mem_erase_of_ne hne).mpr (h y (by simp [hy]))
    rw [List.length_erase_of_mem hx] at this
    have := List.length_pos_of_mem hx
    simp only [List.length_cons]; omega
theorem inj_of_nodup_map {α β : Type} {f : α → β} : ∀ {xs : List α}, (xs.map f).Nodup → ∀ x ∈ xs, ∀ y ∈ xs, f x = f y → x = y
  | [], _, x, hx, _, _, _ => by simp at hx
  | a :: xs, n, x, hx, y, hy, e => by
    rw [List.map_cons, List.nodup_cons] at n
    by_cases h1 : x = a
    · by_cases h2 : y = a
      · rw [h1, h2]
      · have hy2 : y ∈ xs := (List.mem_cons.mp hy).resolve_left h2
        exact absurd (List.mem_map.mpr ⟨y, hy2, by rw [← e, h1]⟩) n.1
    · have hx2 : x ∈ xs := (List.mem_cons.mp hx).resolve_left h1
      by_cases h2 : y = a
      · exact absurd (List.mem_map.mpr ⟨x, hx2, by rw [e, h2]⟩) n.1
      · exact inj_of_nodup_map n.2 x hx2 y ((List.mem_cons.mp hy).resolve_left h2) e
theorem nodup_map_inj {α β : Type} {f : α → β} : ∀ {xs : List α}, xs.Nodup → (∀ x ∈ xs, ∀ y ∈ xs, f x = f y → x = y) → (xs.map f).Nodup
  | [], _, _ => by simp
  | a :: xs, n, h => by
    have n1 := List.nodup_cons.mp n
    rw [List.map_cons, List.nodup_cons]
    refine ⟨fun z => ?_, nodup_map_inj n1.2 fun x hx y hy => h x (by simp [hx]) y (by simp [hy])⟩
    obtain ⟨y, hy, e⟩ := List.mem_map.mp z
    have := h a (by simp) y (by simp [hy]) e.symm
    exact n1.1 (this ▸ hy)
/-- the lots behind a number of events -/
def Lvl (ks : List Lot) : Prop := ks.Nodup ∧ (∀ l ∈ ks, Cars 7 l) ∧ ∃ s, ∀ l ∈ ks, l.length = s
def EvOk (m : Int) (e : Ev) : Prop := Cars m e.2 ∧ e.2 ≠ []
structure DayOk (m : Int) (evs : List Ev) : Prop where
  m1 : 1 ≤ m
  m7 : m ≤ 7
  len : evs.length ≤ 20
  ev : ∀ e ∈ evs, EvOk m e
theorem Cars.mono {m : Int} {l : List Int} (h : Cars m l) (hm : m ≤ 7) : Cars 7 l := ⟨h.1, fun c hc => by have := h.2 c hc; omega⟩
theorem len128 {ks : List Lot} (h : ks.Nodup) (h2 : ∀ l ∈ ks, Cars 7 l) : ks.length ≤ 128 := by
  rw [← len7]; exact nodup_sub_len h fun x hx => cars_mem7 (h2 x hx)
theorem Lvl.len {ks : List Lot} (h : Lvl ks) : ks.length ≤ 128 := by
  rw [← len7]; exact nodup_sub_len h.1 fun x hx => cars_mem7 (h.2.1 x hx)
theorem Cars.len {l : List Int} (h : Cars 7 l) : l.length ≤ 7 := nodup_sub_len (b := [0, 1, 2, 3, 4, 5, 6]) h.1.nodup fun x hx => by
  have := h.2 x hx; simp; omega
theorem news_cars {l : Lot} {e : Ev} {m : Int} (hm : m ≤ 7) (he : EvOk m e) (hl : Cars 7 l) {x : Lot} (hx : x ∈ news l e) : Cars 7 x := by
  obtain ⟨c, hc, hs⟩ := mem_news.mp hx
  have := he.1.2 c hc
  exact (nStep_cars hl ⟨this.1, by omega⟩ hs).1
theorem after_cars {ks : List Lot} {e : Ev} {m : Int} (hm : m ≤ 7) (he : EvOk m e) (hk : ∀ l ∈ ks, Cars 7 l) {x : Lot} (hx : x ∈ kAfter ks e) : Cars 7 x := by
  obtain ⟨l0, hl0, hn⟩ := mem_kAfter.mp hx
  exact news_cars hm he (hk l0 hl0) hn
theorem lvl_after {ks : List Lot} {e : Ev} {m : Int} (hm : m ≤ 7) (he : EvOk m e) (h : Lvl ks) : Lvl (kAfter ks e) := by
  obtain ⟨h1, h2, s, h3⟩ := h
  refine ⟨nodup_kAfter, fun l hl => ?_, (if e.1 then s + 1 else s - 1), fun l hl => ?_⟩
  · obtain ⟨l0, hl0, hn⟩ := mem_kAfter.mp hl
    obtain ⟨c, hc, hs⟩ := mem_news.mp hn
    have := he.1.2 c hc
    exact (nStep_cars (h2 l0 hl0) ⟨this.1, by omega⟩ hs).1
  · obtain ⟨l0, hl0, hn⟩ := mem_kAfter.mp hl
    obtain ⟨c, hc, hs⟩ := mem_news.mp hn
    have := he.1.2 c hc
    have := (nStep_cars (h2 l0 hl0) ⟨this.1, by omega⟩ hs).2.1
    rw [this, h3 l0 hl0]
theorem lvl_kl {m : Int} (hm : m ≤ 7) : ∀ {evs : List Ev}, (∀ e ∈ evs, EvOk m e) → Lvl (kl evs) := by
  intro evs
  suffices ∀ (evs : List Ev) (ks : List Lot), Lvl ks → (∀ e ∈ evs, EvOk m e) → Lvl (evs.foldl kAfter ks) from
    this evs _ ⟨by simp, fun l hl => by simp at hl; subst hl; exact ⟨List.Pairwise.nil, by simp⟩, 0, fun l hl => by simp at hl; simp [hl]⟩
  intro evs
  induction evs with
  | nil => intro ks h _; exact h
  | cons e evs ih => intro ks h he; exact ih _ (lvl_after hm (he e (by simp)) h) fun x hx => he x (by simp [hx])
theorem apart_of {ks : List Lot} (n : ks.Nodup) (h : ∀ l ∈ ks, Cars 7 l) : apartK (ks.map fun l => l.map .inl) = true := by
  have e : ∀ ks : List Lot, hashesK (ks.map fun l => l.map .inl) = some (ks.map hashI) := by
    intro ks
    induction ks with
    | nil => rfl
    | cons k ks ih =>
      have e1 : ∀ k : Lot, intsK (k.map Sum.inl) = some k := by
        intro k
        induction k with
        | nil => rfl
        | cons x k ih => simp [intsK, ih]
      simp only [List.map_cons, hashesK, e1, ih]
  unfold apartK
  rw [e]
  simp only [decide_eq_true_eq]
  refine nodup_map_inj n fun x hx y hy e => inj_of_nodup_map hash_nodup x (cars_mem7 (h x hx)) y (cars_mem7 (h y hy)) e
/-! ### what can be come to -/
def reach (g : Lot → Bool) : Lot → List Ev → Bool
  | l, [] => g l
  | l, e :: es => (news l e).any fun x => reach g x es
/-- the rows, from behind -/
def rowsL (g : Lot → Bool) (last : List Lot) (evs : List Ev) : List (List Lot) := (List.range evs.length).map (fun i => (kl (evs.take i)).filter fun l => reach g l (evs.drop i)) ++ [last]
def Last (g : Lot → Bool) (last : List Lot) (evs : List Ev) : Prop := ∀ l ∈ kl evs, (l ∈ last ↔ g l = true)
theorem rows_get {g : Lot → Bool} {last : List Lot} {evs : List Ev} {i : Nat} (h : i < evs.length) : (rowsL g last evs)[i]? = some ((kl (evs.take i)).filter fun l => reach g l (evs.drop i)) := by
  unfold rowsL
  rw [List.getElem?_append_left (by simpa using h)]
  simp [h]
theorem rows_last {g : Lot → Bool} {last : List Lot} {evs : List Ev} : (rowsL g last evs)[evs.length]? = some last := by
  unfold rowsL
  rw [List.getElem?_append_right (by simp)]
  simp
theorem rows_len {g : Lot → Bool} {last : List Lot} {evs : List Ev} : (rowsL g last evs).length = evs.length + 1 := by simp [rowsL]
theorem rows_mem {g : Lot → Bool} {last : List Lot} {evs : List Ev} {i : Nat} {r : List Lot} (hl : Last g last evs) (h : (rowsL g last evs)[i]? = some r) {l : Lot} (hk : l ∈ kl (evs.take i)) : l ∈ r ↔ reach g l (evs.drop i) = true := by
  have hi : i < evs.length + 1 := by
    rcases Nat.lt_or_ge i (evs.length + 1) with h1 | h1
    · exact h1
    · rw [List.getElem?_eq_none (by rw [rows_len]; omega)] at h; cases h
  by_cases h1 : i < evs.length
  · rw [rows_get h1] at h
    cases h
    rw [List.mem_filter]
    exact ⟨fun z => z.2, fun z => ⟨hk, z⟩⟩
  · have e : i = evs.length := by omega
    subst e
    rw [rows_last] at h
    cases h
    rw [List.take_length] at hk
    rw [List.drop_length]
    exact hl l hk
theorem kl_next {evs : List Ev} {i : Nat} {e : Ev} (h : evs[i]? = some e) : kl (evs.take (i + 1)) = kAfter (kl (evs.take i)) e := by
  rw [List.take_succ_eq_append_getElem (by rcases Nat.lt_or_ge i evs.length with h1 | h1; exact h1; rw [List.getElem?_eq_none h1] at h; cases h)]
  have : evs[i]'(by rcases Nat.lt_or_ge i evs.length with h1 | h1; exact h1; rw [List.getElem?_eq_none h1] at h; cases h) = e := by
    rw [List.getElem?_eq_some_iff] at h; exact h.2
  rw [this, kl_snoc]
theorem drop_next {evs : List Ev} {i : Nat} {e : Ev} (h : evs[i]? = some e) : evs.drop i = e :: evs.drop (i + 1) := by
  obtain ⟨h1, h2⟩ := List.getElem?_eq_some_iff.mp h
  rw [List.drop_eq_getElem_cons h1, h2]
/-- one row more -/
theorem rows_step {g : Lot → Bool} {last : List Lot} {evs : List Ev} {i : Nat} {e : Ev} {r : List Lot} (hl : Last g last evs) (he : evs[i]? = some e) (h : (rowsL g last evs)[i + 1]? = some r) :
    (rowsL g last evs)[i]? = some ((kl (evs.take i)).filter fun l => (news l e).any fun x => decide (x ∈ r)) := by
  have hi : i < evs.length := (List.getElem?_eq_some_iff.mp he).1
  rw [rows_get hi]
  congr 1
  refine List.filter_congr fun l hk => ?_
  rw [drop_next he]
  simp only [reach]
  rw [Bool.eq_iff_iff, List.any_eq_true, List.any_eq_true]
  have hx : ∀ x ∈ news l e, (x ∈ r ↔ reach g x (evs.drop (i + 1)) = true) := fun x hx => rows_mem hl h (by rw [kl_next he]; exact mem_kAfter.mpr ⟨l, hk, hx⟩)
  constructor
  · rintro ⟨x, h1, h2⟩; exact ⟨x, h1, by simpa using (hx x h1).mpr h2⟩
  · rintro ⟨x, h1, h2⟩; exact ⟨x, h1, (hx x h1).mp (by simpa using h2)⟩
/-- the first way -/
def wstep (g : Lot → Bool) (rest : List Ev) (l : Lot) (e : Ev) : Int × Lot := ((behind l e).find? fun p => reach g p.2 rest).getD (0, [])
def wpath (g : Lot → Bool) : Lot → List Ev → List Int
  | _, [] => []
  | l, e :: es => (wstep g es l e).1 :: wpath g (wstep g es l e).2 es
theorem wstep_ok {g : Lot → Bool} {rest : List Ev} {l : Lot} {e : Ev} (h : reach g l (e :: rest) = true) : ∃ c n, wstep g rest l e = (c, n) ∧ (behind l e).find? (fun p => reach g p.2 rest) = some (c, n) ∧ (c, n) ∈ behind l e ∧ reach g n rest = true := by
  simp only [reach, List.any_eq_true] at h
  obtain ⟨x, hx, hr⟩ := h
  obtain ⟨⟨c, m⟩, hp, rfl⟩ := List.mem_map.mp hx
  cases hf : (behind l e).find? fun p => reach g p.2 rest with
  | none => exact absurd hr (by simpa using List.find?_eq_none.mp hf _ hp)
  | some p =>
    refine ⟨p.1, p.2, by simp [wstep, hf], rfl, List.mem_of_find?_eq_some hf, ?_⟩
    exact List.find?_some (p := fun p : Int × Lot => reach g p.2 rest) hf
end K80

end

section
namespace K80
open PySem PySem.Spec L2 PL

theorem r_is_tuple (xs : List D) (a b : Int) (st : Sto) : o_is_tuple [.sh (.tup xs), .sh (.int a), .sh (.int b)] st = some (.sh (.bl (decide (a ≤ xs.length) && decide ((xs.length : Int) ≤ b))), st) := by
  simp [o_is_tuple, f_is_tuple, oIsi, hIsi, tyN, oLen, hLen]
  by_cases h : a ≤ (xs.length : Int) <;> simp [h]
theorem r_is_tuple_l (xs : List D) (a b : Int) (st : Sto) : o_is_tuple [.sh (.lst xs), .sh (.int a), .sh (.int b)] st = some (.sh (.bl false), st) := by
  simp [o_is_tuple, f_is_tuple, oIsi, hIsi, tyN]
theorem r_is_whole (v : Int) (st : Sto) : o_is_whole [.sh (.int v)] st = some (.sh (.bl true), st) := by
  simp [o_is_whole, f_is_whole, oIsi, hIsi, tyN]
theorem r_is_integer (v a b : Int) (st : Sto) : o_is_integer [.sh (.int v), .sh (.int a), .sh (.int b)] st = some (.sh (.bl (decide (a ≤ v) && decide (v ≤ b))), st) := by
  simp [o_is_integer, f_is_integer, frz1, r_is_whole]
  by_cases h : a ≤ v <;> simp [h]
theorem r_law_int (v a b : Int) (st : Sto) : o__law_is_int [.sh (.int v), .sh (.int a), .sh (.int b)] st = some (.sh (.bl (decide (a ≤ v) && decide (v ≤ b))), st) := by
  simp [o__law_is_int, f__law_is_int, oIsi, hIsi, tyN]
  by_cases h : a ≤ v <;> simp [h]

def wd (b : Bool) : Str := if b then "in" else "out"
abbrev eL (l : Lot) : D := .tup (l.map .int)
abbrev encEv (e : Ev) : D := .tup [.str (wd e.1), eL e.2]
abbrev encDay (many : Int) (evs : List Ev) : D := .tup [.int many, .tup (evs.map encEv)]
theorem ok_in (n : Nat) : okN n (.str "in") = true := by simp only [okN]; decide +kernel
theorem ok_out (n : Nat) : okN n (.str "out") = true := by simp only [okN]; decide +kernel
theorem ok_wd (n : Nat) (b : Bool) : okN n (.str (wd b)) = true := by cases b <;> simp [wd, ok_in, ok_out]
theorem in_out : (("in" : Str) == ("out" : Str)) = false := by decide +kernel
theorem out_in : (("out" : Str) == ("in" : Str)) = false := by decide +kernel
theorem wd_in (b : Bool) : (wd b == ("in" : Str)) = b := by cases b <;> simp [wd, out_in]
theorem wd_out (b : Bool) : (wd b == ("out" : Str)) = !b := by cases b <;> simp [wd, in_out]
theorem in_wd (b : Bool) : (("in" : Str) == wd b) = b := by cases b <;> simp [wd, in_out]
theorem out_wd (b : Bool) : (("out" : Str) == wd b) = !b := by cases b <;> simp [wd, out_in]
theorem r_is_word (b : Bool) (st : Sto) : o_is_word [.sh (.str (wd b)), .sh (.tup [.str "in", .str "out"])] st = some (.sh (.bl true), st) := by
  have e : (eqv (.str "in") (.str (wd b)) || eqv (.str "out") (.str (wd b))) = true := by cases b <;> simp [eqv, in_wd, out_wd]
  simp [o_is_word, f_is_word, oIsi, hIsi, tyN, oInN, hInN, hIn, inD, ok_wd, ok_in, ok_out, e, -List.any_eq_true, -Bool.or_eq_true]
/-- == with a word -/
theorem eq_in (b : Bool) (st : Sto) : oEqE false [.sh (.str (wd b)), .sh (.str "in")] st = some (.sh (.bl b), st) := by
  simp [oEqE, dE, oEq, ok_wd, ok_in, eqv, wd_in]
theorem eq_out (b : Bool) (st : Sto) : oEqE false [.sh (.str (wd b)), .sh (.str "out")] st = some (.sh (.bl (!b)), st) := by
  simp [oEqE, dE, oEq, ok_wd, ok_out, eqv, wd_out]
def encO : Option Lot → D
  | none => .non
  | some l => eL l
theorem lc_without (s0 s1 : SV) (lot : Lot) (car : Int) (st : Sto) : lcL (gName 3) (some c1__law_step) (pVar 3) [some s0, some s1, some (.sh (.int car)), none] (lot.map D.int) st = some ((lot.filter fun x => x != car).map .int, st) :=
  lcL_if D.int _ _ _ _ _ D.int (fun x => x != car) lot fun x _ => ⟨_, .sh (.bl (x != car)), by simp; rfl, by simp [c1__law_step, neE_int], rfl, fun _ => ⟨.sh (.int x), by simp, rfl⟩⟩
theorem sorted_app (lot : Lot) (car : Int) (hl : lot.length < 1000) (st : Sto) : oSorted [.sh (.tup (lot.map D.int ++ [D.int car]))] st = some (.ow (.lst ((sortI (lot ++ [car])).map .int)), st) := by
  have := sorted_tup (lot ++ [car]) (by simp; omega) st
  simpa using this
theorem r_step (lot : Lot) (b : Bool) (car : Int) (st : Sto) (hl : lot.length < 1000) : o__law_step [.sh (eL lot), .sh (.str (wd b)), .sh (.int car)] st = some (.sh (encO (nStep lot b car)), st) := by
  have h2 : lot.length ≤ 16777215 := by omega
  have h3 : lot.length ≤ 16777216 := by omega
  cases b <;> by_cases h : car ∈ lot <;> simp [o__law_step, f__law_step, eq_in, eq_out, inN_tup, eqE_bl, h, nStep, encO, frz1, oTup, oAdd, hAdd, h2, h3, sorted_app lot car hl, oTuple, hTuple, clr, lc_without]
end K80

end

section
namespace K80
open PySem PySem.Spec L2 PL

theorem rise_zip : ∀ {l : List Int}, Rise l → (l.zip (l.drop 1)).all (fun p => decide (p.1 < p.2)) = true
  | [], _ => rfl
  | [x], _ => rfl
  | x :: y :: l, h => by
    have h1 := List.pairwise_cons.mp h
    have ih := rise_zip h1.2
    have h2 := h1.1 y (by simp)
    simp only [List.drop_one, List.tail_cons, List.zip_cons_cons, List.all_cons, h2, decide_true, Bool.true_and] at ih ⊢
    exact ih
theorem r_is_rising {l : List Int} (h : Rise l) (hl : l.length ≤ 1000) (st : Sto) : o_is_rising [.sh (eL l)] st = some (.sh (.bl true), st) := by
  have e1 : List.zipWith (fun a b => D.tup [a, b]) (l.map .int) ((l.map D.int).drop 1) = (l.zip (l.drop 1)).map fun p => .tup [.int p.1, .int p.2] := by rw [← List.map_drop, zip2_map]
  have e2 : lcL (gTup [gName 1, gName 2]) none e1_is_rising [some (.sh (eL l)), none, none] ((l.zip (l.drop 1)).map fun p => .tup [.int p.1, .int p.2]) st = some ((l.zip (l.drop 1)).map fun p => .bl (decide (p.1 < p.2)), st) :=
    lcL_pre (fun p : Int × Int => D.tup [.int p.1, .int p.2]) _ _ _ _ (fun p => .bl (decide (p.1 < p.2))) _ fun p _ => ⟨_, _, by simp; rfl, by simp [e1_is_rising]; rfl, rfl⟩
  have e3 := rise_zip h
  have e4 : l.length ≤ 16777217 := by omega
  simp [o_is_rising, f_is_rising, frz1, clr, sliceD, e1, e2, e3, e4, -List.drop_one]
theorem r_is_event {m : Int} {e : Ev} (hm : m ≤ 7) (h : EvOk m e) (st : Sto) : o_is_event [.sh (.int m), .sh (encEv e)] st = some (.sh (.bl true), st) := by
  have e2 : lcL (gName 2) none e1_is_event [some (.sh (.int m)), some (.sh (encEv e)), none] (e.2.map .int) st = some (e.2.map fun c => .bl (decide (0 ≤ c) && decide (c ≤ m - 1)), st) :=
    lcL_pre D.int _ _ _ _ (fun c => .bl (decide (0 ≤ c) && decide (c ≤ m - 1))) _ fun p _ => ⟨_, _, by simp; rfl, by simp [e1_is_event, r_is_integer]; rfl, rfl⟩
  have e3 : e.2.all (fun c => decide (0 ≤ c) && decide (c ≤ m - 1)) = true := by
    rw [List.all_eq_true]; intro c hc
    have := h.1.2 c hc
    simp; omega
  have l7 := (h.1.mono hm).len
  have l1 : 1 ≤ e.2.length := List.length_pos_iff.mpr h.2
  have lm : (e.2.length : Int) ≤ m := by
    have := nodup_sub_len (a := e.2) (b := (List.range m.toNat).map Int.ofNat) h.1.1.nodup fun x hx => by
      have := h.1.2 x hx
      rw [List.mem_map]
      exact ⟨x.toNat, by rw [List.mem_range]; omega, by show ((x.toNat : Nat) : Int) = x; omega⟩
    simp at this; omega
  have l2 : e.2.length ≤ 16777216 := by omega
  have l3 : (1 : Int) ≤ e.2.length := by omega
  simp [o_is_event, f_is_event, frz1, r_is_tuple, r_is_word, clr, e2, e3, l2, l3, lm, r_is_rising h.1.1 (by omega), oTup]
theorem r_is_day {m : Int} {evs : List Ev} (h : DayOk m evs) (st : Sto) : o_is_day [.sh (encDay m evs)] st = some (.sh (.bl true), st) := by
  have e2 : lcL (gName 1) none e1_is_day [some (.sh (encDay m evs)), none] (evs.map encEv) st = some (evs.map fun c => .bl true, st) :=
    lcL_pre encEv _ _ _ _ (fun c => .bl true) _ fun p hp => ⟨_, _, by simp; rfl, by simp [e1_is_day, r_is_event h.m7 (h.ev p hp)]; rfl, rfl⟩
  have := h.len; have := h.m1; have := h.m7
  have l2 : evs.length ≤ 16777216 := by omega
  have l3 : (evs.length : Int) ≤ 40 := by omega
  have l4 : m ≤ 10 := by omega
  have l5 : (0 : Int) ≤ evs.length := by omega
  have e3 : evs.all (fun _ => true) = true := by simp
  have e4 := all_map (fun _ : Ev => true) evs st
  simp only [List.map_const'] at *
  simp [o_is_day, f_is_day, frz1, r_is_tuple, r_is_integer, clr, e2, e4, l2, l3, l4, h.m1, l5]
theorem r_check_day {m : Int} {evs : List Ev} (h : DayOk m evs) (st : Sto) : o_check_day [.sh (encDay m evs)] st = some (.sh .non, st) := by
  simp [o_check_day, f_check_day, frz1, r_is_day h]
theorem r_check_car {m : Int} {evs : List Ev} (h : DayOk m evs) (c : Int) (hc : 0 ≤ c ∧ c < m) (st : Sto) : o_check_car [.sh (encDay m evs), .sh (.int c)] st = some (.sh .non, st) := by
  have : c ≤ m - 1 := by omega
  simp [o_check_car, f_check_car, frz1, r_check_day h, r_is_integer, hc.1, this]
def encP (p : Int × Lot) : D := .tup [.int p.1, eL p.2]
theorem lc_without4 (s0 s1 s2 : SV) (lot : Lot) (car : Int) (st : Sto) : lcL (gName 4) (some c1_behind_of) (pVar 4) [some s0, some s1, some s2, some (.sh (.int car)), none] (lot.map D.int) st = some ((lot.filter fun x => x != car).map .int, st) :=
  lcL_if D.int _ _ _ _ _ D.int (fun x => x != car) lot fun x _ => ⟨_, .sh (.bl (x != car)), by simp; rfl, by simp [c1_behind_of, neE_int], rfl, fun _ => ⟨.sh (.int x), by simp, rfl⟩⟩
theorem behind_snoc (l : Lot) (b : Bool) (xs : List Int) (c : Int) : behind l (b, xs ++ [c]) = behind l (b, xs) ++ (match nStep l b c with | none => [] | some n => [(c, n)]) := by
  simp only [behind, List.filterMap_append, List.filterMap_cons, List.filterMap_nil]
  cases nStep l b c <;> simp
theorem behind_len (l : Lot) (e : Ev) : (behind l e).length ≤ e.2.length := List.length_filterMap_le _ _
theorem sorted_star (lot : Lot) (car : Int) (hl : lot.length < 1000) (st : Sto) : oSorted [.ow (.lst (lot.map D.int ++ [D.int car]))] st = some (.ow (.lst ((sortI (lot ++ [car])).map .int)), st) := by
  have := sorted_lst (lot ++ [car]) (by simp; omega) st
  simpa using this
theorem r_behind_of (l : Lot) (e : Ev) (st : Sto) (hl : l.length < 1000) (he : e.2.length < 1000) : o_behind_of [.sh (eL l), .sh (encEv e)] st = some (.ow (.lst ((behind l e).map encP)), st) := by
  obtain ⟨b, xs⟩ := e
  have h2 : l.length ≤ 16777215 := by simp at *; omega
  have h3 : l.length ≤ 16777216 := by omega
  obtain ⟨t, L⟩ := forL_pre D.int (gName 3) b2_behind_of st (fun (done : List Int) (t : Option SV) => [some (.sh (eL l)), some (.sh (encEv (b, xs))), some (.ow (.lst ((behind l (b, done)).map encP))), t, none]) xs (fun done c rest ed t => by
    have hb : (behind l (b, done)).length < 16777216 := by
      have h1 := behind_len l (b, done)
      have h4 : done.length ≤ xs.length := by rw [ed]; simp
      simp at *; omega
    refine ⟨_, some (.sh (.int c)), by simp; rfl, ?_⟩
    rw [behind_snoc]
    cases b <;> by_cases hc : c ∈ l <;> simp [b2_behind_of, eq_in, eq_out, inN_tup, hc, frz1, oLst, oTup, wrAt, fApp, nStep, encP, clr, lc_without4, h2, h3, sorted_star l c hl, hb]) none
  have e0 : behind l (b, []) = [] := rfl
  rw [e0] at L
  simp only [List.map_nil] at L
  simp [o_behind_of, f_behind_of, oLst, L]
end K80

end

section
namespace K80
open PySem PySem.Spec L2 PL

/-- a dict of lots that says True -/
abbrev DK (ks : List Lot) : D := dL (fun _ : Unit => .bl true) (ks.map fun k => (k, ()))
abbrev DC (es : List (Lot × Int)) : D := dL .int es
theorem putA_unit (ks : List Lot) (k : Lot) : putA (ks.map fun k => (k, ())) k () = (addK ks k).map fun k => (k, ()) := by
  unfold putA addK
  have e : ((ks.map fun k => (k, ())).any fun p => decide (p.1 = k)) = decide (k ∈ ks) := by
    rw [List.any_map, Bool.eq_iff_iff]
    simp
  rw [e]
  by_cases h : k ∈ ks
  · simp only [h, decide_true, if_true]
    rw [List.map_map]
    refine List.map_congr_left fun x _ => ?_
    simp only [Function.comp]
    split <;> rfl
  · simp [h]
theorem mergeA_unit (ks ns : List Lot) : mergeA (ks.map fun k => (k, ())) (ns.map fun k => (k, ())) = (ns.foldl addK ks).map fun k => (k, ()) := by
  unfold mergeA
  induction ns generalizing ks with
  | nil => rfl
  | cons n ns ih => simp only [List.map_cons, List.foldl_cons]; rw [putA_unit, ih]
theorem put_DK (ks : List Lot) (k : Lot) (h : ks.length < 16777216) : fPut (eL k) (.bl true) (DK ks) = some (DK (addK ks k)) := by
  have := fPut_dL (fun _ : Unit => D.bl true) (ks.map fun k => (k, ())) k () (by simpa using h)
  rw [putA_unit] at this
  exact this
theorem upd_DK (ks ns : List Lot) (h : ks.length + ns.length ≤ 16777216) (hn : ns.Nodup) (hc : ∀ l ∈ ns, Cars 7 l) : fUpd (DK ns) (DK ks) = some (DK (ns.foldl addK ks)) := by
  have e := mergeA_enc (fun _ : Unit => D.bl true) (ks.map fun k => (k, ())) (ns.map fun k => (k, ()))
  rw [mergeA_unit] at e
  unfold DK dL fUpd
  simp only
  rw [if_pos, e]
  refine ⟨by simpa using h, .inr ?_⟩
  rw [List.map_map, List.map_map]
  exact apart_of hn hc
theorem mem_unit {ks : List Lot} {k : Lot} : k ∈ (ks.map fun k => (k, ())).map (·.1) ↔ k ∈ ks := by simp
theorem inN_DK (neg : Bool) (ks : List Lot) (k : Lot) (st : Sto) (s : SV) (hs : dS st s = DK ks) : oInN neg [.sh (eL k), s] st = some (.sh (.bl (if neg then !decide (k ∈ ks) else decide (k ∈ ks))), st) := by
  rw [inN_dL neg _ _ k st s hs]
  simp only [mem_unit]
theorem src_DK (ks : List Lot) : srcD (DK ks) = some (ks.map eL) := by
  rw [srcD_dL]; simp [Function.comp]
theorem len_DK (ks : List Lot) (st : Sto) (s : SV) (hs : dS st s = DK ks) : oLen [s] st = some (.sh (.int ks.length), st) := by
  rw [len_dL _ _ st s hs]; simp
/-! ### levels_of -/
def levL (evs : List Ev) : List (List Lot) := (List.range (evs.length + 1)).map fun i => kl (evs.take i)
theorem levL_nil : levL [] = [[[]]] := rfl
theorem levL_snoc (evs : List Ev) (e : Ev) : levL (evs ++ [e]) = levL evs ++ [kAfter (kl evs) e] := by
  unfold levL
  rw [List.length_append, List.length_singleton, List.range_succ, List.map_append]
  congr 1
  · refine List.map_congr_left fun i hi => ?_
    rw [List.mem_range] at hi
    rw [List.take_append_of_le_length (by omega)]
  · simp [kl_snoc, List.take_of_length_le]
theorem levL_len (evs : List Ev) : (levL evs).length = evs.length + 1 := by simp [levL]
theorem levL_get {evs : List Ev} {i : Nat} (h : i ≤ evs.length) : (levL evs)[i]? = some (kl (evs.take i)) := by
  unfold levL; simp [Nat.lt_succ_of_le h]
theorem levL_last (evs : List Ev) : (levL evs).getLast? = some (kl evs) := by
  rw [List.getLast?_eq_getElem?, levL_len]
  simp [levL_get (Nat.le_refl _)]
theorem r_dc_new {m : Int} (hm : m ≤ 7) {e : Ev} (he : EvOk m e) {l : Lot} (hl : Cars 7 l) (ρ : Lo) (st : Sto) (hρ : ρ.length = 7) :
    dcL (gTup [gName 5, gName 6]) none (pVar 6) (pC (.bl true)) ρ ((behind l e).map encP) (.dt []) st = some (DK ((news l e).foldl addK []), st) := by
  have := dcL_pre encP (gTup [gName 5, gName 6]) (pVar 6) (pC (.bl true)) ρ st (fun done => DK ((done.map (·.2)).foldl addK [])) (behind l e) fun done x rest ed => by
    refine ⟨_, .sh (eL x.2), .sh (.bl true), .bl true, by simp [encP, hρ]; rfl, by simp [hρ], by simp, rfl, ?_⟩
    have h1 := behind_len l e
    have h2 := (he.1.mono hm).len
    have h3 : ((done.map (·.2)).foldl addK []).length ≤ done.length := by
      suffices ∀ (ns ks : List Lot), (ns.foldl addK ks).length ≤ ks.length + ns.length by simpa using this (done.map (·.2)) []
      intro ns
      induction ns with
      | nil => simp
      | cons n ns ih => intro ks; have := ih (addK ks n); have h5 : (addK ks n).length ≤ ks.length + 1 := by unfold addK; split <;> simp
                        simp only [List.foldl_cons, List.length_cons]; omega
    have h4 : done.length ≤ (behind l e).length := by rw [ed]; simp
    rw [dS_tup, put_DK _ _ (by omega)]
    simp
  exact this
theorem foldK_len (ns ks : List Lot) : (ns.foldl addK ks).length ≤ ks.length + ns.length := by
  induction ns generalizing ks with
  | nil => simp
  | cons n ns ih =>
    have := ih (addK ks n)
    have h5 : (addK ks n).length ≤ ks.length + 1 := by unfold addK; split <;> simp
    simp only [List.foldl_cons, List.length_cons]; omega
theorem r_levels_of {m : Int} {evs : List Ev} (h : DayOk m evs) (st : Sto) : o_levels_of [.sh (encDay m evs)] st = some (.ow (.lst ((levL evs).map DK)), st) := by
  obtain ⟨t, L⟩ := forL_pre encEv (gName 2) b2_levels_of st (fun (done : List Ev) (t : Option SV × Option SV × Option SV) => [some (.sh (encDay m evs)), some (.ow (.lst ((levL done).map DK))), t.1, t.2.1, t.2.2, none, none]) evs (fun done e rest ed t => by
    have hd : ∀ e ∈ done, EvOk m e := fun x hx => h.ev x (by rw [ed]; simp [hx])
    have he : EvOk m e := h.ev e (by rw [ed]; simp)
    have hk := lvl_kl h.m7 hd
    obtain ⟨t2, L2⟩ := forL_pre eL (gName 4) b1_levels_of st (fun (dn : List Lot) (t : Option SV) => [some (.sh (encDay m evs)), some (.ow (.lst ((levL done).map DK))), some (.sh (encEv e)), some (.ow (DK (kAfter dn e))), t, none, none]) (kl done) (fun dn l rest2 ed2 t => by
      refine ⟨_, some (.sh (eL l)), by simp; rfl, ?_⟩
      have hl : Cars 7 l := hk.2.1 l (by rw [ed2]; simp)
      have hel := (he.1.mono h.m7).len
      have hll := hl.len
      have e1 := r_behind_of l e st (by omega) (by omega)
      have e2 : kAfter (dn ++ [l]) e = (news l e).foldl addK (kAfter dn e) := by simp [kAfter]
      have e3 := r_dc_new h.m7 he hl [some (.sh (encDay m evs)), some (.ow (.lst ((levL done).map DK))), some (.sh (encEv e)), some (.ow (DK (kAfter dn e))), some (.sh (eL l)), none, none] st rfl
      have n1 : ((news l e).foldl addK []).Nodup := nodup_foldK _ _ (by simp)
      have n2 : ∀ x ∈ (news l e).foldl addK [], Cars 7 x := fun x hx => by
        rcases (mem_foldK _ _).mp hx with hx | hx
        · simp at hx
        · exact news_cars h.m7 he hl hx
      have n3 : (kAfter dn e).length ≤ 128 := len128 nodup_kAfter fun x hx => after_cars h.m7 he (fun y hy => hk.2.1 y (by rw [ed2]; simp [hy])) hx
      have n4 := len128 n1 n2
      have e4 := upd_DK (kAfter dn e) ((news l e).foldl addK []) (by omega) n1 n2
      rw [foldK_fold, List.foldl_nil, ← e2] at e4
      simp [b1_levels_of, frz1, e1, clr, e3, wrAt, e4]) t.2.2
    have e0 : DK (kAfter [] e) = .dt [] := rfl
    rw [e0] at L2
    refine ⟨_, (some (.sh (encEv e)), some (.sh (DK (kAfter (kl done) e))), t2), by simp; rfl, ?_⟩
    have e5 := levL_last done
    have e6 := levL_len done
    have e7 : (levL done).length < 16777216 := by have := h.len; rw [ed] at this; simp at this; omega
    simp [b2_levels_of, e5, src_DK, L2, frz1, wrAt, fApp, e7, levL_snoc]) (none, none, none)
  have e0 : ((levL []).map DK) = [.dt [([], .bl true)]] := rfl
  rw [e0] at L
  have e1 : fPut (.tup []) (.bl true) (.dt []) = some (.dt [([], .bl true)]) := rfl
  simp [o_levels_of, f_levels_of, oTup, oLst, e1, L]
end K80

end

section
namespace K80
open PySem PySem.Spec L2 PL

def putN (v : Int) (ns : List Lot) (acc : List (Lot × Int)) : List (Lot × Int) := ns.foldl (fun a new => putA a new (getA a new + v)) acc
theorem keys_putN (v : Int) (ns : List Lot) (acc : List (Lot × Int)) : (putN v ns acc).map (·.1) = ns.foldl addK (acc.map (·.1)) := by
  unfold putN
  induction ns generalizing acc with
  | nil => rfl
  | cons n ns ih => rw [List.foldl_cons, List.foldl_cons, ih, map_putA]
theorem cAfter_snoc (es : List (Lot × Int)) (p : Lot × Int) (e : Ev) : cAfter (es ++ [p]) e = putN p.2 (news p.1 e) (cAfter es e) := by simp [cAfter, putN]
theorem find_of_mem {es : List (Lot × Int)} (n : (es.map (·.1)).Nodup) {p : Lot × Int} (h : p ∈ es) : findA es p.1 = some p.2 := by
  unfold findA
  induction es with
  | nil => simp at h
  | cons q es ih =>
    rw [List.map_cons, List.nodup_cons] at n
    rw [List.find?_cons]
    by_cases hq : q.1 = p.1
    · have : p = q := by
        rcases List.mem_cons.mp h with e | e
        · exact e
        · exact absurd (List.mem_map.mpr ⟨p, e, hq.symm⟩) n.1
      subst this
      simp
    · simp only [hq, decide_false]
      exact ih n.2 ((List.mem_cons.mp h).resolve_left fun e => hq (by rw [e]))
theorem find_cl {evs : List Ev} {p : Lot × Int} (h : p ∈ cl evs) : findA (cl evs) p.1 = some p.2 := find_of_mem (by rw [keys_cl]; exact nodup_kl evs) h
def levC (evs : List Ev) : List (List (Lot × Int)) := (List.range (evs.length + 1)).map fun i => cl (evs.take i)
theorem levC_snoc (evs : List Ev) (e : Ev) : levC (evs ++ [e]) = levC evs ++ [cAfter (cl evs) e] := by
  unfold levC
  rw [List.length_append, List.length_singleton, List.range_succ, List.map_append]
  congr 1
  · refine List.map_congr_left fun i hi => ?_
    rw [List.mem_range] at hi
    rw [List.take_append_of_le_length (by omega)]
  · simp [cl_snoc, List.take_of_length_le]
theorem levC_len (evs : List Ev) : (levC evs).length = evs.length + 1 := by simp [levC]
theorem levC_get {evs : List Ev} {i : Nat} (h : i ≤ evs.length) : (levC evs)[i]? = some (cl (evs.take i)) := by
  unfold levC; simp [Nat.lt_succ_of_le h]
theorem levC_last (evs : List Ev) : (levC evs).getLast? = some (cl evs) := by
  rw [List.getLast?_eq_getElem?, levC_len]
  simp [levC_get (Nat.le_refl _)]
theorem news_snoc (l : Lot) (b : Bool) (xs : List Int) (c : Int) : news l (b, xs ++ [c]) = news l (b, xs) ++ (match nStep l b c with | none => [] | some n => [n]) := by
  unfold news; rw [behind_snoc, List.map_append]
  cases nStep l b c <;> rfl
theorem news_pre {l : Lot} {b : Bool} {done rest : List Int} {x : Lot} (h : x ∈ news l (b, done)) : x ∈ news l (b, done ++ rest) := by
  rw [mem_news] at *
  obtain ⟨c, hc, hs⟩ := h
  exact ⟨c, by simp at hc ⊢; exact .inl hc, hs⟩
theorem after_mem_cl {done : List Ev} {m : Int} (hm : m ≤ 7) (hd : ∀ e ∈ done, EvOk m e) {p : Lot × Int} (h : p ∈ cl done) : Cars 7 p.1 :=
  (lvl_kl hm hd).2.1 p.1 (by rw [← keys_cl]; exact List.mem_map.mpr ⟨p, h, rfl⟩)
/-- the keys of what is being filled are few -/
theorem few_keys {done : List Ev} {e : Ev} {m : Int} (hm : m ≤ 7) (hd : ∀ e ∈ done, EvOk m e) (he : EvOk m e) {dn rest : List (Lot × Int)} {p : Lot × Int} (ed : cl done = dn ++ p :: rest) {cs cr : List Int} (ec : e.2 = cs ++ cr) : (putN p.2 (news p.1 (e.1, cs)) (cAfter dn e)).length ≤ 128 := by
  have e1 := keys_putN p.2 (news p.1 (e.1, cs)) (cAfter dn e)
  rw [keys_cAfter] at e1
  rw [← List.length_map (f := (·.1)), e1]
  have hk := fun (q : Lot × Int) (hq : q ∈ cl done) => after_mem_cl hm hd hq
  refine len128 (nodup_foldK _ _ nodup_kAfter) fun x hx => ?_
  rcases (mem_foldK _ _).mp hx with hx | hx
  · refine after_cars hm he (fun l hl => ?_) hx
    obtain ⟨q, hq, rfl⟩ := List.mem_map.mp hl
    exact hk q (by rw [ed]; simp [hq])
  · refine news_cars hm he (hk p (by rw [ed]; simp)) (x := x) ?_
    have := news_pre (rest := cr) hx
    rw [← ec] at this
    exact this
theorem isDct_dL {α : Type} (f : α → D) (es : List (List Int × α)) : isDct (dL f es) = true := rfl
theorem get2_DC (es : List (Lot × Int)) (k : Lot) (st : Sto) (s : SV) (hs : s.d = DC es) : oGet2 [s, .sh (eL k), .sh (.int 0)] st = some (.sh (.int (getA es k)), st) := by
  rw [get2_dL .int es k st s hs (.int 0)]
  unfold getA
  cases findA es k <;> rfl
theorem get2_DCr (es : List (Lot × Int)) (k : Lot) (st : Sto) : oGet2 [.ro (DC es), .sh (eL k), .sh (.int 0)] st = some (.sh (.int (getA es k)), st) := get2_DC es k st _ rfl
theorem r_law_levels {m : Int} {evs : List Ev} (h : DayOk m evs) (st : Sto) : o__law_levels [.sh (encDay m evs)] st = some (.ow (.lst ((levC evs).map DC)), st) := by
  obtain ⟨t, L⟩ := forL_pre encEv (gTup [gName 2, gName 3]) b3__law_levels st (fun (done : List Ev) (t : Option SV × Option SV × Option SV × Option SV × Option SV × Option SV) => [some (.sh (encDay m evs)), some (.ow (.lst ((levC done).map DC))), t.1, t.2.1, t.2.2.1, t.2.2.2.1, t.2.2.2.2.1, t.2.2.2.2.2]) evs (fun done e rest ed t => by
    have hd : ∀ e ∈ done, EvOk m e := fun x hx => h.ev x (by rw [ed]; simp [hx])
    have he : EvOk m e := h.ev e (by rw [ed]; simp)
    have e5 := levC_last done
    obtain ⟨t2, L2⟩ := forL_pre (fun p : Lot × Int => eL p.1) (gName 5) b2__law_levels st (fun (dn : List (Lot × Int)) (t : Option SV × Option SV × Option SV) => [some (.sh (encDay m evs)), some (.ow (.lst ((levC done).map DC))), some (.sh (.str (wd e.1))), some (.sh (eL e.2)), some (.ow (DC (cAfter dn e))), t.1, t.2.1, t.2.2]) (cl done) (fun dn p rest2 ed2 t => by
      have hl : Cars 7 p.1 := after_mem_cl h.m7 hd (by rw [ed2]; simp)
      have hll := hl.len
      have hf : findA (cl done) p.1 = some p.2 := find_cl (by rw [ed2]; simp)
      obtain ⟨t3, L3⟩ := forL_pre D.int (gName 6) b1__law_levels st (fun (cs : List Int) (t : Option SV × Option SV) => [some (.sh (encDay m evs)), some (.ow (.lst ((levC done).map DC))), some (.sh (.str (wd e.1))), some (.sh (eL e.2)), some (.ow (DC (putN p.2 (news p.1 (e.1, cs)) (cAfter dn e)))), some (.sh (eL p.1)), t.1, t.2]) e.2 (fun cs c cr ec t => by
        refine ⟨_, (some (.sh (.int c)), some (.sh (encO (nStep p.1 e.1 c)))), by simp; rfl, ?_⟩
        have e1 := r_step p.1 e.1 c st (by omega)
        rw [news_snoc]
        have fk := few_keys h.m7 hd he ed2 ec
        cases hn : nStep p.1 e.1 c with
        | none => simp [b1__law_levels, frz1, e1, hn, encO]
        | some n =>
          have e6 : putN p.2 (news p.1 (e.1, cs) ++ [n]) (cAfter dn e) = putA (putN p.2 (news p.1 (e.1, cs)) (cAfter dn e)) n (getA (putN p.2 (news p.1 (e.1, cs)) (cAfter dn e)) n + p.2) := by simp [putN]
          have e7 := fPut_dL D.int (putN p.2 (news p.1 (e.1, cs)) (cAfter dn e)) n (getA (putN p.2 (news p.1 (e.1, cs)) (cAfter dn e)) n + p.2) (by omega)
          rw [← e6] at e7
          simp [b1__law_levels, frz1, e1, hn, encO, get2_DCr, e5, ix_dL D.int (cl done) p.1 st (.sh (DC (cl done))) rfl p.2 hf, wrAt, e7, isDct_dL]) t.2
      have e0 : putN p.2 (news p.1 (e.1, [])) (cAfter dn e) = cAfter dn e := rfl
      rw [e0] at L3
      refine ⟨_, (some (.sh (eL p.1)), t3), by simp; rfl, ?_⟩
      rw [cAfter_snoc]
      simp only [b2__law_levels]
      simp [frz1, L3]) t.2.2.2
    have e0 : DC (cAfter [] e) = .dt [] := rfl
    rw [e0] at L2
    refine ⟨_, (some (.sh (.str (wd e.1))), some (.sh (eL e.2)), some (.sh (DC (cAfter (cl done) e))), t2), by simp; rfl, ?_⟩
    have e7 : (levC done).length < 16777216 := by have := h.len; rw [ed] at this; simp at this; have := levC_len done; omega
    simp [b3__law_levels, e5, srcD_dL, L2, frz1, wrAt, fApp, e7, levC_snoc]) (none, none, none, none, none, none)
  have e0 : ((levC []).map DC) = [.dt [([], .int 1)]] := rfl
  rw [e0] at L
  have e1 : fPut (.tup []) (.int 1) (.dt []) = some (.dt [([], .int 1)]) := rfl
  simp [o__law_levels, f__law_levels, oTup, oLst, e1, L]
end K80

end

section
namespace K80
open PySem PySem.Spec L2 PL
def s1 : List Ev → SV
  | [] => .ow (DC (cl []))
  | e :: es => .sh (DC (cl (e :: es)))
theorem s1_snoc (done : List Ev) (e : Ev) : s1 (done ++ [e]) = .sh (DC (cAfter (cl done) e)) := by
  rw [← cl_snoc]
  cases done <;> rfl
theorem sum_ints (xs : List (Lot × Int)) (st : Sto) : oSum [.ow (.lst (xs.map fun p => .int p.2))] st = some (.sh (.int (xs.map (·.2)).sum), st) := by
  have : (xs.map fun p => D.int p.2) = (xs.map (·.2)).map .int := by simp [Function.comp]
  rw [this]
  simp only [oSum, ev_oG, List.map_cons, List.map_nil, dS_lsto, hSum, intsD_ints, Option.map_some]
  rfl
theorem r_how_many {m : Int} {evs : List Ev} (h : DayOk m evs) (st : Sto) : o_how_many_ways [.sh (encDay m evs)] st = some (.sh (.int ((cl evs).map (·.2)).sum), st) := by
  obtain ⟨t, L⟩ := forL_pre encEv (gName 2) b3_how_many_ways st (fun (done : List Ev) (t : Option SV × Option SV × Option SV × Option SV × Option SV × Option SV) => [some (.sh (encDay m evs)), some (s1 done), t.1, t.2.1, t.2.2.1, t.2.2.2.1, t.2.2.2.2.1, t.2.2.2.2.2]) evs (fun done e rest ed t => by
    have hd : ∀ e ∈ done, EvOk m e := fun x hx => h.ev x (by rw [ed]; simp [hx])
    have he : EvOk m e := h.ev e (by rw [ed]; simp)
    obtain ⟨t2, L2⟩ := forL_pre (fun p : Lot × Int => D.tup [eL p.1, .int p.2]) (gTup [gName 4, gName 5]) b2_how_many_ways st (fun (dn : List (Lot × Int)) (t : Option SV × Option SV × Option SV × Option SV) => [some (.sh (encDay m evs)), some (.sh (DC (cl done))), some (.sh (encEv e)), some (.ow (DC (cAfter dn e))), t.1, t.2.1, t.2.2.1, t.2.2.2]) (cl done) (fun dn p rest2 ed2 t => by
      have hl : Cars 7 p.1 := after_mem_cl h.m7 hd (by rw [ed2]; simp)
      have hll := hl.len
      have hel := (he.1.mono h.m7).len
      have eb := r_behind_of p.1 e st (by omega) (by omega)
      obtain ⟨t3, L3⟩ := forL_pre encP (gTup [gName 6, gName 7]) b1_how_many_ways st (fun (cs : List (Int × Lot)) (t : Option SV × Option SV) => [some (.sh (encDay m evs)), some (.sh (DC (cl done))), some (.sh (encEv e)), some (.ow (DC (putN p.2 (cs.map (·.2)) (cAfter dn e)))), some (.sh (eL p.1)), some (.sh (.int p.2)), t.1, t.2]) (behind p.1 e) (fun cs c cr ec t => by
        refine ⟨_, (some (.sh (.int c.1)), some (.sh (eL c.2))), by simp [encP]; rfl, ?_⟩
        have hk := fun (q : Lot × Int) (hq : q ∈ cl done) => after_mem_cl h.m7 hd hq
        have fk : (putN p.2 (cs.map (·.2)) (cAfter dn e)).length ≤ 128 := by
          have e1 := keys_putN p.2 (cs.map (·.2)) (cAfter dn e)
          rw [keys_cAfter] at e1
          rw [← List.length_map (f := (·.1)), e1]
          refine len128 (nodup_foldK _ _ nodup_kAfter) fun x hx => ?_
          rcases (mem_foldK _ _).mp hx with hx | hx
          · refine after_cars h.m7 he (fun l hl => ?_) hx
            obtain ⟨q, hq, rfl⟩ := List.mem_map.mp hl
            exact hk q (by rw [ed2]; simp [hq])
          · refine news_cars h.m7 he hl (x := x) ?_
            unfold news
            rw [ec, List.map_append]
            exact List.mem_append.mpr (.inl hx)
        have e6 : putN p.2 ((cs ++ [c]).map (·.2)) (cAfter dn e) = putA (putN p.2 (cs.map (·.2)) (cAfter dn e)) c.2 (getA (putN p.2 (cs.map (·.2)) (cAfter dn e)) c.2 + p.2) := by simp [putN]
        have e7 := fPut_dL D.int (putN p.2 (cs.map (·.2)) (cAfter dn e)) c.2 (getA (putN p.2 (cs.map (·.2)) (cAfter dn e)) c.2 + p.2) (by omega)
        rw [← e6] at e7
        simp only [b1_how_many_ways]
        simp [get2_DCr, isDct_dL, wrAt, e7, -List.map_append]) t.2.2
      have e0 : putN p.2 (([] : List (Int × Lot)).map (·.2)) (cAfter dn e) = cAfter dn e := rfl
      rw [e0] at L3
      have e1 : putN p.2 ((behind p.1 e).map (·.2)) (cAfter dn e) = cAfter (dn ++ [p]) e := by rw [cAfter_snoc]; rfl
      rw [e1] at L3
      refine ⟨_, (some (.sh (eL p.1)), some (.sh (.int p.2)), t3), by simp; rfl, ?_⟩
      simp only [b2_how_many_ways]
      simp [frz1, eb, L3]) t.2.2
    have e0 : DC (cAfter [] e) = .dt [] := rfl
    rw [e0] at L2
    refine ⟨_, (some (.sh (encEv e)), some (.sh (DC (cAfter (cl done) e))), t2), by simp; rfl, ?_⟩
    rw [s1_snoc]
    cases done <;> simp [b3_how_many_ways, frz1, s1, itemsD_dL, L2]) (none, none, none, none, none, none)
  have e0 : s1 [] = .ow (.dt [([], .int 1)]) := rfl
  rw [e0] at L
  have e1 : fPut (.tup []) (.int 1) (.dt []) = some (.dt [([], .int 1)]) := rfl
  have e2 : ∃ s, s1 evs = s ∧ s.d = DC (cl evs) ∧ (s = .ow (DC (cl evs)) ∨ s = .sh (DC (cl evs))) := by cases evs <;> exact ⟨_, rfl, rfl, by simp [s1]⟩
  obtain ⟨s, e2, e3, e4⟩ := e2
  rw [e2] at L
  simp [o_how_many_ways, f_how_many_ways, frz1, r_check_day h, oTup, e1, L]
  rcases e4 with rfl | rfl <;> simp [vals_dL, sum_ints]
/-! ### backwards -/
theorem r_any_new (st : Sto) (l : Lot) (e : Ev) (r : List Lot) (g : Tg) (p : P) (ρ : Lo) (hg : ∀ x : Int × Lot, ∃ ρ1, g.f (encP x) ρ = some ρ1 ∧ p ρ1 st = some (.sh (.bl (decide (x.2 ∈ r))), st)) :
    lcL g none p ρ ((behind l e).map encP) st = some ((news l e).map fun x => .bl (decide (x ∈ r)), st) := by
  rw [lcL_pre encP g p ρ st (fun x => .bl (decide (x.2 ∈ r))) (behind l e) fun x _ => by
    obtain ⟨ρ1, e1, e2⟩ := hg x
    exact ⟨ρ1, _, e1, e2, rfl⟩]
  simp [news, Function.comp]
theorem inN_DKr (neg : Bool) (ks : List Lot) (k : Lot) (st : Sto) : oInN neg [.sh (eL k), .ro (DK ks)] st = some (.sh (.bl (if neg then !decide (k ∈ ks) else decide (k ∈ ks))), st) := inN_DK neg ks k st _ rfl
theorem inN_DKs (neg : Bool) (ks : List Lot) (k : Lot) (st : Sto) : oInN neg [.sh (eL k), .sh (DK ks)] st = some (.sh (.bl (if neg then !decide (k ∈ ks) else decide (k ∈ ks))), st) := inN_DK neg ks k st _ rfl
/-- the dict comprehension of the lots that are kept -/
theorem dc_filter (st : Sto) (ks : List Lot) (n : ks.Nodup) (hl : ks.length ≤ 128) (t : Lot → Bool) (g : Tg) (c k : P) (ρ : Lo) (h : ∀ l ∈ ks, ∃ ρ1, g.f (eL l) ρ = some ρ1 ∧ c ρ1 st = some (.sh (.bl (t l)), st) ∧ k ρ1 st = some (.sh (eL l), st)) :
    dcL g (some c) k (pC (.bl true)) ρ (ks.map eL) (.dt []) st = some (DK (ks.filter t), st) := by
  have := dcL_preIf eL g c k (pC (.bl true)) ρ st (fun done => DK (done.filter t)) ks fun done x rest ed => by
    obtain ⟨ρ1, e1, e2, e3⟩ := h x (by rw [ed]; simp)
    refine ⟨ρ1, _, t x, e1, e2, rfl, fun z => by simp [List.filter_append, z], fun z => ⟨_, _, .bl true, e3, rfl, rfl, ?_⟩⟩
    have h1 : (done.filter t).length ≤ 128 := by
      have := List.length_filter_le t done
      have h2 : done.length ≤ ks.length := by rw [ed]; simp
      omega
    rw [dS_tup, put_DK _ _ (by omega)]
    have hx : x ∉ done.filter t := fun z2 => by
      rw [ed] at n
      exact (List.nodup_append.mp n).2.2 x (List.mem_filter.mp z2).1 x (by simp) rfl
    simp [List.filter_append, z, addK, hx]
  exact this
end K80

end

section
namespace K80
open PySem PySem.Spec L2 PL
theorem rng_down (n : Nat) : rngL ((n : Int) - 1) (-1) n = (List.range n).map fun i => .int ((n - 1 - i : Nat) : Int) := by
  unfold rngL
  refine List.map_congr_left fun i hi => ?_
  rw [List.mem_range] at hi
  congr 1; omega
theorem range_split {n : Nat} {done rest : List Nat} {x : Nat} (h : List.range n = done ++ x :: rest) : x = done.length ∧ x < n := by
  have h1 : (List.range n)[done.length]? = some x := by rw [h]; simp
  have h2 : done.length < n := by
    have := congrArg List.length h
    simp at this; omega
  rw [List.getElem?_range h2] at h1
  injection h1 with h1
  exact ⟨h1.symm, by omega⟩
section
variable {g : Lot → Bool} {last : List Lot} {evs : List Ev}
def cur (g : Lot → Bool) (last : List Lot) (evs : List Ev) (m : Nat) : List (List Lot) := (rowsL g last evs).drop (evs.length - m)
theorem cur_zero : cur g last evs 0 = [last] := by
  unfold cur rowsL
  rw [List.drop_append_of_le_length (by simp), List.drop_of_length_le (by simp)]; rfl
theorem cur_full : cur g last evs evs.length = rowsL g last evs := by unfold cur; simp
theorem cur_len {m : Nat} (h : m ≤ evs.length) : (cur g last evs m).length = m + 1 := by unfold cur; rw [List.length_drop, rows_len]; omega
theorem cur_step (hl : Last g last evs) {x : Nat} (hx : x < evs.length) {e : Ev} (he : evs[evs.length - 1 - x]? = some e) : ∃ r tl, cur g last evs x = r :: tl ∧ cur g last evs (x + 1) = (kl (evs.take (evs.length - 1 - x))).filter (fun l => (news l e).any fun y => decide (y ∈ r)) :: r :: tl := by
  have h1 : evs.length - x = evs.length - 1 - x + 1 := by omega
  have h2 : evs.length - (x + 1) = evs.length - 1 - x := by omega
  unfold cur
  rw [h1, h2]
  generalize hk : evs.length - 1 - x = k at *
  have hlen : k + 1 < (rowsL g last evs).length := by rw [rows_len]; omega
  have e1 := List.drop_eq_getElem_cons hlen
  have hr : (rowsL g last evs)[k + 1]? = some (rowsL g last evs)[k + 1] := List.getElem?_eq_getElem hlen
  have e2 := rows_step hl he hr
  have hlen2 : k < (rowsL g last evs).length := by omega
  have e3 := List.drop_eq_getElem_cons hlen2
  refine ⟨_, _, e1, ?_⟩
  rw [e3, e1]
  congr 1
  exact (List.getElem?_eq_some_iff.mp e2).2
end
theorem take_lvl {m : Int} {evs : List Ev} (h : DayOk m evs) (k : Nat) : Lvl (kl (evs.take k)) := lvl_kl h.m7 fun e he => h.ev e (List.mem_of_mem_take he)
theorem r_c2_kept (st : Sto) (s0 s1 s2 s3 : SV) (l : Lot) (e : Ev) (r : List Lot) (hl : l.length < 1000) (he : e.2.length < 1000) : c2_kept_of [some s0, some s1, some s2, some s3, some (.sh (encEv e)), some (.sh (DK r)), some (.sh (eL l)), none, none] st = some (.sh (.bl ((news l e).any fun y => decide (y ∈ r))), st) := by
  have e1 := r_any_new st l e r (gTup [gName 7, gName 8]) e1_kept_of [some s0, some s1, some s2, some s3, some (.sh (encEv e)), some (.sh (DK r)), some (.sh (eL l)), none, none] fun x => ⟨_, by simp [encP]; rfl, by simp [e1_kept_of, inN_DKs]⟩
  have hb : (behind l e).length ≤ 16777216 := by have := behind_len l e; omega
  simp [c2_kept_of, r_behind_of l e st hl he, clr, e1, hb]
theorem getE {evs : List Ev} {k : Nat} {e : Ev} (h : evs[k]? = some e) : (evs.map encEv)[k]? = some (encEv e) := by simp [h]
theorem r_kept_of {m : Int} {evs : List Ev} (h : DayOk m evs) (st : Sto) : o_kept_of [.sh (encDay m evs)] st = some (.ow (.lst ((rowsL (fun _ => true) (kl evs) evs).map DK)), st) := by
  have hlen := h.len
  have hl : Last (fun _ => true) (kl evs) evs := fun l hl => by simp [hl]
  obtain ⟨t, L⟩ := forL_pre (fun i : Nat => D.int ((evs.length - 1 - i : Nat) : Int)) (gName 3) b3_kept_of st (fun (done : List Nat) (t : Option SV × Option SV × Option SV) => [some (.sh (encDay m evs)), some (.ow (.lst ((levL evs).map DK))), some (.ow (.lst ((cur (fun _ => true) (kl evs) evs done.length).map DK))), t.1, t.2.1, t.2.2, none, none, none]) (List.range evs.length) (fun done x rest ed t => by
    obtain ⟨ex, hx⟩ := range_split ed
    have hk : evs.length - 1 - x < evs.length := by omega
    obtain ⟨e, he⟩ : ∃ e, evs[evs.length - 1 - x]? = some e := ⟨_, List.getElem?_eq_getElem hk⟩
    have heo : EvOk m e := h.ev e (List.mem_of_getElem? he)
    obtain ⟨r, tl, c1, c2⟩ := cur_step hl hx he
    have hlv := take_lvl h (evs.length - 1 - x)
    have g1 := levL_get (evs := evs) (i := evs.length - 1 - x) (by omega)
    have hc : tl.length + 1 ≤ 21 := by
      have := cur_len (g := fun _ => true) (last := kl evs) (evs := evs) (m := x) (by omega)
      rw [c1] at this; simp at this; omega
    refine ⟨_, (some (.sh (.int ((evs.length - 1 - x : Nat) : Int))), some (.sh (encEv e)), some (.sh (DK r))), by simp; rfl, ?_⟩
    rw [List.length_append, List.length_singleton, ← ex, c1, c2]
    have e2 := dc_filter st (kl (evs.take (evs.length - 1 - x))) hlv.1 hlv.len (fun l => (news l e).any fun y => decide (y ∈ r)) (gName 6) c2_kept_of (pVar 6) [some (.sh (encDay m evs)), some (.ow (.lst ((levL evs).map DK))), some (.ow (.lst ((r :: tl).map DK))), some (.sh (.int ((evs.length - 1 - x : Nat) : Int))), some (.sh (encEv e)), some (.sh (DK r)), none, none, none] fun l hl2 => ⟨_, by simp; rfl, by
      have h1 := (hlv.2.1 l hl2).len
      have h2 := (heo.1.mono h.m7).len
      simp [r_c2_kept st _ _ _ _ l e r (by omega) (by omega)], by simp⟩
    simp only [List.map_cons] at e2
    have hc2 : tl.length + 1 + 1 ≤ 16777216 := by omega
    simp only [b3_kept_of]
    simp [he, g1, frz1, clr, src_DK, e2, oLst, hc2]) (none, none, none)
  have e1 : ((cur (fun _ => true) (kl evs) evs (List.range evs.length).length).map DK) = ((rowsL (fun _ => true) (kl evs) evs).map DK) := by simp [cur_full]
  have e0 : ((cur (fun _ => true) (kl evs) evs ([] : List Nat).length).map DK) = [DK (kl evs)] := by simp [cur_zero]
  simp only [e1, e0] at L
  have h1 : -4611686018427387904 ≤ (evs.length : Int) - 1 := by omega
  have h2 : (evs.length : Int) - 1 < 4611686018427387904 := by omega
  simp [o_kept_of, f_kept_of, frz1, r_levels_of h, levL_last, oLst, rng_down, h1, h2, L]
/-! ### way_to -/
theorem r_c3_way (st : Sto) (s0 s1 s2 s3 s4 : SV) (t7 t8 : Option SV) (l : Lot) (e : Ev) (r : List Lot) (hl : l.length < 1000) (he : e.2.length < 1000) : c3_way_to [some s0, some s1, some s2, some s3, some s4, some (.sh (encEv e)), some (.sh (DK r)), t7, t8, none, some (.sh (eL l)), none, none] st = some (.sh (.bl ((news l e).any fun y => decide (y ∈ r))), st) := by
  have e1 := r_any_new st l e r (gTup [gName 9, gName 11]) e2_way_to [some s0, some s1, some s2, some s3, some s4, some (.sh (encEv e)), some (.sh (DK r)), t7, t8, none, some (.sh (eL l)), none, none] fun x => ⟨_, by simp [encP]; rfl, by simp [e2_way_to, inN_DKs]⟩
  have hb : (behind l e).length ≤ 16777216 := by have := behind_len l e; omega
  simp [c3_way_to, r_behind_of l e st hl he, clr, e1, hb]
def wayT (g : Lot → Bool) (evs : List Ev) : Option (List Int) := if reach g [] evs = true then some (wpath g [] evs) else none
theorem rows_head {g : Lot → Bool} {last : List Lot} {evs : List Ev} (hl : Last g last evs) (hs : ∀ l ∈ last, l ∈ kl evs) : ∃ r tl, rowsL g last evs = r :: tl ∧ (∀ l, l ∈ r ↔ l = [] ∧ reach g [] evs = true) := by
  have hlen := rows_len (g := g) (last := last) (evs := evs)
  cases hr : rowsL g last evs with
  | nil => rw [hr] at hlen; simp at hlen
  | cons r tl =>
    refine ⟨r, tl, rfl, fun l => ?_⟩
    have h0 : (rowsL g last evs)[0]? = some r := by rw [hr]; rfl
    have h1 := rows_mem hl h0 (l := l)
    simp only [List.take_zero, List.drop_zero, kl_nil, List.mem_singleton] at h1
    constructor
    · intro hx
      have : l = [] := by
        cases evs with
        | nil =>
          simp [rowsL] at hr
          have := hs l (by rw [hr.1]; exact hx)
          simpa [kl] using this
        | cons e evs =>
          have h2 := rows_get (g := g) (last := last) (evs := e :: evs) (i := 0) (by simp)
          rw [h0] at h2
          injection h2 with h2
          rw [h2] at hx
          simpa [kl] using (List.mem_filter.mp hx).1
      subst this
      exact ⟨rfl, (h1 rfl).mp hx⟩
    · rintro ⟨rfl, h2⟩; exact (h1 rfl).mpr h2
theorem r_way_rows {m : Int} {evs : List Ev} (h : DayOk m evs) (ends : List Lot) (st : Sto) (t : Option SV × Option SV × Option SV) : ∃ t' : Option SV × Option SV × Option SV, forL (gName 4) b4_way_to ((List.range evs.length).map fun i => .int ((evs.length - 1 - i : Nat) : Int)) [some (.sh (encDay m evs)), some (.ow (DK ends)), some (.ow (.lst ((levL evs).map DK))), some (.ow (.lst [DK ((kl evs).filter fun l => decide (l ∈ ends))])), t.1, t.2.1, t.2.2, none, none, none, none, none, none] st =
    some (.nx, [some (.sh (encDay m evs)), some (.ow (DK ends)), some (.ow (.lst ((levL evs).map DK))), some (.ow (.lst ((rowsL (fun l => decide (l ∈ ends)) ((kl evs).filter fun l => decide (l ∈ ends)) evs).map DK))), t'.1, t'.2.1, t'.2.2, none, none, none, none, none, none], st) := by
  have hlen := h.len
  generalize hg : (fun l : Lot => decide (l ∈ ends)) = g
  generalize hla : (kl evs).filter g = last
  have hl : Last g last evs := fun l hl => by subst hla; simp [hl]
  obtain ⟨t', L⟩ := forL_pre (fun i : Nat => D.int ((evs.length - 1 - i : Nat) : Int)) (gName 4) b4_way_to st (fun (done : List Nat) (t : Option SV × Option SV × Option SV) => [some (.sh (encDay m evs)), some (.ow (DK ends)), some (.ow (.lst ((levL evs).map DK))), some (.ow (.lst ((cur g last evs done.length).map DK))), t.1, t.2.1, t.2.2, none, none, none, none, none, none]) (List.range evs.length) (fun done x rest ed t => by
    obtain ⟨ex, hx⟩ := range_split ed
    have hk : evs.length - 1 - x < evs.length := by omega
    obtain ⟨e, he⟩ : ∃ e, evs[evs.length - 1 - x]? = some e := ⟨_, List.getElem?_eq_getElem hk⟩
    have heo : EvOk m e := h.ev e (List.mem_of_getElem? he)
    obtain ⟨r, tl, c1, c2⟩ := cur_step hl hx he
    have hlv := take_lvl h (evs.length - 1 - x)
    have g1 := levL_get (evs := evs) (i := evs.length - 1 - x) (by omega)
    have hc : tl.length + 1 ≤ 21 := by
      have := cur_len (g := g) (last := last) (evs := evs) (m := x) (by omega)
      rw [c1] at this; simp at this; omega
    refine ⟨_, (some (.sh (.int ((evs.length - 1 - x : Nat) : Int))), some (.sh (encEv e)), some (.sh (DK r))), by simp; rfl, ?_⟩
    rw [List.length_append, List.length_singleton, ← ex, c1, c2]
    have e2 := dc_filter st (kl (evs.take (evs.length - 1 - x))) hlv.1 hlv.len (fun l => (news l e).any fun y => decide (y ∈ r)) (gName 10) c3_way_to (pVar 10) [some (.sh (encDay m evs)), some (.ow (DK ends)), some (.ow (.lst ((levL evs).map DK))), some (.ow (.lst ((r :: tl).map DK))), some (.sh (.int ((evs.length - 1 - x : Nat) : Int))), some (.sh (encEv e)), some (.sh (DK r)), none, none, none, none, none, none] fun l hl2 => ⟨_, by simp; rfl, by
      have h1 := (hlv.2.1 l hl2).len
      have h2 := (heo.1.mono h.m7).len
      simp [r_c3_way st _ _ _ _ _ _ _ l e r (by omega) (by omega)], by simp⟩
    simp only [List.map_cons] at e2
    have hc2 : tl.length + 1 + 1 ≤ 16777216 := by omega
    simp only [b4_way_to]
    simp [he, g1, frz1, clr, src_DK, e2, oLst, hc2]) t
  have e1 : ((cur g last evs (List.range evs.length).length).map DK) = ((rowsL g last evs).map DK) := by simp [cur_full]
  have e0 : ((cur g last evs ([] : List Nat).length).map DK) = [DK last] := by simp [cur_zero]
  simp only [e1, e0] at L
  exact ⟨t', L⟩
end K80

end

section
namespace K80
open PySem PySem.Spec L2 PL
theorem split_get {α : Type} {xs done rest : List α} {x : α} (h : xs = done ++ x :: rest) : xs[done.length]? = some x := by rw [h]; simp
theorem zip_get {α β : Type} {xs : List α} {ys : List β} {i : Nat} {p : α × β} (h : (xs.zip ys)[i]? = some p) : xs[i]? = some p.1 ∧ ys[i]? = some p.2 := by
  rw [List.getElem?_zip_eq_some] at h; exact h
theorem head_filter {α : Type} {xs : List α} {p q : α → Bool} (h : ∀ x ∈ xs, p x = q x) : (xs.filter p)[0]? = xs.find? q := by
  rw [List.filter_congr h, ← List.head?_eq_getElem?, List.head?_filter]
theorem reach_lens {m : Int} {evs : List Ev} (h : DayOk m evs) {k : Nat} {l : Lot} (hk : l ∈ kl (evs.take k)) : Cars 7 l := (take_lvl h k).2.1 l hk
/-- the state of the walk along the first way -/
def OnWay (g : Lot → Bool) (evs : List Ev) (i : Nat) (here : Lot) (found : List Int) : Prop := here ∈ kl (evs.take i) ∧ reach g here (evs.drop i) = true ∧ found ++ wpath g here (evs.drop i) = wpath g [] evs ∧ found.length = i
theorem way_step {g : Lot → Bool} {last : List Lot} {evs : List Ev} (hl : Last g last evs) {i : Nat} {here : Lot} {found : List Int} (w : OnWay g evs i here found) {e : Ev} (he : evs[i]? = some e) {r : List Lot} (hr : (rowsL g last evs)[i + 1]? = some r) :
    ∃ c n, ((behind here e).filter fun p => decide (p.2 ∈ r))[0]? = some (c, n) ∧ OnWay g evs (i + 1) n (found ++ [c]) ∧ (c, n) ∈ behind here e := by
  obtain ⟨w1, w2, w3, w4⟩ := w
  have hd := drop_next he
  rw [hd] at w2 w3
  obtain ⟨c, n, h1, h2, h3, h4⟩ := wstep_ok w2
  have hn : ∀ p ∈ behind here e, p.2 ∈ kl (evs.take (i + 1)) := fun p hp => by
    rw [kl_next he]; exact mem_kAfter.mpr ⟨here, w1, List.mem_map.mpr ⟨p, hp, rfl⟩⟩
  refine ⟨c, n, ?_, ⟨hn _ h3, h4, ?_, by simp [w4]⟩, h3⟩
  · rw [head_filter (q := fun p => reach g p.2 (evs.drop (i + 1))) fun p hp => by
      rw [Bool.eq_iff_iff, decide_eq_true_eq]; exact rows_mem hl hr (hn p hp)]
    exact h2
  · rw [← w3]; simp [wpath, h1]
theorem len_DKs (ks : List Lot) (st : Sto) : oLen [.sh (DK ks)] st = some (.sh (.int ks.length), st) := len_DK ks st _ rfl
theorem r_way_to {m : Int} {evs : List Ev} (h : DayOk m evs) (ends : List Lot) (st : Sto) : o_way_to [.sh (encDay m evs), .ow (DK ends)] st = some (.sh (encO (wayT (fun l => decide (l ∈ ends)) evs)), st) := by
  have hlen := h.len
  obtain ⟨t1, L1⟩ := r_way_rows h ends st (none, none, none)
  have hlv := lvl_kl h.m7 h.ev
  have e2 := dc_filter st (kl evs) hlv.1 hlv.len (fun l => decide (l ∈ ends)) (gName 10) c1_way_to (pVar 10) [some (.sh (encDay m evs)), some (.ow (DK ends)), some (.ow (.lst ((levL evs).map DK))), none, none, none, none, none, none, none, none, none, none] fun l hl2 => ⟨_, by simp; rfl, by simp [c1_way_to, inN_DKr], by simp⟩
  generalize hg : (fun l : Lot => decide (l ∈ ends)) = g at *
  generalize hla : (kl evs).filter g = last at *
  have hl : Last g last evs := fun l hl => by subst hla; simp [hl]
  have hs : ∀ l ∈ last, l ∈ kl evs := fun l hl => by subst hla; exact (List.mem_filter.mp hl).1
  obtain ⟨r, tl, hr, hh⟩ := rows_head hl hs
  have h1 : -4611686018427387904 ≤ (evs.length : Int) - 1 := by omega
  have h2 : (evs.length : Int) - 1 < 4611686018427387904 := by omega
  have L2 : reach g [] evs = true → ∃ ρ', ∃ found : List Int, found = wpath g [] evs ∧ ρ'[8]? = some (some (.ow (.lst (found.map .int)))) ∧ forL (gTup [gName 5, gName 6]) b6_way_to ((evs.zip tl).map fun p => .tup [encEv p.1, DK p.2]) [some (.sh (encDay m evs)), some (.ow (DK ends)), some (.ow (.lst ((levL evs).map DK))), some (.ow (.lst ((r :: tl).map DK))), t1.1, t1.2.1, t1.2.2, some (.sh (eL [])), some (.ow (.lst [])), none, none, none, none] st = some (.nx, ρ', st) := fun hreach => by
    obtain ⟨ρ', st', f1, ⟨rfl, here, found, s4, s5, s6, s9, f2, w⟩⟩ := forL_st (fun p : Ev × List Lot => D.tup [encEv p.1, DK p.2]) (gTup [gName 5, gName 6]) b6_way_to (fun done ρ st' => st' = st ∧ ∃ here found s4 s5 s6 s9, ρ = [some (.sh (encDay m evs)), some (.ow (DK ends)), some (.ow (.lst ((levL evs).map DK))), some (.ow (.lst ((r :: tl).map DK))), s4, s5, s6, some (.sh (eL here)), some (.ow (.lst (found.map .int))), s9, none, none, none] ∧ OnWay g evs done.length here found) (evs.zip tl) (fun done x rest ed ρ st' P => by
      obtain ⟨rfl, here, found, s4, s5, s6, s9, rfl, w⟩ := P
      have hx := zip_get (split_get ed)
      have hr2 : (rowsL g last evs)[done.length + 1]? = some x.2 := by rw [hr]; simpa using hx.2
      obtain ⟨c, n, w1, w2, w3⟩ := way_step hl w hx.1 hr2
      have heo : EvOk m x.1 := h.ev _ (List.mem_of_getElem? hx.1)
      have l1 := (heo.1.mono h.m7).len
      have l2 := (reach_lens h w.1).len
      have eb := r_behind_of here x.1 st' (by omega) (by omega)
      have hb : (behind here x.1).length ≤ 16777216 := by have := behind_len here x.1; omega
      have e5 := lcL_if encP (gName 12) c5_way_to (pVar 12) [some (.sh (encDay m evs)), some (.ow (DK ends)), some (.ow (.lst ((levL evs).map DK))), some (.ow (.lst ((r :: tl).map DK))), s4, some (.sh (encEv x.1)), some (.sh (DK x.2)), some (.sh (eL here)), some (.ow (.lst (found.map .int))), s9, none, none, none] st' encP (fun p => decide (p.2 ∈ x.2)) (behind here x.1) fun p _ => ⟨_, _, by simp; rfl, by simp [c5_way_to, encP, inN_DKr, inN_DKs]; rfl, rfl, fun _ => ⟨_, by simp; rfl, rfl⟩⟩
      have hf : found.length < 16777216 := by
        have := w.2.2.2
        have : done.length < evs.length := (List.getElem?_eq_some_iff.mp hx.1).1
        omega
      refine ⟨_, [some (.sh (encDay m evs)), some (.ow (DK ends)), some (.ow (.lst ((levL evs).map DK))), some (.ow (.lst ((r :: tl).map DK))), s4, some (.sh (encEv x.1)), some (.sh (DK x.2)), some (.sh (eL n)), some (.ow (.lst ((found ++ [c]).map .int))), some (.sh (.int c)), none, none, none], st', by simp; rfl, ?_, rfl, n, found ++ [c], s4, _, _, _, rfl, by simpa using w2⟩
      simp only [List.map_cons] at e5
      simp [b6_way_to, frz1, eb, clr, hb, e5, w1, encP, wrAt, fApp, hf]) _ st ⟨rfl, [], [], t1.1, t1.2.1, t1.2.2, none, rfl, by simp [kl], by simpa using hreach, by simp, rfl⟩
    have hz : (evs.zip tl).length = evs.length := by
      have := rows_len (g := g) (last := last) (evs := evs)
      rw [hr] at this
      simp at this
      simp [this]
    rw [hz] at w
    refine ⟨ρ', found, ?_, by rw [f2]; rfl, f1⟩
    have := w.2.2.1
    simpa [wpath] using this
  have hz : List.zipWith (fun a b => D.tup [a, b]) (evs.map encEv) (tl.map DK) = (evs.zip tl).map fun p => .tup [encEv p.1, DK p.2] := zip2_map _ _ _ _
  have hlr : (last.map fun k => (k, ())).length = last.length := by simp
  rw [hr] at L1
  simp only [List.map_cons] at L1 L2
  by_cases hreach : reach g [] evs = true
  · obtain ⟨ρ', found, f0, f1, f2⟩ := L2 hreach
    have hr0 : (((r.length : Nat) : Int) == 0) = false := by
      have := List.length_pos_of_mem ((hh []).mpr ⟨rfl, hreach⟩)
      simp; intro z; rw [z] at this; simp at this
    simp only [o_way_to, f_way_to, wayT, hreach, if_true]
    have ee : eL [] = .tup [] := rfl
    rw [ee] at f2
    simp [frz1, r_levels_of h, levL_last, src_DK, clr, e2, oLst, rng_down, h1, h2, L1, len_DKs, eqE_int, hr0, oTup, sliceD, hz, f2, f1, f0, encO]
  · have hr0 : r = [] := by
      cases r with
      | nil => rfl
      | cons x r => exact absurd ((hh x).mp (by simp)).2 hreach
    simp only [o_way_to, f_way_to, wayT, hreach, if_false, Bool.false_eq_true]
    simp [frz1, r_levels_of h, levL_last, src_DK, clr, e2, oLst, rng_down, h1, h2, L1, len_DKs, eqE_int, hr0, encO]
end K80

end

section
namespace K80
open PySem PySem.Spec L2 PL
def stepIn (l : Lot) (b : Bool) (r : List Lot) (c : Int) : Bool := match nStep l b c with | none => false | some n => decide (n ∈ r)
theorem any_step (l : Lot) (e : Ev) (r : List Lot) : e.2.any (stepIn l e.1 r) = (news l e).any fun y => decide (y ∈ r) := by
  rw [Bool.eq_iff_iff, List.any_eq_true, List.any_eq_true]
  constructor
  · rintro ⟨c, hc, h⟩
    unfold stepIn at h
    cases hn : nStep l e.1 c with
    | none => rw [hn] at h; cases h
    | some n => rw [hn] at h; exact ⟨n, mem_news.mpr ⟨c, hc, hn⟩, h⟩
  · rintro ⟨n, hn, h⟩
    obtain ⟨c, hc, hs⟩ := mem_news.mp hn
    exact ⟨c, hc, by unfold stepIn; rw [hs]; exact h⟩
theorem inN_O (o : Option Lot) (r : List Lot) (st : Sto) (s : SV) (hs : dS st s = DK r) : oInN false [.sh (encO o), s] st = some (.sh (.bl (match o with | none => false | some n => decide (n ∈ r))), st) := by
  cases o with
  | none => exact inN_non false _ _ st s hs
  | some n => simp only [encO]; rw [inN_DK false r n st s hs]; rfl
theorem inN_Os (o : Option Lot) (r : List Lot) (st : Sto) : oInN false [.sh (encO o), .sh (DK r)] st = some (.sh (.bl (match o with | none => false | some n => decide (n ∈ r))), st) := inN_O o r st _ rfl
theorem dictT_lots (goals : List Lot) (n : goals.Nodup) (hl : goals.length ≤ 128) (st : Sto) : oDictT [.ow (.lst (goals.map fun l => .tup [eL l, .bl true]))] st = some (.ow (DK goals), st) := by
  have e1 : pairsT (goals.map fun l => .tup [eL l, .bl true]) = some ((goals.map fun k => (k, ())).map fun p => ((p.1.map Sum.inl : List Key), D.bl true)) := by
    clear n hl
    induction goals with
    | nil => rfl
    | cons l goals ih => simp [pairsT, ih]
  have e2 := mergeA_enc (fun _ : Unit => D.bl true) [] (goals.map fun k => (k, ()))
  have e3 := mergeA_unit [] goals
  simp only [List.map_nil] at e2 e3
  rw [e3, foldK_nodup goals [] (by simpa using n), List.nil_append] at e2
  have e4 : goals.length ≤ 16777216 := by omega
  unfold oDictT hDictT
  simp only [ev_oG, List.map_cons, List.map_nil, dS_lsto, List.length_map, e4, if_true, e1, e2]
  rfl
theorem r_law_lasts {m : Int} {evs : List Ev} (h : DayOk m evs) (goals : List Lot) (hn : goals.Nodup) (hs : ∀ l ∈ goals, l ∈ kl evs) (st : Sto) :
    o__law_lasts [.sh (encDay m evs), .sh (.lst ((levC evs).map DC)), .sh (.lst (goals.map eL))] st = some (.ow (.lst ((rowsL (fun l => decide (l ∈ goals)) goals evs).map DK)), st) := by
  have hlen := h.len
  have hlv := lvl_kl h.m7 h.ev
  have hgl : goals.length ≤ 128 := Nat.le_trans (nodup_sub_len hn hs) hlv.len
  generalize hg : (fun l : Lot => decide (l ∈ goals)) = g
  have hl : Last g goals evs := fun l hl => by subst hg; simp
  obtain ⟨t', L⟩ := forL_pre (fun i : Nat => D.int ((evs.length - 1 - i : Nat) : Int)) (gName 4) b4__law_lasts st (fun (done : List Nat) (t : Option SV × Option SV × Option SV × Option SV × Option SV) => [some (.sh (encDay m evs)), some (.sh (.lst ((levC evs).map DC))), some (.sh (.lst (goals.map eL))), some (.ow (.lst ((cur g goals evs done.length).map DK))), t.1, t.2.1, t.2.2.1, t.2.2.2.1, t.2.2.2.2, none]) (List.range evs.length) (fun done x rest ed t => by
    obtain ⟨ex, hx⟩ := range_split ed
    have hk : evs.length - 1 - x < evs.length := by omega
    obtain ⟨e, he⟩ : ∃ e, evs[evs.length - 1 - x]? = some e := ⟨_, List.getElem?_eq_getElem hk⟩
    have heo : EvOk m e := h.ev e (List.mem_of_getElem? he)
    obtain ⟨r, tl, c1, c2⟩ := cur_step hl hx he
    have hlv := take_lvl h (evs.length - 1 - x)
    have g1 := levC_get (evs := evs) (i := evs.length - 1 - x) (by omega)
    have hc : tl.length + 1 ≤ 21 := by
      have := cur_len (g := g) (last := goals) (evs := evs) (m := x) (by omega)
      rw [c1] at this; simp at this; omega
    have hkk := keys_cl (evs.take (evs.length - 1 - x))
    obtain ⟨t2, L2⟩ := forL_pre (fun p : Lot × Int => eL p.1) (gName 8) b3__law_lasts st (fun (dn : List (Lot × Int)) (t : Option SV) => [some (.sh (encDay m evs)), some (.sh (.lst ((levC evs).map DC))), some (.sh (.lst (goals.map eL))), some (.ow (.lst ((r :: tl).map DK))), some (.sh (.int ((evs.length - 1 - x : Nat) : Int))), some (.sh (.str (wd e.1))), some (.sh (eL e.2)), some (.ow (DK ((dn.map (·.1)).filter fun l => (news l e).any fun y => decide (y ∈ r)))), t, none]) (cl (evs.take (evs.length - 1 - x))) (fun dn p rest2 ed2 t => by
      have hp : p.1 ∈ kl (evs.take (evs.length - 1 - x)) := by rw [← hkk, ed2]; simp
      have h1 := (hlv.2.1 p.1 hp).len
      have hel := (heo.1.mono h.m7).len
      have e1 := lcL_pre D.int (gName 9) e2__law_lasts [some (.sh (encDay m evs)), some (.sh (.lst ((levC evs).map DC))), some (.sh (.lst (goals.map eL))), some (.ow (.lst ((r :: tl).map DK))), some (.sh (.int ((evs.length - 1 - x : Nat) : Int))), some (.sh (.str (wd e.1))), some (.sh (eL e.2)), some (.ow (DK ((dn.map (·.1)).filter fun l => (news l e).any fun y => decide (y ∈ r)))), some (.sh (eL p.1)), none] st (fun c => .bl (stepIn p.1 e.1 r c)) e.2 fun c _ => ⟨_, _, by simp; rfl, by simp [e2__law_lasts, r_step p.1 e.1 c st (by omega), inN_Os]; rfl, rfl⟩
      have hb : e.2.length ≤ 16777216 := by omega
      refine ⟨_, some (.sh (eL p.1)), by simp; rfl, ?_⟩
      have hnd : (dn.map (·.1) ++ p.1 :: rest2.map (·.1)).Nodup := by
        have := hlv.1
        rw [← hkk, ed2] at this
        simpa using this
      have hnm : p.1 ∉ dn.map (·.1) := fun z => (List.nodup_append.mp hnd).2.2 _ z _ (by simp) rfl
      have hlen2 : ((dn.map (·.1)).filter fun l => (news l e).any fun y => decide (y ∈ r)).length < 16777216 := by
        have h2 := List.length_filter_le (fun l => (news l e).any fun y => decide (y ∈ r)) (dn.map (·.1))
        have h3 := hlv.len
        rw [← hkk, ed2] at h3
        simp at h3 h2 ⊢; omega
      have e5 := put_DK ((dn.map (·.1)).filter fun l => (news l e).any fun y => decide (y ∈ r)) p.1 hlen2
      have hnm2 : p.1 ∉ (dn.map (·.1)).filter fun l => (news l e).any fun y => decide (y ∈ r) := fun z => hnm (List.mem_filter.mp z).1
      rw [addK, if_neg hnm2] at e5
      simp only [List.map_cons] at e1
      have e6 := any_step p.1 e r
      cases ha : (news p.1 e).any fun y => decide (y ∈ r) with
      | false =>
        rw [ha] at e6
        simp only [b3__law_lasts]
        simp [frz1, clr, e1, hb, -List.any_eq_false, -List.any_eq_true, e6, List.filter_append, ha, List.filter_cons]
      | true =>
        rw [ha] at e6
        simp only [b3__law_lasts]
        simp [frz1, clr, e1, hb, -List.any_eq_false, -List.any_eq_true, e6, List.filter_append, ha, List.filter_cons, wrAt, e5]) t.2.2.2.2
    have e0 : DK ((([] : List (Lot × Int)).map (·.1)).filter fun l => (news l e).any fun y => decide (y ∈ r)) = .dt [] := rfl
    rw [e0, hkk] at L2
    refine ⟨_, (some (.sh (.int ((evs.length - 1 - x : Nat) : Int))), some (.sh (.str (wd e.1))), some (.sh (eL e.2)), some (.sh (DK ((kl (evs.take (evs.length - 1 - x))).filter fun l => (news l e).any fun y => decide (y ∈ r)))), t2), by simp; rfl, ?_⟩
    rw [List.length_append, List.length_singleton, ← ex, c1, c2]
    have hc2 : 1 + (tl.length + 1) ≤ 16777216 := by omega
    simp only [List.map_cons] at L2
    simp only [b4__law_lasts]
    simp [he, g1, frz1, srcD_dL, L2, oLst, oAdd, hAdd, hc2]) (none, none, none, none, none)
  have e1 : ((cur g goals evs (List.range evs.length).length).map DK) = ((rowsL g goals evs).map DK) := by simp [cur_full]
  have e0 : ((cur g goals evs ([] : List Nat).length).map DK) = [DK goals] := by simp [cur_zero]
  simp only [e1, e0] at L
  have e2 := lcL_pre eL (gName 8) e1__law_lasts [some (.sh (encDay m evs)), some (.sh (.lst ((levC evs).map DC))), some (.sh (.lst (goals.map eL))), none, none, none, none, none, none, none] st (fun l => .tup [eL l, .bl true]) goals fun l _ => ⟨_, _, by simp; rfl, by simp [e1__law_lasts, oTup]; rfl, rfl⟩
  have h1 : -4611686018427387904 ≤ (evs.length : Int) - 1 := by omega
  have h2 : (evs.length : Int) - 1 < 4611686018427387904 := by omega
  have h3 : goals.length ≤ 16777216 := by omega
  simp [o__law_lasts, f__law_lasts, frz1, clr, h3, e2, dictT_lots goals hn hgl, oLst, rng_down, h1, h2, L]
end K80

end

section
namespace K80
open PySem PySem.Spec L2 PL
theorem filter_cars (l : Lot) (b : Bool) (r : List Lot) (xs : List Int) : xs.filter (stepIn l b r) = ((behind l (b, xs)).filter fun p => decide (p.2 ∈ r)).map (·.1) := by
  induction xs with
  | nil => rfl
  | cons c xs ih =>
    have e : behind l (b, c :: xs) = (match nStep l b c with | none => [] | some n => [(c, n)]) ++ behind l (b, xs) := by
      simp only [behind, List.filterMap_cons]
      cases nStep l b c <;> rfl
    rw [e, List.filter_append, List.map_append, ← ih, List.filter_cons]
    unfold stepIn
    cases hn : nStep l b c with
    | none => simp
    | some n => by_cases hr : n ∈ r <;> simp [hr]
theorem encO_none : encO none = .non := rfl
theorem encO_some (l : Lot) : encO (some l) = eL l := rfl
theorem inN_DKsT (ks : List Lot) (st : Sto) (neg : Bool) : oInN neg [.sh (.tup []), .sh (DK ks)] st = some (.sh (.bl (if neg then !decide ([] ∈ ks) else decide ([] ∈ ks))), st) := inN_DKs neg ks [] st
theorem r_first_way {m : Int} {evs : List Ev} (h : DayOk m evs) (goals : List Lot) (hs : ∀ l ∈ goals, l ∈ kl evs) (g : Lot → Bool) (hg : g = fun l => decide (l ∈ goals)) (st : Sto) :
    o__law_first_way [.sh (encDay m evs), .ow (.lst ((rowsL g goals evs).map DK))] st = some (.sh (encO (wayT g evs)), st) := by
  have hlen := h.len
  have hl : Last g goals evs := fun l hl => by subst hg; simp
  obtain ⟨r, tl, hr, hh⟩ := rows_head hl hs
  by_cases hreach : reach g [] evs = true
  · obtain ⟨ρ', st', f1, ⟨rfl, here, found, s4, s5, s6, s7, f2, w⟩⟩ := forL_st (fun p : Ev × Nat => D.tup [.int (p.2 : Nat), encEv p.1]) (gTup [gName 4, gTup [gName 5, gName 6]]) b2__law_first_way (fun done ρ st' => st' = st ∧ ∃ here found s4 s5 s6 s7, ρ = [some (.sh (encDay m evs)), some (.ow (.lst ((rowsL g goals evs).map DK))), some (.sh (eL here)), some (.ow (.lst (found.map .int))), s4, s5, s6, s7] ∧ OnWay g evs done.length here found) (evs.zipIdx 0) (fun done x rest ed ρ st' P => by
      obtain ⟨rfl, here, found, s4, s5, s6, s7, rfl, w⟩ := P
      have hx := split_get ed
      rw [List.getElem?_zipIdx] at hx
      obtain ⟨e, he, rfl⟩ : ∃ e, evs[done.length]? = some e ∧ x = (e, done.length) := by
        cases hz : evs[done.length]? with
        | none => rw [hz] at hx; cases hx
        | some e => rw [hz] at hx; simp at hx; exact ⟨e, rfl, hx.symm⟩
      have hi : done.length < evs.length := (List.getElem?_eq_some_iff.mp he).1
      obtain ⟨r2, hr2⟩ : ∃ r2, (rowsL g goals evs)[done.length + 1]? = some r2 := ⟨_, List.getElem?_eq_getElem (by rw [rows_len]; omega)⟩
      obtain ⟨c, n, w1, w2, w3⟩ := way_step hl w he hr2
      have heo : EvOk m e := h.ev _ (List.mem_of_getElem? he)
      have l1 := (heo.1.mono h.m7).len
      have l2 := (reach_lens h w.1).len
      have hb : e.2.length ≤ 16777216 := by omega
      have e5 := lcL_if D.int (gName 7) c1__law_first_way (pVar 7) [some (.sh (encDay m evs)), some (.ow (.lst ((rowsL g goals evs).map DK))), some (.sh (eL here)), some (.ow (.lst (found.map .int))), some (.sh (.int (done.length : Nat))), some (.sh (.str (wd e.1))), some (.sh (eL e.2)), none] st' D.int (stepIn here e.1 r2) e.2 fun c _ => ⟨_, _, by simp; rfl, by simp [c1__law_first_way, r_step here e.1 c st' (by omega), hr2, inN_Os]; rfl, rfl, fun _ => ⟨_, by simp; rfl, rfl⟩⟩
      have e6 := filter_cars here e.1 r2 e.2
      have e7 : (e.2.filter (stepIn here e.1 r2))[0]? = some c := by
        rw [e6, List.getElem?_map, w1]; rfl
      have hf : found.length < 16777216 := by have := w.2.2.2; omega
      have hst : nStep here e.1 c = some n := (mem_behind.mp w3).2
      refine ⟨_, [some (.sh (encDay m evs)), some (.ow (.lst ((rowsL g goals evs).map DK))), some (.sh (eL n)), some (.ow (.lst ((found ++ [c]).map .int))), some (.sh (.int (done.length : Nat))), some (.sh (.str (wd e.1))), some (.sh (eL e.2)), some (.sh (.int c))], st', by simp; rfl, ?_, rfl, n, found ++ [c], _, _, _, _, rfl, by simpa using w2⟩
      simp [b2__law_first_way, frz1, clr, hb, e5, e7, r_step here e.1 c st' (by omega), hst, encO_some, wrAt, fApp, hf]) _ st ⟨rfl, [], [], none, none, none, none, rfl, by simp [kl], by simpa using hreach, by simp, rfl⟩
    have hz : (evs.zipIdx 0).length = evs.length := by simp
    rw [hz] at w
    have f0 : found = wpath g [] evs := by
      have := w.2.2.1
      simpa [wpath] using this
    have hr0 : [] ∈ r := (hh []).mpr ⟨rfl, hreach⟩
    have hz2 := enum_map encEv evs 0
    have ee : eL [] = .tup [] := rfl
    rw [ee] at f1
    simp only [List.map_nil] at f1
    have hr1 : (rowsL g goals evs)[0]? = some r := by rw [hr]; rfl
    simp only [o__law_first_way, f__law_first_way, wayT, hreach, if_true]
    simp [oTup, hr1, inN_DKsT, hr0, oLst, hz2, f1, f2, f0, encO_some]
  · have hr0 : [] ∉ r := fun z => hreach ((hh []).mp z).2
    have hr1 : (rowsL g goals evs)[0]? = some r := by rw [hr]; rfl
    simp only [o__law_first_way, f__law_first_way, wayT, hreach, if_false, Bool.false_eq_true]
    simp [oTup, hr1, inN_DKsT, hr0, encO_none]
/-! ### inside_by -/
def goIn : Lot → List Ev → List Int → Option Lot
  | l, e :: es, c :: cs => if c ∈ e.2 then ((nStep l e.1 c).bind fun n => goIn n es cs) else none
  | l, _, _ => some l
def insideT (evs : List Ev) (v : List Int) : Option Lot := if v.length = evs.length then goIn [] evs v else none
theorem goIn_step {l : Lot} {evs : List Ev} {v : List Int} {i : Nat} {e : Ev} {c : Int} (h1 : evs[i]? = some e) (h2 : v[i]? = some c) : goIn l (evs.drop i) (v.drop i) = if c ∈ e.2 then ((nStep l e.1 c).bind fun n => goIn n (evs.drop (i + 1)) (v.drop (i + 1))) else none := by
  obtain ⟨h3, h4⟩ := List.getElem?_eq_some_iff.mp h1
  obtain ⟨h5, h6⟩ := List.getElem?_eq_some_iff.mp h2
  rw [List.drop_eq_getElem_cons h3, List.drop_eq_getElem_cons h5, h4, h6]; rfl
theorem one_of {l : Lot} {b : Bool} {xs : List Int} (hn : xs.Nodup) (c : Int) : ((behind l (b, xs)).filter fun p => p.1 == c).map (·.2) = if c ∈ xs then (nStep l b c).toList else [] := by
  induction xs with
  | nil => rfl
  | cons x xs ih =>
    have h1 := List.nodup_cons.mp hn
    have e : behind l (b, x :: xs) = (match nStep l b x with | none => [] | some n => [(x, n)]) ++ behind l (b, xs) := by
      simp only [behind, List.filterMap_cons]
      cases nStep l b x <;> rfl
    rw [e, List.filter_append, List.map_append, ih h1.2]
    by_cases hx : x = c
    · subst hx
      rw [if_neg h1.1]
      cases hs : nStep l b x <;> simp
    · have : (x == c) = false := by simpa using hx
      have hx2 : ¬ c = x := fun z => hx z.symm
      cases hs : nStep l b x <;> simp [this, hx2]
end K80

end

section
namespace K80
open PySem PySem.Spec L2 PL
theorem neE_len (a b : Nat) (st : Sto) : oEqE true [.sh (.int (a : Int)), .sh (.int (b : Int))] st = some (.sh (.bl (decide (a ≠ b))), st) := by
  rw [neE_int]
  congr 4
  rw [Bool.eq_iff_iff]; simp; omega
theorem zlen {α β : Type} {xs : List α} {ys : List β} (h : ys.length = xs.length) : (xs.zip ys).length = xs.length := by simp [h]
theorem goIn_nil {l : Lot} {evs : List Ev} {v : List Int} : goIn l (evs.drop evs.length) (v.drop evs.length) = some l := by
  rw [List.drop_length]; cases List.drop evs.length v <;> rfl
theorem r_inside_by {m : Int} {evs : List Ev} (h : DayOk m evs) (v : List Int) (st : Sto) : o_inside_by [.sh (encDay m evs), .sh (eL v)] st = some (.sh (encO (insideT evs v)), st) := by
  have hlen := h.len
  by_cases hv : v.length = evs.length
  · obtain ⟨ρ', st', H⟩ := forL_ret (fun p : Ev × Int => D.tup [encEv p.1, .int p.2]) (gTup [gName 3, gName 4]) b2_inside_by (fun done ρ st' => st' = st ∧ ∃ here s3 s4 s5, ρ = [some (.sh (encDay m evs)), some (.sh (eL v)), some (.sh (eL here)), s3, s4, s5, none, none] ∧ Cars 7 here ∧ goIn here (evs.drop done.length) (v.drop done.length) = goIn [] evs v) (fun s st' => st' = st ∧ s = .sh .non ∧ goIn [] evs v = none) (evs.zip v) (fun done x rest ed ρ st' P => by
      obtain ⟨rfl, here, s3, s4, s5, rfl, hc, hg⟩ := P
      have hx := zip_get (split_get ed)
      obtain ⟨e, c⟩ := x
      simp only at hx
      have heo : EvOk m e := h.ev _ (List.mem_of_getElem? hx.1)
      have l1 := (heo.1.mono h.m7).len
      have l2 := hc.len
      rw [goIn_step hx.1 hx.2] at hg
      have eb := r_behind_of here e st' (by omega) (by omega)
      have hb : (behind here e).length ≤ 16777216 := by have := behind_len here e; omega
      have e5 := lcL_if encP (gTup [gName 6, gName 7]) c1_inside_by (pVar 7) [some (.sh (encDay m evs)), some (.sh (eL v)), some (.sh (eL here)), some (.sh (encEv e)), some (.sh (.int c)), s5, none, none] st' (fun p => eL p.2) (fun p => p.1 == c) (behind here e) fun p _ => ⟨_, _, by simp [encP]; rfl, by simp [c1_inside_by, eqE_int]; rfl, rfl, fun _ => ⟨_, by simp; rfl, rfl⟩⟩
      have e6 := one_of (l := here) (b := e.1) heo.1.1.nodup c
      have e7 : (((behind here e).filter fun p => p.1 == c).map fun p => eL p.2) = (if c ∈ e.2 then (nStep here e.1 c).toList else []).map eL := by
        rw [← e6, List.map_map]; rfl
      rw [e7] at e5
      by_cases hce : c ∈ e.2
      · have hc2 := heo.1.2 c hce
        have h0 : 0 ≤ c := hc2.1
        have h1 : c ≤ m - 1 := by omega
        rw [if_pos hce] at hg
        simp only [if_pos hce] at e5
        cases hs : nStep here e.1 c with
        | none =>
          rw [hs] at hg e5
          simp only [Option.toList, List.map_nil] at e5
          have en := neE_lst ([] : List Lot) eL (fun x hx => by simp at hx) (.ro (.lst [])) st' rfl false (.ow (.lst [])) rfl
          simp only [List.isEmpty_nil] at en
          refine ⟨_, st', by simp; rfl, .inr ⟨.sh .non, ?_, rfl, rfl, hg.symm⟩⟩
          simp [b2_inside_by, frz1, r_is_integer, h0, h1, eb, clr, hb, e5, oLst, en]
        | some n =>
          rw [hs] at hg e5
          simp only [Option.toList, List.map_cons, List.map_nil] at e5
          have en := neE_lst [n] eL (fun x hx => by simp) (.ro (.lst [eL n])) st' rfl false (.ow (.lst [])) rfl
          refine ⟨_, st', by simp; rfl, .inl ⟨[some (.sh (encDay m evs)), some (.sh (eL v)), some (.sh (eL n)), some (.sh (encEv e)), some (.sh (.int c)), some (.ow (.lst [eL n])), none, none], ?_, rfl, n, _, _, _, rfl, (nStep_cars hc ((heo.1.mono h.m7).2 c hce) hs).1, by simpa using hg⟩⟩
          simp [b2_inside_by, frz1, r_is_integer, h0, h1, eb, clr, hb, e5, oLst, en]
      · rw [if_neg hce] at hg
        simp only [if_neg hce, List.map_nil] at e5
        have en := neE_lst ([] : List Lot) eL (fun x hx => by simp at hx) (.ro (.lst [])) st' rfl false (.ow (.lst [])) rfl
        simp only [List.isEmpty_nil] at en
        by_cases hr : 0 ≤ c ∧ c ≤ m - 1
        · refine ⟨_, st', by simp; rfl, .inr ⟨.sh .non, ?_, rfl, rfl, hg.symm⟩⟩
          simp [b2_inside_by, frz1, r_is_integer, hr.1, hr.2, eb, clr, hb, e5, oLst, en]
        · have hr2 : (decide (0 ≤ c) && decide (c ≤ m - 1)) = false := by
            rw [Bool.eq_false_iff]; intro z; simp only [Bool.and_eq_true, decide_eq_true_eq] at z; exact hr z
          refine ⟨_, st', by simp; rfl, .inr ⟨.sh .non, ?_, rfl, rfl, hg.symm⟩⟩
          simp [b2_inside_by, frz1, r_is_integer, hr2, -Bool.and_eq_false_imp, -Bool.and_eq_true]) [some (.sh (encDay m evs)), some (.sh (eL v)), some (.sh (eL [])), none, none, none, none, none] st ⟨rfl, [], _, _, _, rfl, ⟨List.Pairwise.nil, by simp⟩, rfl⟩
    have hz : List.zipWith (fun a b => D.tup [a, b]) (evs.map encEv) (v.map .int) = (evs.zip v).map fun p => .tup [encEv p.1, .int p.2] := zip2_map _ _ _ _
    have ee : eL [] = .tup [] := rfl
    rw [ee] at H
    have hi : insideT evs v = goIn [] evs v := by unfold insideT; rw [if_pos hv]
    rcases H with ⟨f1, rfl, here, s3, s4, s5, rfl, hc, hg⟩ | ⟨s, f1, rfl, rfl, hg⟩
    · rw [zlen hv, goIn_nil] at hg
      simp [o_inside_by, f_inside_by, frz1, r_check_day h, r_is_tuple, hv, oTup, hz, f1, hi, ← hg, encO_some]
    · simp [o_inside_by, f_inside_by, frz1, r_check_day h, r_is_tuple, hv, oTup, hz, f1, hi, hg, encO_none]
  · have hi : insideT evs v = none := by unfold insideT; rw [if_neg hv]
    rcases Nat.lt_or_gt_of_ne hv with h1 | h1
    · have h2 : ¬ evs.length ≤ v.length := by omega
      simp [o_inside_by, f_inside_by, frz1, r_check_day h, r_is_tuple, hi, encO_none, h2]
    · have h2 : ¬ v.length ≤ evs.length := by omega
      simp [o_inside_by, f_inside_by, frz1, r_check_day h, r_is_tuple, hi, encO_none, h2]
theorem r_inside_l {m : Int} {evs : List Ev} (h : DayOk m evs) (v : List D) (st : Sto) : o_inside_by [.sh (encDay m evs), .sh (.lst v)] st = some (.sh .non, st) := by
  simp [o_inside_by, f_inside_by, frz1, r_check_day h, r_is_tuple_l]
theorem r_law_inside_l (m : Int) (evs : List Ev) (v : List D) (st : Sto) : o__law_inside [.sh (encDay m evs), .sh (.lst v)] st = some (.sh .non, st) := by
  simp [o__law_inside, f__law_inside, oIsi, hIsi, tyN]
theorem isO_none (o : Option Lot) (st : Sto) (b : Bool) : oIs b [.sh (encO o), .sh .non] st = some (.sh (.bl (if b then o.isSome else o.isNone)), st) := by
  cases o <;> simp [encO]
theorem r_law_inside {m : Int} {evs : List Ev} (h : DayOk m evs) (v : List Int) (st : Sto) : o__law_inside [.sh (encDay m evs), .sh (eL v)] st = some (.sh (encO (insideT evs v)), st) := by
  have hlen := h.len
  have ht : ∀ xs : List D, oIsi "tuple" [.sh (.tup xs)] st = some (.sh (.bl true), st) := fun xs => by simp [oIsi, hIsi, tyN]
  by_cases hv : v.length = evs.length
  · obtain ⟨ρ', st', H⟩ := forL_ret (fun p : Int × Ev => D.tup [.int p.1, encEv p.2]) (gTup [gName 3, gTup [gName 4, gName 5]]) b1__law_inside (fun done ρ st' => st' = st ∧ ∃ here s3 s4 s5, ρ = [some (.sh (encDay m evs)), some (.sh (eL v)), some (.sh (eL here)), s3, s4, s5] ∧ Cars 7 here ∧ goIn here (evs.drop done.length) (v.drop done.length) = goIn [] evs v) (fun s st' => st' = st ∧ s = .sh .non ∧ goIn [] evs v = none) (v.zip evs) (fun done x rest ed ρ st' P => by
      obtain ⟨rfl, here, s3, s4, s5, rfl, hc, hg⟩ := P
      have hx := zip_get (split_get ed)
      obtain ⟨c, e⟩ := x
      simp only at hx
      have heo : EvOk m e := h.ev _ (List.mem_of_getElem? hx.2)
      have l1 := (heo.1.mono h.m7).len
      have l2 := hc.len
      rw [goIn_step hx.2 hx.1] at hg
      by_cases hce : c ∈ e.2
      · have hc2 := heo.1.2 c hce
        have h0 : 0 ≤ c := hc2.1
        have h1 : c ≤ m - 1 := by omega
        rw [if_pos hce] at hg
        have er := r_step here e.1 c st' (by omega)
        cases hs : nStep here e.1 c with
        | none =>
          rw [hs] at hg er
          refine ⟨_, st', by simp; rfl, .inr ⟨.sh .non, ?_, rfl, rfl, hg.symm⟩⟩
          simp [b1__law_inside, frz1, r_law_int, h0, h1, inN_tup, hce, er, isO_none]
        | some n =>
          rw [hs] at hg er
          refine ⟨_, st', by simp; rfl, .inl ⟨[some (.sh (encDay m evs)), some (.sh (eL v)), some (.sh (eL n)), some (.sh (.int c)), some (.sh (.str (wd e.1))), some (.sh (eL e.2))], ?_, rfl, n, _, _, _, rfl, (nStep_cars hc ((heo.1.mono h.m7).2 c hce) hs).1, by simpa using hg⟩⟩
          simp [b1__law_inside, frz1, r_law_int, h0, h1, inN_tup, hce, er, isO_none, encO_some]
      · rw [if_neg hce] at hg
        cases hr2 : (decide (0 ≤ c) && decide (c ≤ m - 1)) with
        | true =>
          refine ⟨_, st', by simp; rfl, .inr ⟨.sh .non, ?_, rfl, rfl, hg.symm⟩⟩
          simp [b1__law_inside, frz1, r_law_int, hr2, -Bool.and_eq_false_imp, -Bool.and_eq_true, inN_tup, hce]
        | false =>
          refine ⟨_, st', by simp; rfl, .inr ⟨.sh .non, ?_, rfl, rfl, hg.symm⟩⟩
          simp [b1__law_inside, frz1, r_law_int, hr2, -Bool.and_eq_false_imp, -Bool.and_eq_true]) [some (.sh (encDay m evs)), some (.sh (eL v)), some (.sh (eL [])), none, none, none] st ⟨rfl, [], _, _, _, rfl, ⟨List.Pairwise.nil, by simp⟩, rfl⟩
    have hz : List.zipWith (fun a b => D.tup [a, b]) (v.map .int) (evs.map encEv) = (v.zip evs).map fun p => .tup [.int p.1, encEv p.2] := zip2_map _ _ _ _
    have ee : eL [] = .tup [] := rfl
    rw [ee] at H
    have hi : insideT evs v = goIn [] evs v := by unfold insideT; rw [if_pos hv]
    rcases H with ⟨f1, rfl, here, s3, s4, s5, rfl, hc, hg⟩ | ⟨s, f1, rfl, rfl, hg⟩
    · have hz2 : (v.zip evs).length = evs.length := by simp [hv]
      rw [hz2, goIn_nil] at hg
      simp [o__law_inside, f__law_inside, frz1, ht, neE_len, hv, oTup, hz, f1, hi, ← hg, encO_some]
    · simp [o__law_inside, f__law_inside, frz1, ht, neE_len, hv, oTup, hz, f1, hi, hg, encO_none]
  · have hi : insideT evs v = none := by unfold insideT; rw [if_neg hv]
    simp [o__law_inside, f__law_inside, frz1, ht, neE_len, hv, hi, encO_none]
end K80

end

section
namespace K80
open PySem PySem.Spec L2 PL
/-! ### way_in, way_out -/
theorem reach_congr {g g' : Lot → Bool} : ∀ (es : List Ev) (ks : List Lot), (∀ x ∈ es.foldl kAfter ks, g x = g' x) → ∀ l ∈ ks, reach g l es = reach g' l es
  | [], ks, h, l, hl => h l hl
  | e :: es, ks, h, l, hl => by
    simp only [reach]
    have : ∀ x ∈ news l e, reach g x es = reach g' x es := fun x hx => reach_congr es (kAfter ks e) h x (mem_kAfter.mpr ⟨l, hl, hx⟩)
    rw [Bool.eq_iff_iff, List.any_eq_true, List.any_eq_true]
    constructor
    · rintro ⟨x, h1, h2⟩; exact ⟨x, h1, (this x h1) ▸ h2⟩
    · rintro ⟨x, h1, h2⟩; exact ⟨x, h1, (this x h1).symm ▸ h2⟩
theorem find_congr {α : Type} {p q : α → Bool} : ∀ {xs : List α}, (∀ x ∈ xs, p x = q x) → xs.find? p = xs.find? q
  | [], _ => rfl
  | x :: xs, h => by
    rw [List.find?_cons, List.find?_cons, h x (by simp), find_congr (xs := xs) fun y hy => h y (by simp [hy])]
theorem wpath_congr {g g' : Lot → Bool} : ∀ (es : List Ev) (ks : List Lot), (∀ x ∈ es.foldl kAfter ks, g x = g' x) → ∀ l ∈ ks, reach g l es = true → wpath g l es = wpath g' l es
  | [], ks, h, l, hl, _ => rfl
  | e :: es, ks, h, l, hl, hr => by
    have h1 : ∀ p ∈ behind l e, reach g p.2 es = reach g' p.2 es := fun p hp => reach_congr es (kAfter ks e) h p.2 (mem_kAfter.mpr ⟨l, hl, List.mem_map.mpr ⟨p, hp, rfl⟩⟩)
    have e1 : wstep g es l e = wstep g' es l e := by
      unfold wstep
      rw [find_congr h1]
    obtain ⟨c, n, w1, w2, w3, w4⟩ := wstep_ok hr
    simp only [wpath]
    rw [← e1, w1, wpath_congr es (kAfter ks e) h n (mem_kAfter.mpr ⟨l, hl, List.mem_map.mpr ⟨_, w3, rfl⟩⟩) w4]
theorem wayT_congr {g g' : Lot → Bool} {evs : List Ev} (h : ∀ l ∈ kl evs, g l = g' l) : wayT g evs = wayT g' evs := by
  unfold wayT
  have e1 := reach_congr evs [[]] h [] (by simp)
  rw [← e1]
  split
  · next hr => rw [wpath_congr evs [[]] h [] (by simp) hr]
  · rfl
theorem r_way_in {m : Int} {evs : List Ev} (h : DayOk m evs) (c : Int) (hc : 0 ≤ c ∧ c < m) (st : Sto) : o_way_in [.sh (encDay m evs), .sh (.int c)] st = some (.sh (encO (wayT (fun l => decide (c ∈ l)) evs)), st) := by
  have hlv := lvl_kl h.m7 h.ev
  have e2 := dc_filter st (kl evs) hlv.1 hlv.len (fun l => decide (c ∈ l)) (gName 2) c1_way_in (pVar 2) [some (.sh (encDay m evs)), some (.sh (.int c)), none] fun l hl2 => ⟨_, by simp; rfl, by simp [c1_way_in, inN_tup], by simp⟩
  have e3 : wayT (fun l => decide (l ∈ (kl evs).filter fun l => decide (c ∈ l))) evs = wayT (fun l => decide (c ∈ l)) evs := wayT_congr fun l hl => by simp [hl]
  rw [← e3]
  simp [o_way_in, f_way_in, frz1, r_check_car h c hc, r_levels_of h, levL_last, src_DK, clr, e2, r_way_to h]
theorem r_way_out {m : Int} {evs : List Ev} (h : DayOk m evs) (c : Int) (hc : 0 ≤ c ∧ c < m) (st : Sto) : o_way_out [.sh (encDay m evs), .sh (.int c)] st = some (.sh (encO (wayT (fun l => !decide (c ∈ l)) evs)), st) := by
  have hlv := lvl_kl h.m7 h.ev
  have e2 := dc_filter st (kl evs) hlv.1 hlv.len (fun l => !decide (c ∈ l)) (gName 2) c1_way_out (pVar 2) [some (.sh (encDay m evs)), some (.sh (.int c)), none] fun l hl2 => ⟨_, by simp; rfl, by simp [c1_way_out, inN_tup], by simp⟩
  have e3 : wayT (fun l => decide (l ∈ (kl evs).filter fun l => !decide (c ∈ l))) evs = wayT (fun l => !decide (c ∈ l)) evs := wayT_congr fun l hl => by simp [hl]
  rw [← e3]
  simp [o_way_out, f_way_out, frz1, r_check_car h c hc, r_levels_of h, levL_last, src_DK, clr, e2, r_way_to h]
/-! ### cars_of -/
def nextIn (l : Lot) (b : Bool) (g : Lot → Bool) (c : Int) : Bool := match nStep l b c with | none => false | some n => g n
def fineT (evs : List Ev) (i : Nat) (e : Ev) : List Int := e.2.filter fun c => (kl (evs.take i)).any fun l => nextIn l e.1 (fun n => reach (fun _ => true) n (evs.drop (i + 1))) c
def finesT (evs : List Ev) : List (List Int) := evs.zipIdx.map fun p => fineT evs p.2 p.1
/-- what the program gathers of a row -/
def someOf (e : Ev) (now later : List Lot) : List Int := now.flatMap fun l => ((behind l e).filter fun p => decide (p.2 ∈ later)).map (·.1)
theorem mem_someOf {e : Ev} {now later : List Lot} {c : Int} : c ∈ someOf e now later ↔ ∃ l ∈ now, c ∈ e.2 ∧ ∃ n, nStep l e.1 c = some n ∧ n ∈ later := by
  unfold someOf
  rw [List.mem_flatMap]
  constructor
  · rintro ⟨l, hl, h⟩
    obtain ⟨⟨c2, n⟩, hp, rfl⟩ := List.mem_map.mp h
    obtain ⟨h1, h2⟩ := List.mem_filter.mp hp
    obtain ⟨h3, h4⟩ := mem_behind.mp h1
    exact ⟨l, hl, h3, n, h4, by simpa using h2⟩
  · rintro ⟨l, hl, h3, n, h4, h5⟩
    exact ⟨l, hl, List.mem_map.mpr ⟨(c, n), List.mem_filter.mpr ⟨mem_behind.mpr ⟨h3, h4⟩, by simpa using h5⟩, rfl⟩⟩
theorem some_fine {m : Int} {evs : List Ev} (h : DayOk m evs) {i : Nat} {e : Ev} (he : evs[i]? = some e) {now later : List Lot} (h1 : (rowsL (fun _ => true) (kl evs) evs)[i]? = some now) (h2 : (rowsL (fun _ => true) (kl evs) evs)[i + 1]? = some later) : usort (someOf e now later) = fineT evs i e := by
  have hl : Last (fun _ => true) (kl evs) evs := fun l hl => by simp [hl]
  have hi : i < evs.length := (List.getElem?_eq_some_iff.mp he).1
  have heo : EvOk m e := h.ev _ (List.mem_of_getElem? he)
  have hnow := rows_get (g := fun _ => true) (last := kl evs) hi
  rw [h1] at hnow
  injection hnow with hnow
  refine rise_ext (usort_sorted _) (heo.1.1.sublist List.filter_sublist) fun c => ?_
  rw [usort_mem, mem_someOf]
  unfold fineT
  rw [List.mem_filter, List.any_eq_true]
  have key : ∀ l ∈ kl (evs.take i), ∀ n, nStep l e.1 c = some n → c ∈ e.2 → (n ∈ later ↔ reach (fun _ => true) n (evs.drop (i + 1)) = true) := fun l hk n hs hc => rows_mem hl h2 (by rw [kl_next he]; exact mem_kAfter.mpr ⟨l, hk, mem_news.mpr ⟨c, hc, hs⟩⟩)
  constructor
  · rintro ⟨l, hln, hc, n, hs, hn⟩
    rw [hnow] at hln
    have hk := (List.mem_filter.mp hln).1
    refine ⟨hc, l, hk, ?_⟩
    unfold nextIn
    rw [hs]
    exact (key l hk n hs hc).mp hn
  · rintro ⟨hc, l, hk, hx⟩
    unfold nextIn at hx
    cases hs : nStep l e.1 c with
    | none => rw [hs] at hx; cases hx
    | some n =>
      rw [hs] at hx
      refine ⟨l, ?_, hc, n, hs, (key l hk n hs hc).mpr hx⟩
      rw [hnow, List.mem_filter]
      refine ⟨hk, ?_⟩
      rw [drop_next he]
      simp only [reach, List.any_eq_true]
      exact ⟨n, mem_news.mpr ⟨c, hc, hs⟩, hx⟩
theorem someOf_len (e : Ev) (now later : List Lot) : (someOf e now later).length ≤ now.length * e.2.length := by
  unfold someOf
  induction now with
  | nil => simp
  | cons l now ih =>
    rw [List.flatMap_cons, List.length_append, List.length_cons, Nat.add_mul, Nat.one_mul, Nat.add_comm]
    refine Nat.add_le_add ih ?_
    rw [List.length_map]
    exact Nat.le_trans (List.length_filter_le _ _) (behind_len l e)
theorem r_cars_of {m : Int} {evs : List Ev} (h : DayOk m evs) (st : Sto) : o_cars_of [.sh (encDay m evs)] st = some (.sh (.tup ((finesT evs).map eL)), st) := by
  have hlen := h.len
  generalize hR : rowsL (fun _ => true) (kl evs) evs = R
  have hRl : R.length = evs.length + 1 := by rw [← hR, rows_len]
  obtain ⟨t, L⟩ := forL_pre (fun p : Ev × List Lot × List Lot => D.tup [encEv p.1, DK p.2.1, DK p.2.2]) (gTup [gName 3, gName 4, gName 5]) b3_cars_of st (fun (done : List (Ev × List Lot × List Lot)) (t : Option SV × Option SV × Option SV × Option SV × Option SV) => [some (.sh (encDay m evs)), some (.sh (.lst (R.map DK))), some (.ow (.lst (done.map fun p => eL (usort (someOf p.1 p.2.1 p.2.2))))), t.1, t.2.1, t.2.2.1, t.2.2.2.1, t.2.2.2.2, none, none]) (evs.zip (R.zip (R.drop 1))) (fun done x rest ed t => by
    have hx := zip_get (split_get ed)
    obtain ⟨e, now, later⟩ := x
    have hx2 := zip_get hx.2
    simp only at hx hx2
    have heo : EvOk m e := h.ev _ (List.mem_of_getElem? hx.1)
    have l1 := (heo.1.mono h.m7).len
    have hnow : ∀ l ∈ now, l ∈ kl (evs.take done.length) := fun l hl => by
      have h0 := hx2.1
      rw [← hR, rows_get (List.getElem?_eq_some_iff.mp hx.1).1] at h0
      injection h0 with h0
      rw [← h0] at hl
      exact (List.mem_filter.mp hl).1
    have hnl : now.length ≤ 128 := by
      have h0 := hx2.1
      rw [← hR, rows_get (List.getElem?_eq_some_iff.mp hx.1).1] at h0
      injection h0 with h0
      rw [← h0]
      exact Nat.le_trans (List.length_filter_le _ _) (take_lvl h _).len
    obtain ⟨t2, L2⟩ := forL_pre eL (gName 7) b2_cars_of st (fun (dn : List Lot) (t : Option SV) => [some (.sh (encDay m evs)), some (.sh (.lst (R.map DK))), some (.ow (.lst (done.map fun p => eL (usort (someOf p.1 p.2.1 p.2.2))))), some (.sh (encEv e)), some (.sh (DK now)), some (.sh (DK later)), some (.ow (.lst ((someOf e dn later).map .int))), t, none, none]) now (fun dn l rest2 ed2 t => by
      have l2 := (reach_lens h (hnow l (by rw [ed2]; simp))).len
      have eb := r_behind_of l e st (by omega) (by omega)
      have hb : (behind l e).length ≤ 16777216 := by have := behind_len l e; omega
      have e5 := lcL_if encP (gTup [gName 8, gName 9]) c1_cars_of (pVar 8) [some (.sh (encDay m evs)), some (.sh (.lst (R.map DK))), some (.ow (.lst (done.map fun p => eL (usort (someOf p.1 p.2.1 p.2.2))))), some (.sh (encEv e)), some (.sh (DK now)), some (.sh (DK later)), some (.ow (.lst ((someOf e dn later).map .int))), some (.sh (eL l)), none, none] st (fun p => .int p.1) (fun p => decide (p.2 ∈ later)) (behind l e) fun p _ => ⟨_, _, by simp [encP]; rfl, by simp [c1_cars_of, inN_DKs]; rfl, rfl, fun _ => ⟨_, by simp; rfl, rfl⟩⟩
      have e6 : someOf e (dn ++ [l]) later = someOf e dn later ++ ((behind l e).filter fun p => decide (p.2 ∈ later)).map (·.1) := by simp [someOf]
      have h7 := someOf_len e dn later
      have h8 : dn.length ≤ 128 := by have := hnl; rw [ed2] at this; simp at this; omega
      have h9 : dn.length * e.2.length ≤ 128 * 7 := Nat.mul_le_mul h8 l1
      have h10 : ((behind l e).filter fun p => decide (p.2 ∈ later)).length ≤ 7 := by have := List.length_filter_le (fun p : Int × Lot => decide (p.2 ∈ later)) (behind l e); have := behind_len l e; omega
      have h11 : (someOf e dn later).length + ((behind l e).filter fun p => decide (p.2 ∈ later)).length ≤ 16777216 := by omega
      refine ⟨_, some (.sh (eL l)), by simp; rfl, ?_⟩
      rw [e6]
      simp [b2_cars_of, frz1, eb, clr, hb, e5, wrAt, fExt, h11, Function.comp]) t.2.2.2.2
    have e0 : (someOf e [] later).map D.int = [] := rfl
    rw [e0] at L2
    have h7 := someOf_len e now later
    have h9 : now.length * e.2.length ≤ 128 * 7 := Nat.mul_le_mul hnl l1
    have hu : (usort (someOf e now later)).length < 64 := by
      have : ∀ x ∈ usort (someOf e now later), x ∈ e.2 := fun x hx => by
        obtain ⟨l, _, hc, _⟩ := mem_someOf.mp (usort_mem.mp hx)
        exact hc
      have := nodup_sub_len (Rise.nodup (usort_sorted _)) this
      omega
    have hs : (someOf e now later).length + 1 < 4096 := by omega
    have hd : done.length < 16777216 := by have := (List.getElem?_eq_some_iff.mp hx.1).1; omega
    refine ⟨_, (some (.sh (encEv e)), some (.sh (DK now)), some (.sh (DK later)), some (.ow (.lst ((someOf e now later).map .int))), t2), by simp; rfl, ?_⟩
    simp [b3_cars_of, oLst, frz1, src_DK, L2, seqInts, hs, hu, wrAt, fApp, hd]) (none, none, none, none, none)
  have hz := zip3_map encEv DK DK evs R (R.drop 1)
  have e1 : (evs.zip (R.zip (R.drop 1))).map (fun p => usort (someOf p.1 p.2.1 p.2.2)) = finesT evs := by
    refine List.ext_getElem? fun i => ?_
    unfold finesT
    rw [List.getElem?_map, List.getElem?_map, List.getElem?_zipIdx]
    cases he : evs[i]? with
    | none =>
      have : (evs.zip (R.zip (R.drop 1)))[i]? = none := by
        rw [List.getElem?_eq_none_iff] at he ⊢
        simp; omega
      rw [this]; rfl
    | some e =>
      have hi : i < evs.length := (List.getElem?_eq_some_iff.mp he).1
      obtain ⟨now, hn⟩ : ∃ r, R[i]? = some r := ⟨_, List.getElem?_eq_getElem (by omega)⟩
      obtain ⟨later, hl⟩ : ∃ r, R[i + 1]? = some r := ⟨_, List.getElem?_eq_getElem (by omega)⟩
      have : (evs.zip (R.zip (R.drop 1)))[i]? = some (e, now, later) := by
        rw [List.getElem?_zip_eq_some]
        refine ⟨he, ?_⟩
        rw [List.getElem?_zip_eq_some]
        refine ⟨hn, ?_⟩
        rw [List.getElem?_drop, Nat.add_comm]; exact hl
      rw [this]
      subst hR
      simp only [Option.map_some]
      rw [some_fine h he hn hl]; simp
  have e2 : (evs.zip (R.zip (R.drop 1))).map (fun p => eL (usort (someOf p.1 p.2.1 p.2.2))) = (finesT evs).map eL := by rw [← e1, List.map_map]; rfl
  rw [e2] at L
  have ek := r_kept_of h st
  rw [hR] at ek
  simp only [List.map_nil] at L
  rw [List.map_drop] at hz
  simp [o_cars_of, f_cars_of, frz1, r_check_day h, ek, oLst, sliceD, hz, L, -List.drop_one]
end K80

end

section
namespace K80
open PySem PySem.Spec L2 PL
theorem lvl_sortable {ks : List Lot} (h : Lvl ks) : (∀ k ∈ ks, k ≠ []) ∨ ks.length ≤ 1 := by
  obtain ⟨h1, h2, s, h3⟩ := h
  by_cases hs : s = 0
  · right
    refine Nat.le_trans (nodup_sub_len (b := [[]]) h1 fun x hx => ?_) (Nat.le_refl _)
    have := h3 x hx
    rw [hs] at this
    simp [List.length_eq_zero_iff.mp this]
  · left
    intro k hk e
    have := h3 k hk
    rw [e] at this
    exact hs this.symm
theorem sorted_DK {ks : List Lot} (h : Lvl ks) (st : Sto) : oSorted [.sh (DK ks)] st = some (.ow (.lst ((sortK ks).map eL)), st) := by
  have h1 := sortable_tups ks (by have := h.len; omega) (lvl_sortable h)
  have h2 := sort_tups ks
  have h3 := src_DK ks
  have e : hSorted [DK ks] = (srcD (DK ks)).bind fun ds => if sortable ds = true then some (.ow (.lst (ds.mergeSort leD))) else none := rfl
  simp only [oSorted, ev_oG, List.map_cons, List.map_nil, dS_dLs, e, h3, Option.bind_some, h1, if_true, h2]
  rfl
theorem sorted_DC {es : List (Lot × Int)} (h : Lvl (es.map (·.1))) (st : Sto) : oSorted [.sh (DC es)] st = some (.ow (.lst ((sortK (es.map (·.1))).map eL)), st) := by
  have h1 := sortable_tups (es.map (·.1)) (by have := h.len; omega) (lvl_sortable h)
  have h2 := sort_tups (es.map (·.1))
  have h3 := srcD_dL D.int es
  have h4 : (es.map fun p => D.tup (p.1.map .int)) = (es.map (·.1)).map fun k => .tup (k.map .int) := by rw [List.map_map]; rfl
  rw [h4] at h3
  have e : hSorted [DC es] = (srcD (DC es)).bind fun ds => if sortable ds = true then some (.ow (.lst (ds.mergeSort leD))) else none := rfl
  simp only [oSorted, ev_oG, List.map_cons, List.map_nil, dS_dLs, e, h3, Option.bind_some, h1, if_true, h2]
  rfl
theorem r_all_inside {m : Int} {evs : List Ev} (h : DayOk m evs) (st : Sto) : o_all_inside [.sh (encDay m evs)] st = some (.sh (.tup ((sortK (kl evs)).map eL)), st) := by
  simp [o_all_inside, f_all_inside, frz1, r_check_day h, r_levels_of h, levL_last, sorted_DK (lvl_kl h.m7 h.ev)]
theorem r_can_be {m : Int} {evs : List Ev} (h : DayOk m evs) (st : Sto) : o_can_be [.sh (encDay m evs)] st = some (.sh (.bl (decide (kl evs ≠ []))), st) := by
  have e : decide ((0 : Int) < ((kl evs).length : Nat)) = decide (kl evs ≠ []) := by
    rw [decide_eq_decide]
    cases kl evs <;> simp
  simp [o_can_be, f_can_be, frz1, r_check_day h, r_levels_of h, levL_last, len_DKs]
  cases kl evs <;> simp
/-! ### told -/
def wordT (ks : List Lot) (c : Int) : Str := if ks.all (fun l => decide (c ∈ l)) then "sure" else if ks.any (fun l => decide (c ∈ l)) then "open" else "never"
def wordsT (m : Int) (ks : List Lot) : List D := (List.range m.toNat).map fun c => .str (wordT ks (c : Nat))
def toldT (m : Int) (evs : List Ev) : D := if kl evs = [] then .non else .tup (wordsT m (kl evs))
theorem list_DK (ks : List Lot) (st : Sto) : oList [.sh (DK ks)] st = some (.ow (.lst (ks.map eL)), st) := by
  have h3 := src_DK ks
  have e : hList [DK ks] = (srcD (DK ks)).map fun ds => .ow (.lst ds) := rfl
  simp only [oList, ev_oG, List.map_cons, List.map_nil, dS_dLs, e, h3, Option.map_some]
  rfl
theorem word_if (ks : List Lot) (c : Int) (s : SV) (hs : s = .ow (.lst (ks.map fun l => .bl (decide (c ∈ l)))) ∨ s = .ro (.lst (ks.map fun l => .bl (decide (c ∈ l))))) (ρ : Lo) (st : Sto) (i : Nat) (hi : pVar i ρ st = some (s, st)) :
    pIf (pOp oAll (aCons (pVar i) aNil)) (pC (.str "sure")) (pIf (pOp oAny (aCons (pVar i) aNil)) (pC (.str "open")) (pC (.str "never"))) ρ st = some (.sh (.str (wordT ks c)), st) := by
  have e1 : oAll [s] st = some (.sh (.bl (ks.all fun l => decide (c ∈ l))), st) := by rcases hs with rfl | rfl <;> simp
  have e2 : oAny [s] st = some (.sh (.bl (ks.any fun l => decide (c ∈ l))), st) := by rcases hs with rfl | rfl <;> simp
  simp only [ev_pIf, ev_pOp, ev_aCons, ev_aNil, hi, e1, e2, tr_bl, ev_pC]
  unfold wordT
  cases ks.all fun l => decide (c ∈ l) <;> cases ks.any fun l => decide (c ∈ l) <;> rfl
theorem in_list {ks : List Lot} (c : Int) (g : Tg) (p : P) (ρ : Lo) (st : Sto) (h : ∀ l, ∃ ρ1, g.f (eL l) ρ = some ρ1 ∧ p ρ1 st = some (.sh (.bl (decide (c ∈ l))), st)) : lcL g none p ρ (ks.map eL) st = some (ks.map fun l => .bl (decide (c ∈ l)), st) :=
  lcL_pre eL g p ρ st (fun l => .bl (decide (c ∈ l))) ks fun l _ => by
    obtain ⟨ρ1, h1, h2⟩ := h l
    exact ⟨ρ1, _, h1, h2, rfl⟩
theorem r_told {m : Int} {evs : List Ev} (h : DayOk m evs) (st : Sto) : o_told [.sh (encDay m evs)] st = some (.sh (toldT m evs), st) := by
  have hlv := lvl_kl h.m7 h.ev
  have hl := hlv.len
  have hm := h.m7; have hm1 := h.m1
  generalize hk : kl evs = ks at *
  obtain ⟨t, L⟩ := forL_pre (fun i : Nat => D.int (i : Nat)) (gName 3) b2_told st (fun (done : List Nat) (t : Option SV × Option SV) => [some (.sh (encDay m evs)), some (.ow (.lst (ks.map eL))), some (.ow (.lst (done.map fun c => .str (wordT ks (c : Nat))))), t.1, t.2, none]) (List.range m.toNat) (fun done x rest ed t => by
    obtain ⟨ex, hx⟩ := range_split ed
    have e1 := in_list (ks := ks) (x : Nat) (gName 5) e1_told [some (.sh (encDay m evs)), some (.ow (.lst (ks.map eL))), some (.ow (.lst (done.map fun c => .str (wordT ks (c : Nat))))), some (.sh (.int (x : Nat))), t.2, none] st fun l => ⟨_, by simp; rfl, by simp [e1_told, inN_tup]⟩
    have hb : ks.length ≤ 16777216 := by omega
    have hd : done.length < 16777216 := by omega
    have ew := word_if ks (x : Nat) _ (.inr rfl) [some (.sh (encDay m evs)), some (.ow (.lst (ks.map eL))), some (.ow (.lst (done.map fun c => .str (wordT ks (c : Nat))))), some (.sh (.int (x : Nat))), some (.ow (.lst (ks.map fun l => .bl (decide ((x : Int) ∈ l))))), none] st 4 (by simp)
    refine ⟨_, (some (.sh (.int (x : Nat))), some (.ow (.lst (ks.map fun l => .bl (decide ((x : Int) ∈ l)))))), by simp; rfl, ?_⟩
    simp [b2_told, clr, hb, e1, -ev_pIf, ew, wrAt, fApp, hd]) (none, none)
  have hr := rng_map m.toNat
  have h1 : -4611686018427387904 ≤ m := by omega
  have h2 : m < 4611686018427387904 := by omega
  have en := neE_lst ks eL (fun x hx => by simp) (.ro (.lst (ks.map eL))) st rfl false (.ow (.lst [])) rfl
  have ed := r_levels_of h st
  have ell := levL_last evs
  rw [hk] at ell
  simp only [List.map_nil] at L
  unfold toldT wordsT
  rw [hk]
  cases ks with
  | nil =>
    simp only [List.map_nil] at en
    simp [o_told, f_told, frz1, r_check_day h, ed, ell, list_DK, oLst, en]
  | cons l ks =>
    simp only [List.map_cons] at en L
    simp [o_told, f_told, frz1, r_check_day h, ed, ell, list_DK, oLst, en, hr, h1, h2, L]
/-! ### first_wrong -/
def emptyW (evs : List Ev) : List Nat := (((levL evs).drop 1).zipIdx.filter fun p => p.1.isEmpty).map (·.2)
def firstT (evs : List Ev) : D := match emptyW evs with | [] => .non | a :: _ => .int (a : Nat)
theorem levL_cons (evs : List Ev) : levL evs = [[]] :: (levL evs).drop 1 := by
  have h : (levL evs)[0]? = some [[]] := by rw [levL_get (by omega)]; rfl
  cases hl : levL evs with
  | nil => rw [hl] at h; simp at h
  | cons a l => rw [hl] at h; simp at h; rw [h]; rfl
theorem some_empty (evs : List Ev) : ((levL evs).zipIdx.filter fun p => p.1.isEmpty).map (·.2) = (emptyW evs).map (· + 1) := by
  rw [levL_cons]
  unfold emptyW
  generalize (levL evs).drop 1 = ls
  rw [List.zipIdx_cons, List.filter_cons]
  simp only [List.isEmpty_cons, Bool.false_eq_true, if_false]
  suffices ∀ (ls : List (List Lot)) (n : Nat), ((ls.zipIdx (n + 1)).filter fun p => p.1.isEmpty).map (·.2) = (((ls.zipIdx n).filter fun p => p.1.isEmpty).map (·.2)).map (· + 1) by simpa using this ls 0
  intro ls
  induction ls with
  | nil => intro n; rfl
  | cons l ls ih =>
    intro n
    rw [List.zipIdx_cons, List.zipIdx_cons, List.filter_cons, List.filter_cons]
    cases l.isEmpty <;> simp [ih (n + 1)]
theorem kAfter_nil (evs : List Ev) : evs.foldl kAfter [] = [] := by
  induction evs with
  | nil => rfl
  | cons e evs ih => rw [List.foldl_cons]; exact ih
theorem empty_iff (evs : List Ev) : emptyW evs = [] ↔ kl evs ≠ [] := by
  unfold emptyW
  rw [List.map_eq_nil_iff, List.filter_eq_nil_iff]
  constructor
  · intro h hk
    have hn : evs ≠ [] := fun z => by rw [z] at hk; simp [kl] at hk
    have hlen := List.length_pos_iff.mpr hn
    have h0 : (levL evs)[evs.length]? = some [] := by rw [levL_get (Nat.le_refl _), List.take_length, hk]
    have h1 : ((levL evs).drop 1).zipIdx[evs.length - 1]? = some ([], evs.length - 1) := by
      rw [List.getElem?_zipIdx, List.getElem?_drop]
      have : 1 + (evs.length - 1) = evs.length := by omega
      rw [this, h0]; simp
    exact h _ (List.mem_of_getElem? h1) rfl
  · intro h p hp he
    obtain ⟨i, hi⟩ := List.getElem?_of_mem hp
    rw [List.getElem?_zipIdx, List.getElem?_drop] at hi
    cases hz : (levL evs)[1 + i]? with
    | none => rw [hz] at hi; cases hi
    | some ks =>
      rw [hz] at hi
      simp at hi
      have hlt : 1 + i < (levL evs).length := (List.getElem?_eq_some_iff.mp hz).1
      rw [levL_len] at hlt
      rw [levL_get (by omega)] at hz
      injection hz with hz
      rw [← hi] at he
      have he2 : ks = [] := by simpa using he
      have : kl evs = (evs.drop (1 + i)).foldl kAfter (kl (evs.take (1 + i))) := by
        unfold kl
        rw [← List.foldl_append, List.take_append_drop]
      rw [this, hz, he2, kAfter_nil] at h
      exact h rfl
theorem r_first_wrong {m : Int} {evs : List Ev} (h : DayOk m evs) (st : Sto) : o_first_wrong [.sh (encDay m evs)] st = some (.sh (firstT evs), st) := by
  have hlen := h.len
  have hz := enum_map DK (levL evs) 0
  have e1 := lcL_if (fun p : List Lot × Nat => D.tup [.int (p.2 : Nat), DK p.1]) (gTup [gName 2, gName 3]) c1_first_wrong (pVar 2) [some (.sh (encDay m evs)), none, none, none] st (fun p => .int (p.2 : Nat)) (fun p => p.1.isEmpty) ((levL evs).zipIdx 0) fun p _ => ⟨_, .sh (.bl p.1.isEmpty), by simp; rfl, by
    have : (((p.1.length : Nat) : Int) == 0) = p.1.isEmpty := by cases p.1 <;> simp; omega
    simp [c1_first_wrong, len_DKs, eqE_int, this], rfl, fun _ => ⟨_, by simp; rfl, rfl⟩⟩
  have e2 : (((levL evs).zipIdx 0).filter fun p => p.1.isEmpty).map (fun p => D.int (p.2 : Nat)) = (emptyW evs).map fun a => .int ((a : Nat) + 1 : Int) := by
    have := some_empty evs
    have h2 := congrArg (List.map fun a : Nat => D.int (a : Int)) this
    rw [List.map_map, List.map_map] at h2
    exact h2.trans (List.map_congr_left fun a _ => by simp)
  rw [e2] at e1
  have hb : ((levL evs).zipIdx 0).length ≤ 16777216 := by simp [levL_len]; omega
  have hb2 : (levL evs).length ≤ 16777216 := by rw [levL_len]; omega
  have en := neE_lst (emptyW evs) (fun a => D.int ((a : Nat) + 1 : Int)) (fun x hx => by simp) (.ro (.lst ((emptyW evs).map fun a => .int ((a : Nat) + 1 : Int)))) st rfl true (.ow (.lst [])) rfl
  unfold firstT
  cases hw : emptyW evs with
  | nil =>
    rw [hw] at e1 en
    simp only [List.map_nil] at e1 en
    simp [o_first_wrong, f_first_wrong, frz1, r_check_day h, r_levels_of h, hz, clr, hb2, e1, oLst, en]
  | cons a l =>
    rw [hw] at e1 en
    simp only [List.map_cons] at e1 en
    simp [o_first_wrong, f_first_wrong, frz1, r_check_day h, r_levels_of h, hz, clr, hb2, e1, oLst, en]
end K80

end

section
namespace K80
open PySem PySem.Spec L2 PL
theorem r_take {b n : Nat} {st : Sto} (P : Pot b n st) (hb : b < 1099511627776) {u : Int} (hu : 0 < u) (hu2 : u ≤ 1099511627776) : ∃ r st', o__law_take [.sh (.obj n), .sh (.int u)] st = some (.sh (.int r), st') ∧ 0 ≤ r ∧ r < u ∧ Drawn b n st st' := by
  obtain ⟨own, small, k, hp, o1, o2, s1, s2, k1, k2⟩ := P
  have hn : n < st.length := (List.getElem?_eq_some_iff.mp hp).1
  have hd := dS_obj hp
  have ub : Bt 41 u := bt_of (by omega) (by omega)
  by_cases ho : 0 < own
  · have e1 : dS (st.set n (.lst [.int (own / u), .int small, .int k])) (.sh (.obj n)) = .lst [.int (own / u), .int small, .int k] := dS_obj (by simp [hn])
    refine ⟨own % u, st.set n (.lst [.int (own / u), .int small, .int k]), ?_, Int.emod_nonneg _ (by omega), Int.emod_lt_of_pos _ hu, drawn_set ⟨_, hp⟩ (Int.ediv_nonneg o1 (by omega)) ?_ s1 s2 k1 (by omega)⟩
    · simp [o__law_take, f__law_take, oIx, hd, hIx, ho, mod_int hu, fdiv_int hu (ub.mono (by decide)), wrAt, hp, fPut, ixN]
    · have h1 : own / u ≤ own := Int.ediv_le_self _ o1
      have h2 : 0 ≤ own / u := Int.ediv_nonneg o1 (by omega)
      unfold Bt at *
      omega
  · have hk : Bt 42 (k + 1) := bt_of (by omega) (by omega)
    have hs : Bt 61 small := bt_of s1 (by omega)
    have e1 : dS (st.set n (.lst [.int own, .int small, .int (k + 1)])) (.sh (.obj n)) = .lst [.int own, .int small, .int (k + 1)] := dS_obj (by simp [hn])
    obtain ⟨p, hpp, p1, p2⟩ : ∃ p : Int, atI [D.int 2147483647, .int 2147483629, .int 2147483587, .int 2147483579, .int 2147483563] ((k + 1) % 5) = some (.int p) ∧ 0 < p ∧ p ≤ 2147483647 := by
      have h1 := Int.emod_nonneg (k + 1) (by decide : (5 : Int) ≠ 0)
      have h2 := Int.emod_lt_of_pos (k + 1) (by decide : (0 : Int) < 5)
      generalize (k + 1) % 5 = z at h1 h2
      have : z = 0 ∨ z = 1 ∨ z = 2 ∨ z = 3 ∨ z = 4 := by omega
      rcases this with rfl | rfl | rfl | rfl | rfl
      · exact ⟨_, rfl, by decide, by decide⟩
      · exact ⟨_, rfl, by decide, by decide⟩
      · exact ⟨_, rfl, by decide, by decide⟩
      · exact ⟨_, rfl, by decide, by decide⟩
      · exact ⟨_, rfl, by decide, by decide⟩
    refine ⟨(((((small + 96632 * (k + 1) * (k + 1) + 718) ^ 3 % p) * ((small + 96632 * (k + 1) * (k + 1) + 718) ^ 3 % p % 10259 + 122 * (k + 1))) % 2305843009213693907) / 152) % u, st.set n (.lst [.int own, .int small, .int (k + 1)]), ?_, Int.emod_nonneg _ (by omega : u ≠ 0), Int.emod_lt_of_pos _ hu, drawn_set ⟨_, hp⟩ o1 o2 s1 s2 (by omega) (by omega)⟩
    generalize hst : st.set n (.lst [.int own, .int small, .int (k + 1)]) = st2 at e1
    have b1 : Bt 40 96632 := by unfold Bt; decide
    have b2 : Bt 40 122 := by unfold Bt; decide
    have b3 : Bt 40 718 := by unfold Bt; decide
    have m1 := mul_int b1 hk (by decide) st2
    have m2 := mul_int (b1.mul hk) hk (by decide) st2
    have m3 : oPow [.sh (.int (small + 96632 * (k + 1) * (k + 1) + 718)), .sh (.int 3)] st2 = some (.sh (.int ((small + 96632 * (k + 1) * (k + 1) + 718) ^ 3)), st2) := pow_int ((hs.add ((b1.mul hk).mul hk)).add b3) 3 (by decide) st2
    have m4 := mul_int b2 hk (by decide) st2
    have m5 := mul_int (mod_bt (i := (small + 96632 * (k + 1) * (k + 1) + 718) ^ 3) (j := p) (a := 31) p1 (by omega)) ((mod_bt (i := (small + 96632 * (k + 1) * (k + 1) + 718) ^ 3 % p) (j := 10259) (a := 31) (by decide) (by decide)).add (b2.mul hk)) (by decide) st2
    have m6 := fun i => mod_int (i := i) (j := 5) (by decide) st2
    have m7 := fun i => mod_int (i := i) (j := 10259) (by decide) st2
    have m8 := fun i => mod_int (i := i) (j := 2305843009213693907) (by decide) st2
    have m9 := fun i => fdiv_int (i := i) (j := 152) (by decide) (by unfold Bt; decide +kernel) st2
    have q0 : ∀ st, oIx [.sh (.lst [.int own, .int small, .int k]), .sh (.int 2)] st = some (.sh (.int k), st) := fun st => rfl
    simp [o__law_take, f__law_take, oIx, hd, hIx, ho, oLst, wrAt, hp, fPut, ixN, hst, e1, m1, m2, m3, m4, m5, m6, m7, m8, m9, mod_int p1, mod_int hu, hpp]
theorem r_of {b n : Nat} {st : Sto} (P : Pot b n st) (hb : b < 1099511627776) (xs : List D) (hx : xs ≠ []) (hl : xs.length ≤ 1000000) (s : SV) (hs : s = .sh (.lst xs) ∨ s = .ow (.lst xs) ∨ s = .sh (.tup xs)) : ∃ d st', o__law_of [.sh (.obj n), s] st = some (.sh d, st') ∧ d ∈ xs ∧ Drawn b n st st' := by
  have h0 := List.length_pos_iff.mpr hx
  obtain ⟨r, st', e1, r0, r1, dr⟩ := r_take P hb (u := (xs.length : Nat)) (by omega) (by omega)
  obtain ⟨d, hd⟩ : ∃ d, xs[r.toNat]? = some d := ⟨_, List.getElem?_eq_getElem (by omega)⟩
  have ha : atI xs r = some d := by rw [atI_pos _ _ r0]; exact hd
  refine ⟨d, st', ?_, List.mem_of_getElem? hd, dr⟩
  rcases hs with rfl | rfl | rfl <;> simp [o__law_of, f__law_of, frz1, e1, ha]
theorem r_some {b n : Nat} {st : Sto} (P : Pot b n st) (many : Int) (hm0 : 0 ≤ many) (hb : b + many.toNat < 1099511627776) (pool : List D) (hm : many ≤ pool.length) (hl : pool.length ≤ 1000000) (s : SV) (hs : s = .sh (.lst pool) ∨ s = .ow (.lst pool) ∨ s = .sh (.tup pool)) :
    ∃ xs rest st', o__law_some [.sh (.obj n), s, .sh (.int many)] st = some (.ow (.lst xs), st') ∧ (xs ++ rest).Perm pool ∧ xs.length = many.toNat ∧ Pot (b + many.toNat) n st' ∧ (∀ m, m < st.length → m ≠ n → st'[m]? = st[m]?) ∧ st'.length = st.length + 1 := by
  have hn : n < st.length := by obtain ⟨_, _, _, h, _⟩ := P; exact (List.getElem?_eq_some_iff.mp h).1
  obtain ⟨ρ', st', f1, xs, rest, s5, rfl, g1, g2, g3, g4, g5, g6⟩ := forL_st (fun i : Nat => D.int (i : Nat)) (gName 5) b1__law_some (fun done ρ st' => ∃ xs rest s5, ρ = [some (.sh (.obj n)), some s, some (.sh (.int many)), some (.sh (.obj st.length)), some (.ow (.lst xs)), s5] ∧ st'[st.length]? = some (.lst rest) ∧ (xs ++ rest).Perm pool ∧ xs.length = done.length ∧ Pot (b + done.length) n st' ∧ (∀ m, m < st.length → m ≠ n → st'[m]? = st[m]?) ∧ st'.length = st.length + 1) (List.range many.toNat) (fun done x rest0 ed ρ st' Q => by
    obtain ⟨xs, rest, s5, rfl, g1, g2, g3, g4, g5, g6⟩ := Q
    have hr : done.length < many.toNat := by
      have := congrArg List.length ed
      simp at this; omega
    have hrest : rest.length + xs.length = pool.length := by have := g2.length_eq; simp at this; omega
    obtain ⟨r, st2, e1, r0, r1, dr⟩ := r_take g4 (by omega) (u := (rest.length : Nat)) (by omega) (by omega)
    have hne : st.length ≠ n := by omega
    have g7 : st2[st.length]? = some (.lst rest) := by rw [dr.oth _ hne]; exact g1
    obtain ⟨d, hd⟩ : ∃ d, rest[r.toNat]? = some d := ⟨_, List.getElem?_eq_getElem (by omega)⟩
    have hix : ixN rest.length r = some r.toNat := by unfold ixN; rw [if_pos r0, if_pos (by omega)]
    have hd0 := dS_obj g1
    have hd1 := dS_obj g7
    have hx : xs.length < 16777216 := by omega
    refine ⟨_, [some (.sh (.obj n)), some s, some (.sh (.int many)), some (.sh (.obj st.length)), some (.ow (.lst (xs ++ [d]))), some (.sh (.int (x : Nat)))], st2.set st.length (.lst (rest.eraseIdx r.toNat)), by simp; rfl, ?_, xs ++ [d], rest.eraseIdx r.toNat, _, rfl, ?_, ?_, by simp [g3], ?_, fun m hm1 hm2 => ?_, ?_⟩
    · simp [b1__law_some, frz1, isLst, hd0, oLen, hLen, e1, oPopAt, g7, hix, hd, wrAt, fApp, hx]
    · have : st.length < st2.length := by rw [dr.len, g6]; omega
      simp [this]
    · refine List.Perm.trans ?_ g2
      rw [List.append_assoc]
      refine List.Perm.append_left xs ?_
      exact eraseIdx_perm rest _ d hd
    · obtain ⟨o, sm, k, p1, p2⟩ := dr.pot
      refine ⟨o, sm, k, ?_, ?_⟩
      · rw [List.getElem?_set_ne hne]; exact p1
      · rw [List.length_append, List.length_singleton]; exact p2
    · rw [List.getElem?_set_ne (by omega), dr.oth m hm2]; exact g5 m hm1 hm2
    · rw [List.length_set, dr.len, g6]) [some (.sh (.obj n)), some s, some (.sh (.int many)), some (.sh (.obj st.length)), some (.ow (.lst [])), none] (st ++ [.lst pool]) ⟨[], pool, none, rfl, by simp, by simp, rfl, by
      obtain ⟨o, sm, k, p1, p2⟩ := P
      exact ⟨o, sm, k, by rw [List.getElem?_append_left hn]; exact p1, p2⟩, fun m hm1 hm2 => by rw [List.getElem?_append_left hm1], by simp⟩
  rw [List.length_range] at g3 g4
  refine ⟨xs, rest, st', ?_, g2, g3, g4, g5, g6⟩
  have hr := sRng1_int (aCons (pVar 2) aNil) [some (.sh (.obj n)), some s, some (.sh (.int many)), some (.sh (.obj st.length)), some (.ow (.lst [])), none] (st ++ [.lst pool]) (st ++ [.lst pool]) many hm0 (by omega) (by simp)
  rcases hs with rfl | rfl | rfl <;> simp [o__law_some, f__law_some, oLst, -ev_sRng1, hr, f1]
theorem r_places (xs : List D) (most : Nat) (hm : most ≤ 1000) (st : Sto) : o__law_places [.sh (.lst xs), .sh (.int (most : Nat))] st = some (.ow (.lst ((intsUp (max 1 (min (most : Int) (xs.length : Nat)))).map .int)), st) := by
  have h1 : -4611686018427387904 ≤ max 1 (min (most : Int) (xs.length : Nat)) := by omega
  have h2 : max 1 (min (most : Int) (xs.length : Nat)) ≤ 16777216 := by omega
  simp [o__law_places, f__law_places, h1, h2]
theorem r_pot (ns : List Int) (place : Int) (h0 : 0 ≤ place) (h3 : place ≤ 10) (st : Sto) : ∃ own small, o__law_pot [.sh (.lst (ns.map .int)), .sh (.int place)] st = some (.ow (.lst [.int own, .int small, .int 0]), st) ∧ 0 ≤ own ∧ Bt 1000 own ∧ 0 ≤ small ∧ small < 2305843009213693952 := by
  obtain ⟨cell, hc⟩ : ∃ cell, pIf (pOp (oCmp (fun i j => decide (i < j))) (a2 (pVar 1) (pOp oLen (aCons (pVar 0) (aNil))))) (pOp oIx (a2 (pVar 0) (pVar 1))) (pOp oAdd (a2 (pOp oAdd (a2 (pOp oMod (a2 (pOp oSum (aCons (pSlice (pVar 0) ptNo (ptInt (pC (.int 1)))) (aNil))) (pC (.int 1000003)))) (pOp oMul (a2 (pC (.int 12181)) (pVar 1))))) (pC (.int 511)))) [some (.sh (.lst (ns.map .int))), some (.sh (.int place)), none, none, none] st = some (.sh (.int cell), st) := by
    by_cases hp : place < ns.length
    · obtain ⟨c, hc⟩ : ∃ c, ns[place.toNat]? = some c := ⟨_, List.getElem?_eq_getElem (by omega)⟩
      have ha : atI (ns.map D.int) place = some (.int c) := by rw [atI_pos _ _ h0]; simp [hc]
      exact ⟨c, by simp [hp, ha]⟩
    · have hs : oSum [.ow (.lst (cutD (ns.map .int) none (some 1)))] st = some (.sh (.int (ns.take 1).sum), st) := by
        rw [cut_to _ _ (by decide), ← List.map_take]
        simp only [oSum, ev_oG, List.map_cons, List.map_nil, dS_lsto, hSum, intsD_ints, Option.map_some]
        rfl
      have hm := mul_int (i := 12181) (j := place) (a := 20) (b := 20) (by unfold Bt; decide) (bt_of h0 (by omega)) (by decide) st
      exact ⟨(ns.take 1).sum % 1000003 + 12181 * place + 511, by simp [hp, sliceD, hs, mod_int, hm]⟩
  have hp1 : oPow [.sh (.int 10), .sh (.int 60)] st = some (.sh (.int (10 ^ 60)), st) := pow_int (a := 4) (by unfold Bt; decide) 60 (by decide) st
  have hp2 : oPow [.sh (.int (10 ^ 60)), .sh (.int 5)] st = some (.sh (.int ((10 ^ 60) ^ 5)), st) := pow_int (a := 200) (by unfold Bt; decide +kernel) 5 (by decide) st
  have hp3 : oPow [.sh (.int 10), .sh (.int 18)] st = some (.sh (.int (10 ^ 18)), st) := pow_int (a := 4) (by unfold Bt; decide) 18 (by decide) st
  have hq : (0 : Int) < (10 ^ 60) ^ 5 := by decide +kernel
  have hq2 : ((10 : Int) ^ 60) ^ 5 ≤ ((2 ^ 999 : Nat) : Int) := by decide +kernel
  have hmod := fun i => mod_int (i := i) (j := (10 ^ 60) ^ 5) hq st
  have b1 : Bt 999 ((cell.natAbs : Int) % (10 ^ 60) ^ 5) := mod_bt hq hq2
  generalize hT : (if decide ((10 : Int) ^ 18 ≤ (cell.natAbs : Int)) = true then (1 : Int) else 0) = T
  have hT2 : T = 0 ∨ T = 1 := by rw [← hT]; split <;> simp
  have b2 : Bt 1 T := by rcases hT2 with h | h <;> rw [h] <;> unfold Bt <;> decide
  have hm1 := mul_int b1 b2 (by decide) st
  have n1 : 0 ≤ (cell.natAbs : Int) % (10 ^ 60) ^ 5 := Int.emod_nonneg _ (by omega)
  have r1 : 0 ≤ ((cell.natAbs : Int) % (10 ^ 60) ^ 5) * T := Int.mul_nonneg n1 (by omega)
  have b3 := b1.mul b2
  have hms := fun i => mod_int (i := i) (j := 2305843009213693951) (by decide) st
  have hms2 := fun i => mod_int (i := i) (j := 2305843009213693921) (by decide) st
  have b4 : Bt 61 (cell % 2305843009213693951) := mod_bt (by decide) (by decide)
  have hm2 := mul_int (j := 100119) b4 (b := 30) (by unfold Bt; decide) (by decide) st
  have bp : Bt 20 place := bt_of h0 (by omega)
  have b5 : Bt 30 16743 := by unfold Bt; decide
  have hm3 := mul_int b5 bp (by decide) st
  have hm4 := mul_int (b5.mul bp) bp (by decide) st
  refine ⟨((cell.natAbs : Int) % (10 ^ 60) ^ 5) * T, (cell % 2305843009213693951 * 100119 + 16743 * place * place + 918) % 2305843009213693921, ?_, r1, b3, Int.emod_nonneg _ (by decide), ?_⟩
  · generalize hP : ((10 : Int) ^ 60) ^ 5 = Pw at *
    generalize hP2 : (10 : Int) ^ 60 = Pw2 at *
    generalize hP3 : (10 : Int) ^ 18 = Pw3 at *
    simp only [decide_eq_true_eq] at hT
    simp only [o__law_pot, f__law_pot]
    simp [-ev_pIf, hc, hp1, hp2, hp3, hmod, hm1, hms, hms2, hm2, hm3, hm4, frz1, oLst, hT]
  · have := Int.emod_lt_of_pos (cell % 2305843009213693951 * 100119 + 16743 * place * place + 918) (by decide : (0 : Int) < 2305843009213693921)
    omega
end K80

end

section
namespace K80
open PySem PySem.Spec L2 PL
theorem eq_emptyT (l : Lot) (st : Sto) : oEqE false [.sh (eL l), .sh (.tup [])] st = some (.sh (.bl l.isEmpty), st) := by
  have h : eqvL (l.map .int) [] = l.isEmpty := by cases l <;> rfl
  simp [oEqE, dE, oEq, eqv, h]
abbrev wordP : P := pIf (pOr (pOp (oEqE false) (a2 (pVar 4) (pOp oTup (aNil)))) (pAnd (pOp (oEqE true) (a2 (pVar 7) (pOp oLst (aNil)))) (pOp (oCmp (fun i j => decide (j < i))) (a2 (pOp o__law_take (aCons (pVar 0) (aCons (pC (.int 3)) (aNil)))) (pC (.int 0)))))) (pC (.str "in")) (pC (.str "out"))
theorem r_word {b n : Nat} {st : Sto} (P : Pot b n st) (hb : b < 1000000000) (inside : Lot) (outs : List Int) (s1 s2 s3 s5 s6 : SV) (s8 s10 : Option SV) (hne : inside = [] → outs ≠ []) :
    ∃ w st1, wordP [some (.sh (.obj n)), some s1, some s2, some s3, some (.sh (eL inside)), some s5, some s6, some (.ow (.lst (outs.map .int))), s8, none, s10, none] st = some (.sh (.str (wd w)), st1) ∧ Pot (b + 1) n st1 ∧ (w = true → outs ≠ []) ∧ (w = false → inside ≠ []) := by
  by_cases h1 : inside = []
  · refine ⟨true, st, ?_, P.mono (by omega), fun _ => hne h1, by simp⟩
    subst h1
    simp [oTup, eq_emptyT [] st, wd]
  · have h2 := eq_emptyT inside st
    have h3 : inside.isEmpty = false := by cases inside with | nil => exact absurd rfl h1 | cons a l => rfl
    have en := neE_lst outs D.int (fun x hx => by simp) (.ro (.lst (outs.map .int))) st rfl true (.ow (.lst [])) rfl
    by_cases h4 : outs = []
    · refine ⟨false, st, ?_, P.mono (by omega), by simp, fun _ => h1⟩
      subst h4
      simp only [List.map_nil] at en
      simp [oTup, h2, h3, oLst, en, wd]
    · have h5 : outs.isEmpty = false := by cases outs with | nil => exact absurd rfl h4 | cons a l => rfl
      obtain ⟨r, st1, e1, r0, r1, dr⟩ := r_take P (by omega) (u := 3) (by decide) (by decide)
      refine ⟨decide (0 < r), st1, ?_, dr.pot, fun _ => h4, fun _ => h1⟩
      by_cases h6 : 0 < r <;> simp [oTup, h2, h3, oLst, en, h5, e1, h6, wd]
theorem r_others {b n : Nat} {st : Sto} (P : Pot b n st) (hb : b < 1000000000) (m : Int) (h1 : 0 ≤ m) (h7 : m ≤ 7) (s1 s2 s3 s4 s5 s6 s7 s8 s9 : SV) (s10 : Option SV) :
    ∃ (os : List Int) (st1 : Sto), lcL (gName 11) (some c2__law_day) (pVar 11) [some (.sh (.obj n)), some s1, some s2, some s3, some s4, some s5, some s6, some s7, some s8, some s9, s10, none] ((List.range m.toNat).map fun i => .int (i : Nat)) st = some (os.map .int, st1) ∧ Pot (b + 7) n st1 ∧ (∀ x ∈ os, 0 ≤ x ∧ x < m) ∧ os.length ≤ 7 := by
  obtain ⟨ys, st1, e1, os, rfl, q1, q2, q3⟩ := lcL_st (fun i : Nat => D.int (i : Nat)) (gName 11) (some c2__law_day) (pVar 11) [some (.sh (.obj n)), some s1, some s2, some s3, some s4, some s5, some s6, some s7, some s8, some s9, s10, none] (fun done ys st' => ∃ os : List Int, ys = os.map .int ∧ Pot (b + done.length) n st' ∧ (∀ x ∈ os, 0 ≤ x ∧ x < m) ∧ os.length ≤ done.length) (List.range m.toNat) (fun done x rest ed st' ys Q => by
    obtain ⟨os, rfl, q1, q2, q3⟩ := Q
    obtain ⟨ex, hx⟩ := range_split ed
    obtain ⟨r, st2, e1, r0, r1, dr⟩ := r_take q1 (by omega) (u := 3) (by decide) (by decide)
    refine ⟨_, (r == 0), st2, by simp; rfl, ⟨.sh (.bl (r == 0)), by simp [c2__law_day, e1, eqE_int], rfl⟩, fun _ => ⟨os, rfl, by rw [List.length_append]; exact dr.pot, q2, by simp; omega⟩, fun _ => ⟨_, .int (x : Nat), st2, by simp; rfl, rfl, os ++ [(x : Int)], by simp, by rw [List.length_append]; exact dr.pot, fun y hy => ?_, by simp; omega⟩⟩
    rcases List.mem_append.mp hy with hy | hy
    · exact q2 y hy
    · simp at hy; omega) st ⟨[], rfl, P, by simp, by simp⟩
  rw [List.length_range] at q1 q3
  exact ⟨os, st1, e1, q1.mono (by omega), q2, by omega⟩
theorem usort_ev {m : Int} (h7 : m ≤ 7) {os : List Int} {c : Int} (ho : ∀ x ∈ os, 0 ≤ x ∧ x < m) (hc : 0 ≤ c ∧ c < m) (w : Bool) : EvOk m (w, usort (os ++ [c])) := by
  refine ⟨⟨usort_sorted _, fun x hx => ?_⟩, fun z => ?_⟩
  · rw [usort_mem] at hx
    rcases List.mem_append.mp hx with hx | hx
    · exact ho x hx
    · simp at hx; subst hx; exact hc
  · have : c ∈ usort (os ++ [c]) := usort_mem.mpr (by simp)
    simp only at z
    rw [z] at this; simp at this
theorem r_day {b n : Nat} {st : Sto} (P : Pot b n st) (hb : b < 100000000) : ∃ m evs st', o__law_day [.sh (.obj n), .sh (.int 7), .sh (.int 20)] st = some (.sh (encDay m evs), st') ∧ DayOk m evs ∧ Pot (b + 2 + 30 * 20) n st' := by
  obtain ⟨r, st1, e1, r0, r1, dr⟩ := r_take P (by omega) (u := 7) (by decide) (by decide)
  obtain ⟨r2, st2, e2, r20, r21, dr2⟩ := r_take dr.pot (by omega) (u := 21) (by decide) (by decide)
  obtain ⟨m, hm⟩ : ∃ m, 1 + r = m := ⟨_, rfl⟩
  have m1 : 1 ≤ m := by omega
  have m7 : m ≤ 7 := by omega
  obtain ⟨ρ', st', f1, inside, evs, s6, s7, s8, s9, s10, rfl, g1, g2, g3, g4⟩ := forL_st (fun i : Nat => D.int (i : Nat)) (gName 6) b3__law_day (fun done ρ st' => ∃ (inside : Lot) (evs : List Ev) (s6 s7 s8 s9 s10 : Option SV), ρ = [some (.sh (.obj n)), some (.sh (.int 7)), some (.sh (.int 20)), some (.sh (.int m)), some (.sh (eL inside)), some (.ow (.lst (evs.map encEv))), s6, s7, s8, s9, s10, none] ∧ Cars m inside ∧ (∀ e ∈ evs, EvOk m e) ∧ evs.length = done.length ∧ Pot (b + 2 + 30 * done.length) n st') (List.range r2.toNat) (fun done x rest ed ρ st' Q => by
    obtain ⟨inside, evs, s6, s7, s8, s9, s10, rfl, g1, g2, g3, g4⟩ := Q
    obtain ⟨ex, hx⟩ := range_split ed
    have hd : done.length < 20 := by omega
    generalize hO : ((List.range m.toNat).filter fun i : Nat => !decide ((i : Int) ∈ inside)).map (fun i : Nat => (i : Int)) = outs
    have hout : ∀ c, c ∈ outs ↔ (0 ≤ c ∧ c < m) ∧ c ∉ inside := fun c => by
      rw [← hO, List.mem_map]
      constructor
      · rintro ⟨i, hi, rfl⟩
        rw [List.mem_filter, List.mem_range] at hi
        refine ⟨by omega, by simpa using hi.2⟩
      · rintro ⟨h1, h2⟩
        have e : ((c.toNat : Nat) : Int) = c := by omega
        exact ⟨c.toNat, List.mem_filter.mpr ⟨List.mem_range.mpr (by omega), by rw [e]; simpa using h2⟩, e⟩
    have hol : outs.length ≤ 7 := by rw [← hO, List.length_map]; have := List.length_filter_le (fun i : Nat => !decide ((i : Int) ∈ inside)) (List.range m.toNat); rw [List.length_range] at this; omega
    have e5 := lcL_if (fun i : Nat => D.int (i : Nat)) (gName 9) c1__law_day (pVar 9) [some (.sh (.obj n)), some (.sh (.int 7)), some (.sh (.int 20)), some (.sh (.int m)), some (.sh (eL inside)), some (.ow (.lst (evs.map encEv))), some (.sh (.int (x : Nat))), s7, s8, none, s10, none] st' (fun i => .int (i : Nat)) (fun i => !decide ((i : Int) ∈ inside)) (List.range m.toNat) fun i _ => ⟨_, _, by simp; rfl, by simp [c1__law_day, inN_tup]; rfl, rfl, fun _ => ⟨_, by simp; rfl, rfl⟩⟩
    have e5b : ((List.range m.toNat).filter fun i : Nat => !decide ((i : Int) ∈ inside)).map (fun i : Nat => D.int (i : Int)) = outs.map .int := by rw [← hO, List.map_map]; rfl
    rw [e5b] at e5
    have hne : inside = [] → outs ≠ [] := fun z z2 => by
      have := (hout 0).mpr ⟨by omega, by rw [z]; simp⟩
      rw [z2] at this; simp at this
    obtain ⟨w, st3, e6, p6, w1, w2⟩ := r_word g4 (by omega) inside outs (.sh (.int 7)) (.sh (.int 20)) (.sh (.int m)) (.ow (.lst (evs.map encEv))) (.sh (.int (x : Nat))) s8 s10 hne
    obtain ⟨c, st4, sv, e7, e7b, hc, p7, hs⟩ : ∃ c st4 sv, pIf (pOp (oEqE false) (a2 (pVar 8) (pC (.str "in")))) (pVar 7) (pOp oList (aCons (pVar 4) (aNil))) [some (.sh (.obj n)), some (.sh (.int 7)), some (.sh (.int 20)), some (.sh (.int m)), some (.sh (eL inside)), some (.ow (.lst (evs.map encEv))), some (.sh (.int (x : Nat))), some (.sh (.lst (outs.map .int))), some (.sh (.str (wd w))), none, s10, none] st3 = some (sv, st3) ∧ o__law_of [.sh (.obj n), sv] st3 = some (.sh (.int c), st4) ∧ (0 ≤ c ∧ c < m) ∧ Pot (b + 2 + 30 * done.length + 2) n st4 ∧ (∃ n', nStep inside w c = some n') := by
      cases w with
      | true =>
        obtain ⟨d, st4, f1, f2, f3⟩ := r_of p6 (by omega) (outs.map .int) (by simpa using w1 rfl) (by simp; omega) (.sh (.lst (outs.map .int))) (.inl rfl)
        obtain ⟨c, hc, rfl⟩ := List.mem_map.mp f2
        have := (hout c).mp hc
        refine ⟨c, st4, _, by simp [eq_in], f1, this.1, f3.pot, ?_⟩
        unfold nStep
        exact ⟨_, by rw [if_neg (by simpa using this.2)]⟩
      | false =>
        obtain ⟨d, st4, f1, f2, f3⟩ := r_of p6 (by omega) (inside.map .int) (by simpa using w2 rfl) (by have := (g1.mono m7).len; simp; omega) (.ow (.lst (inside.map .int))) (.inr (.inl rfl))
        obtain ⟨c, hc, rfl⟩ := List.mem_map.mp f2
        refine ⟨c, st4, _, by simp [eq_in], f1, g1.2 c hc, f3.pot, ?_⟩
        unfold nStep
        exact ⟨_, by rw [if_neg (by simpa using hc)]⟩
    obtain ⟨n', hn'⟩ := hs
    obtain ⟨os, st5, e8, p8, ho, hol2⟩ := r_others p7 (by omega) m (by omega) m7 (.sh (.int 7)) (.sh (.int 20)) (.sh (.int m)) (.sh (eL inside)) (.ow (.lst (evs.map encEv))) (.sh (.int (x : Nat))) (.sh (.lst (outs.map .int))) (.sh (.str (wd w))) (.sh (.int c)) s10
    obtain ⟨q, st6, e9, q0, q1, dr6⟩ := r_take p8 (by omega) (u := 40) (by decide) (by decide)
    obtain ⟨q2, st7, e10, q20, q21, dr7⟩ := r_take dr6.pot (by omega) (u := m) (by omega) (by omega)
    have hsp := fun (st : Sto) => r_step inside w c st (by have := (g1.mono m7).len; omega)
    rw [hn'] at hsp
    have hr := fun (ρ : Lo) (st : Sto) (g : Ar) (hg : g ρ st = some ([.sh (.int m)], st)) => sRng1_int g ρ st st m (by omega) (by omega) hg
    have hcm : m.toNat ≤ 16777216 := by omega
    have hev : evs.length < 16777216 := by omega
    obtain ⟨c2, st8, hc2, hc2m, p8b⟩ : ∃ c2 st8, (if (q == 0) = true then (c2, st8) = (q2, st7) else (c2, st8) = (c, st6)) ∧ (0 ≤ c2 ∧ c2 < m) ∧ Pot (b + 2 + 30 * done.length + 30) n st8 := by
      by_cases hq : (q == 0) = true
      · exact ⟨q2, st7, by rw [if_pos hq], ⟨q20, q21⟩, dr7.pot.mono (by omega)⟩
      · exact ⟨c, st6, by rw [if_neg hq], hc, dr6.pot.mono (by omega)⟩
    have hu : (usort (os ++ [c2])).length < 64 := by
      have he := usort_ev m7 ho hc2m w
      have := (he.1.mono m7).len
      simp only at this; omega
    have hu2 : (os ++ [c2]).length + 1 < 4096 := by simp; omega
    refine ⟨_, [some (.sh (.obj n)), some (.sh (.int 7)), some (.sh (.int 20)), some (.sh (.int m)), some (.sh (eL n')), some (.ow (.lst ((evs ++ [(w, usort (os ++ [c2]))]).map encEv))), some (.sh (.int (x : Nat))), some (.sh (.lst (outs.map .int))), some (.sh (.str (wd w))), some (.sh (.int c2)), some (.ow (.lst (os.map .int))), none], st8, by simp; rfl, ?_, n', evs ++ [(w, usort (os ++ [c2]))], _, _, _, _, _, rfl, (nStep_cars g1 hc hn').1, fun e he => ?_, by simp [g3], by rw [List.length_append]; exact p8b.mono (by simp; omega)⟩
    · have hr9 := hr [some (.sh (.obj n)), some (.sh (.int 7)), some (.sh (.int 20)), some (.sh (.int m)), some (.sh (eL inside)), some (.ow (.lst (evs.map encEv))), some (.sh (.int (x : Nat))), s7, s8, none, s10, none] st' (aCons (pVar 3) aNil) (by simp)
      have hr11 := hr [some (.sh (.obj n)), some (.sh (.int 7)), some (.sh (.int 20)), some (.sh (.int m)), some (.sh (eL inside)), some (.ow (.lst (evs.map encEv))), some (.sh (.int (x : Nat))), some (.sh (.lst (outs.map .int))), some (.sh (.str (wd w))), some (.sh (.int c)), s10, none] st4 (aCons (pVar 3) aNil) (by simp)
      have hos : os.length ≤ 16777215 := by omega
      have hul : os.length + 1 + 1 < 4096 := by omega
      have hul2 : os.length < 4094 := by omega
      have hid : intsD (os.map .int ++ [.int c2]) = some (os ++ [c2]) := by
        have := intsD_ints (os ++ [c2])
        simpa using this
      by_cases hq : q = 0
      · rw [if_pos (by simpa using hq)] at hc2
        injection hc2 with hc2 hc3
        subst hc2 hc3
        simp [b3__law_day, frz1, -ev_sRng1, hr9, hr11, clr, hcm, e5, -ev_pIf, e6, e7, e7b, e8, hsp, encO_some, e9, eqE_int, hq, e10, oAdd, hAdd, oLst, oTup, hos, seqInts, hid, hu, hul, hul2, wrAt, fApp, hev]
      · rw [if_neg (by simpa using hq)] at hc2
        injection hc2 with hc2 hc3
        subst hc2 hc3
        have hqb : (q == 0) = false := by simpa using hq
        simp [b3__law_day, frz1, -ev_sRng1, hr9, hr11, clr, hcm, e5, -ev_pIf, e6, e7, e7b, e8, hsp, encO_some, e9, eqE_int, hqb, e10, oAdd, hAdd, oLst, oTup, hos, seqInts, hid, hu, hul, hul2, wrAt, fApp, hev]
    · rcases List.mem_append.mp he with he | he
      · exact g2 e he
      · simp at he; subst he; exact usort_ev m7 ho hc2m w) [some (.sh (.obj n)), some (.sh (.int 7)), some (.sh (.int 20)), some (.sh (.int m)), some (.sh (eL [])), some (.ow (.lst [])), none, none, none, none, none, none] st2 ⟨[], [], none, none, none, none, none, rfl, ⟨List.Pairwise.nil, by simp⟩, by simp, rfl, dr2.pot⟩
  rw [List.length_range] at g3 g4
  have hr := sRng1_int (aCons (pOp o__law_take (aCons (pVar 0) (aCons (pOp oAdd (a2 (pVar 2) (pC (.int 1)))) (aNil)))) (aNil))
  have hrr : sRng1 (aCons (pOp o__law_take (aCons (pVar 0) (aCons (pOp oAdd (a2 (pVar 2) (pC (.int 1)))) (aNil)))) (aNil)) [some (.sh (.obj n)), some (.sh (.int 7)), some (.sh (.int 20)), some (.sh (.int m)), some (.sh (eL [])), some (.ow (.lst [])), none, none, none, none, none, none] st1 = some ((List.range r2.toNat).map fun i => .int (i : Nat), false, st2) := by
    rw [ev_sRng1]
    simp only [ev_aCons, ev_pOp, ev_pVar, ev_pC, ev_aNil, List.getElem?_cons_zero, List.getElem?_cons_succ, add_int]
    have : (20 : Int) + 1 = 21 := by decide
    simp only [this, e2]
    rw [if_pos ⟨by omega, by omega⟩, rng_map]
  refine ⟨m, evs, st', ?_, ⟨m1, m7, by omega, g2⟩, g4.mono (by omega)⟩
  have ee : eL [] = .tup [] := rfl
  rw [ee] at f1 hrr
  simp [o__law_day, f__law_day, frz1, e1, hm, oTup, oLst, -ev_sRng1, hrr, f1]
end K80

end

section
namespace K80
open PySem PySem.Spec L2 PL
theorem goIn_cars {m : Int} (h7 : m ≤ 7) : ∀ (evs : List Ev) (v : List Int) (l : Lot), (∀ e ∈ evs, EvOk m e) → Cars 7 l → ∀ r, goIn l evs v = some r → Cars 7 r
  | [], v, l, _, hl, r, e => by cases v <;> (simp [goIn] at e; subst e; exact hl)
  | e :: es, [], l, _, hl, r, e2 => by simp [goIn] at e2; subst e2; exact hl
  | e :: es, c :: cs, l, he, hl, r, e2 => by
    simp only [goIn] at e2
    split at e2
    · next hc =>
      cases hs : nStep l e.1 c with
      | none => rw [hs] at e2; cases e2
      | some n =>
        rw [hs] at e2
        have heo := he e (by simp)
        exact goIn_cars h7 es cs n (fun x hx => he x (by simp [hx])) (nStep_cars hl ((heo.1.mono h7).2 c hc) hs).1 r e2
    · cases e2
theorem rpd_cars {l : List Int} (h : Cars 7 l) : RpD (eL l) := rpd_ints (fun n hn => by have := h.2 n hn; omega) (by have := h.len; omega)
theorem rpd_inside {m : Int} {evs : List Ev} (h : DayOk m evs) (v : List Int) : RpD (encO (insideT evs v)) := by
  cases hi : insideT evs v with
  | none => exact rpd_non
  | some l =>
    unfold insideT at hi
    split at hi
    · exact rpd_cars (goIn_cars h.m7 evs v [] h.ev ⟨List.Pairwise.nil, by simp⟩ l hi)
    · cases hi
theorem wpath_ok {m : Int} (h7 : m ≤ 7) {g : Lot → Bool} : ∀ (evs : List Ev) (l : Lot), (∀ e ∈ evs, EvOk m e) → reach g l evs = true → (∀ c ∈ wpath g l evs, 0 ≤ c ∧ c < m) ∧ (wpath g l evs).length = evs.length
  | [], l, _, _ => by simp [wpath]
  | e :: es, l, he, hr => by
    obtain ⟨c, n, w1, w2, w3, w4⟩ := wstep_ok hr
    have ih := wpath_ok h7 es n (fun x hx => he x (by simp [hx])) w4
    simp only [wpath, w1]
    refine ⟨fun x hx => ?_, by simp [ih.2]⟩
    rcases List.mem_cons.mp hx with rfl | hx
    · exact (he e (by simp)).1.2 x (mem_behind.mp w3).1
    · exact ih.1 x hx
theorem rpd_way {m : Int} {evs : List Ev} (h : DayOk m evs) (g : Lot → Bool) : RpD (encO (wayT g evs)) ∧ ∀ w, wayT g evs = some w → w.length = evs.length := by
  unfold wayT
  split
  · next hr =>
    have := wpath_ok h.m7 evs [] h.ev hr
    refine ⟨rpd_ints (fun n hn => by have := this.1 n hn; have := h.m7; omega) (by have := h.len; omega), fun w hw => ?_⟩
    injection hw with hw; subst hw; exact this.2
  · exact ⟨rpd_non, fun w hw => by cases hw⟩
def encV (p : Bool × List Int) : D := if p.1 then eL p.2 else .lst (p.2.map .int)
theorem r_values {m : Int} {evs : List Ev} (h : DayOk m evs) (st : Sto) (s0 s2 s3 s4 s5 s6 s7 s8 s9 s10 s11 s12 s13 : SV) (vs : List (Bool × List Int)) (t : Option SV) :
    ∃ t', forL (gName 14) b3__law_are_ways_right (vs.map encV) [some s0, some (.sh (encDay m evs)), some s2, some s3, some s4, some s5, some s6, some s7, some s8, some s9, some s10, some s11, some s12, some s13, t, none] st = some (.nx, [some s0, some (.sh (encDay m evs)), some s2, some s3, some s4, some s5, some s6, some s7, some s8, some s9, some s10, some s11, some s12, some s13, t', none], st) :=
  forL_pre encV (gName 14) b3__law_are_ways_right st (fun _ t => [some s0, some (.sh (encDay m evs)), some s2, some s3, some s4, some s5, some s6, some s7, some s8, some s9, some s10, some s11, some s12, some s13, t, none]) vs (fun done p rest ed t => by
    obtain ⟨b, v⟩ := p
    refine ⟨_, some (.sh (encV (b, v))), by simp; rfl, ?_⟩
    cases b with
    | true =>
      have e : encV (true, v) = eL v := rfl
      rw [e]
      simp [b3__law_are_ways_right, frz1, r_inside_by h, r_law_inside h, r_repr (rpd_inside h v), ne_txt (rpd_inside h v)]
    | false =>
      have e : encV (false, v) = .lst (v.map .int) := rfl
      rw [e]
      simp [b3__law_are_ways_right, frz1, r_inside_l h, r_law_inside_l m evs, r_repr rpd_non, ne_txt rpd_non]) t
theorem okNL_evs (n : Nat) (evs : List Ev) : okNL (n + 2) (evs.map encEv) = true := by
  rw [okNL_iff]; simp [ok_wd]
theorem eq_emptyE (evs : List Ev) (st : Sto) : oEqE false [.sh (.tup (evs.map encEv)), .sh (.tup [])] st = some (.sh (.bl evs.isEmpty), st) := by
  have h : eqvL (evs.map encEv) [] = evs.isEmpty := by cases evs <;> rfl
  simp [oEqE, dE, oEq, eqv, h, okNL_evs 57 evs]
theorem eq_tt (st : Sto) : oEqE false [.sh (.tup []), .sh (.tup [])] st = some (.sh (.bl true), st) := by simp [oEqE, dE, oEq, eqv, eqvL]
def encC (c : Int) (ends : List Lot) (b : Bool) : D := .tup [.fn (if b then "way_in" else "way_out"), .lst ((ends.filter fun l => decide (c ∈ l) == b).map eL)]
theorem r_call {m : Int} {evs : List Ev} (h : DayOk m evs) (c : Int) (hc : 0 ≤ c ∧ c < m) (b : Bool) (st : Sto) (s0 s2 s3 s4 s5 s7 s8 s10 s11 : SV) (s12 s13 s14 : Option SV) :
    pCallV [("way_in", o_way_in), ("way_out", o_way_out)] 9 (aCons (pVar 1) (aCons (pVar 6) (aNil))) [some s0, some (.sh (encDay m evs)), some s2, some s3, some s4, some s5, some (.sh (.int c)), some s7, some s8, some (.sh (.fn (if b then "way_in" else "way_out"))), some s10, some s11, s12, s13, s14, none] st = some (.sh (encO (wayT (fun l => decide (c ∈ l) == b) evs)), st) := by
  have e1 : fnOp [("way_in", o_way_in), ("way_out", o_way_out)] "way_in" = some o_way_in := by
    unfold fnOp; simp
  have e2 : fnOp [("way_in", o_way_in), ("way_out", o_way_out)] "way_out" = some o_way_out := by
    unfold fnOp
    have : ¬ (("way_in" : Str) = "way_out") := by decide +kernel
    simp [this]
  have e3 : (fun l : Lot => decide (c ∈ l) == true) = fun l => decide (c ∈ l) := by funext l; simp
  have e4 : (fun l : Lot => decide (c ∈ l) == false) = fun l => !decide (c ∈ l) := by funext l; simp
  cases b with
  | true => simp only [e3]; simp [e1, r_way_in h c hc]
  | false => simp only [e4]; simp [e2, r_way_out h c hc]
theorem r_b4 {m : Int} {evs : List Ev} (h : DayOk m evs) (c : Int) (hc : 0 ≤ c ∧ c < m) (b : Bool) {k n : Nat} {st : Sto} (P : Pot k n st) (hk : k < 100000000) (s3b : SV) (s5 s7 s8 : SV) (t11 t12 t13 t14 : Option SV) :
    ∃ ρ2 st2 t11' t12' t13' t14', b4__law_are_ways_right [some (.sh (.obj n)), some (.sh (encDay m evs)), some (.sh (.lst ((levC evs).map DC))), some (.sh (.int m)), some (.sh (.tup (evs.map encEv))), some s5, some (.sh (.int c)), some s7, some s8, some (.sh (.fn (if b then "way_in" else "way_out"))), some (.sh (.lst (((sortK (kl evs)).filter fun l => decide (c ∈ l) == b).map eL))), t11, t12, t13, t14, none] st = some (.nx, ρ2, st2) ∧ ρ2 = [some (.sh (.obj n)), some (.sh (encDay m evs)), some (.sh (.lst ((levC evs).map DC))), some (.sh (.int m)), some (.sh (.tup (evs.map encEv))), some s5, some (.sh (.int c)), some s7, some s8, some (.sh (.fn (if b then "way_in" else "way_out"))), some (.sh (.lst (((sortK (kl evs)).filter fun l => decide (c ∈ l) == b).map eL))), t11', t12', t13', t14', none] ∧ Pot (k + 2) n st2 := by
  have hlen := h.len
  have hp := sortK_perm (kl evs)
  generalize hG : (sortK (kl evs)).filter (fun l => decide (c ∈ l) == b) = goals
  have hgm : ∀ l, l ∈ goals ↔ l ∈ kl evs ∧ (decide (c ∈ l) == b) = true := fun l => by rw [← hG, List.mem_filter, hp.mem_iff]
  have hgn : goals.Nodup := by rw [← hG]; exact List.Nodup.sublist List.filter_sublist (hp.nodup_iff.mpr (nodup_kl evs))
  have hgs : ∀ l ∈ goals, l ∈ kl evs := fun l hl => ((hgm l).mp hl).1
  have hw : wayT (fun l => decide (l ∈ goals)) evs = wayT (fun l => decide (c ∈ l) == b) evs := wayT_congr fun l hl => by
    rw [Bool.eq_iff_iff, decide_eq_true_eq, hgm]; simp [hl]
  have e1 := r_law_lasts h goals hgn hgs st
  have e2 := r_first_way h goals hgs (fun l => decide (l ∈ goals)) rfl st
  rw [hw] at e2
  have hrp := rpd_way h (fun l => decide (c ∈ l) == b)
  obtain ⟨w, hwe⟩ : ∃ w, wayT (fun l => decide (c ∈ l) == b) evs = w := ⟨_, rfl⟩
  rw [hwe] at e2 hrp
  obtain ⟨due, hdl, hdue⟩ : ∃ due : List Int, due.length ≤ 20 ∧ sIf (pOr (pOp (oIs false) (a2 (pVar 11) (pC .non))) (pOp (oEqE false) (a2 (pVar 4) (pOp oTup (aNil))))) (sPut false 11 (pOp oTup (aNil))) (sSkip) [some (.sh (.obj n)), some (.sh (encDay m evs)), some (.sh (.lst ((levC evs).map DC))), some (.sh (.int m)), some (.sh (.tup (evs.map encEv))), some s5, some (.sh (.int c)), some s7, some s8, some (.sh (.fn (if b then "way_in" else "way_out"))), some (.sh (.lst (goals.map eL))), some (.sh (encO w)), t12, t13, t14, none] st = some (.nx, [some (.sh (.obj n)), some (.sh (encDay m evs)), some (.sh (.lst ((levC evs).map DC))), some (.sh (.int m)), some (.sh (.tup (evs.map encEv))), some s5, some (.sh (.int c)), some s7, some s8, some (.sh (.fn (if b then "way_in" else "way_out"))), some (.sh (.lst (goals.map eL))), some (.sh (eL due)), t12, t13, t14, none], st) := by
    cases w with
    | none => exact ⟨[], by simp, by simp [encO_none, oTup]⟩
    | some w =>
      have hl := hrp.2 w rfl
      by_cases he : evs = []
      · subst he
        exact ⟨[], by simp, by simp [encO_some, oTup, eq_tt]⟩
      · have he2 : evs.isEmpty = false := by cases evs with | nil => exact absurd rfl he | cons a l => rfl
        exact ⟨w, by omega, by simp [encO_some, oTup, eq_emptyE, he2]⟩
  obtain ⟨at', st1, e3, a0, a1, dr1⟩ := r_take P (by omega) (u := max 1 (due.length : Nat)) (by omega) (by omega)
  obtain ⟨q, st2, e4, q0, q1, dr2⟩ := r_take dr1.pot (by omega) (u := m) (by have := h.m1; omega) (by have := h.m7; omega)
  have c1 : cutD (due.map .int) none (some at') = (due.take at'.toNat).map .int := by rw [cut_to _ _ a0, List.map_take]
  have c2 : cutD (due.map .int) (some (at' + 1)) none = (due.drop (at' + 1).toNat).map .int := by rw [cut_from _ _ (by omega), List.map_drop]
  have c3 : cutD (due.map .int) (some at') (some (at' + 1)) = ((due.drop at'.toNat).take ((at' + 1).toNat - at'.toNat)).map .int := by rw [cut_mid _ _ _ a0 (by omega), List.map_take, List.map_drop]
  have hcmp : sIf (pOp (oEqE true) (a2 (pOp oRepr (aCons (pCallV [("way_in", o_way_in), ("way_out", o_way_out)] 9 (aCons (pVar 1) (aCons (pVar 6) (aNil)))) (aNil))) (pOp oRepr (aCons (pVar 11) (aNil))))) (sRet (pC (.bl false))) (sSkip) [some (.sh (.obj n)), some (.sh (encDay m evs)), some (.sh (.lst ((levC evs).map DC))), some (.sh (.int m)), some (.sh (.tup (evs.map encEv))), some s5, some (.sh (.int c)), some s7, some s8, some (.sh (.fn (if b then "way_in" else "way_out"))), some (.sh (.lst (goals.map eL))), some (.sh (encO w)), t12, t13, t14, none] st = some (.nx, [some (.sh (.obj n)), some (.sh (encDay m evs)), some (.sh (.lst ((levC evs).map DC))), some (.sh (.int m)), some (.sh (.tup (evs.map encEv))), some s5, some (.sh (.int c)), some s7, some s8, some (.sh (.fn (if b then "way_in" else "way_out"))), some (.sh (.lst (goals.map eL))), some (.sh (encO w)), t12, t13, t14, none], st) := by
    simp [-ev_pCallV, r_call h c hc b, hwe, r_repr hrp.1, ne_txt hrp.1]
  have l1 : due.length + 1 ≤ 16777216 := by omega
  have l2 : (due.take at'.toNat).length ≤ 20 := by rw [List.length_take]; omega
  have l3 : (due.drop (at' + 1).toNat).length ≤ 20 := by rw [List.length_drop]; omega
  have l4 : ((due.drop at'.toNat).take ((at' + 1).toNat - at'.toNat)).length ≤ 20 := by rw [List.length_take, List.length_drop]; omega
  generalize due.take at'.toNat = X1 at *
  generalize due.drop (at' + 1).toNat = X2 at *
  generalize (due.drop at'.toNat).take ((at' + 1).toNat - at'.toNat) = X3 at *
  have A1 : ∀ st, oAdd [.sh (.tup (due.map D.int)), .sh (.tup [.int 0])] st = some (.sh (.tup (due.map D.int ++ [.int 0])), st) := fun st => add_tup _ _ st (by simp; omega)
  have A2 : ∀ st, oAdd [.sh (.tup (X1.map D.int)), .sh (.tup [.int q])] st = some (.sh (.tup (X1.map D.int ++ [.int q])), st) := fun st => add_tup _ _ st (by simp; omega)
  have A3 : ∀ st, oAdd [.sh (.tup (X1.map D.int ++ [.int q])), .sh (.tup (X2.map D.int))] st = some (.sh (.tup (X1.map D.int ++ .int q :: X2.map D.int)), st) := fun st => by
    have := add_tup (X1.map D.int ++ [.int q]) (X2.map D.int) st (by simp; omega)
    simpa using this
  have A4 : ∀ st, oAdd [.sh (.tup (X1.map D.int)), .sh (.tup (X2.map D.int))] st = some (.sh (.tup (X1.map D.int ++ X2.map D.int)), st) := fun st => add_tup _ _ st (by simp; omega)
  have A5 : ∀ st, oAdd [.sh (.tup (X1.map D.int ++ X2.map D.int)), .sh (.tup (X3.map D.int))] st = some (.sh (.tup (X1.map D.int ++ (X2.map D.int ++ X3.map D.int))), st) := fun st => by
    have := add_tup (X1.map D.int ++ X2.map D.int) (X3.map D.int) st (by simp; omega)
    simpa using this
  let vs : List (Bool × List Int) := [(true, due), (true, due.reverse), (true, due.drop 1), (true, due ++ [0]), (true, X1 ++ [q] ++ X2), (false, due), (true, X1 ++ X2 ++ X3)]
  have hvs : vs.map encV = [.tup (due.map .int), .tup (due.map .int).reverse, .tup ((due.map .int).drop 1), .tup (due.map .int ++ [.int 0]), .tup (X1.map .int ++ .int q :: X2.map .int), .lst (due.map .int), .tup (X1.map .int ++ (X2.map .int ++ X3.map .int))] := by
    simp [vs, encV]
  obtain ⟨t', L⟩ := r_values h st2 (.sh (.obj n)) (.sh (.lst ((levC evs).map DC))) (.sh (.int m)) (.sh (.tup (evs.map encEv))) s5 (.sh (.int c)) s7 s8 (.sh (.fn (if b then "way_in" else "way_out"))) (.sh (.lst (goals.map eL))) (.sh (eL due)) (.sh (.int at')) (.sh (.lst (vs.map encV))) vs t14
  rw [hvs] at L
  refine ⟨_, st2, some (.sh (eL due)), some (.sh (.int at')), (some (.sh (.lst [.tup (due.map .int), .tup (due.map .int).reverse, .tup ((due.map .int).drop 1), .tup (due.map .int ++ [.int 0]), .tup (X1.map .int ++ .int q :: X2.map .int), .lst (due.map .int), .tup (X1.map .int ++ (X2.map .int ++ X3.map .int))]))), t', ?_, rfl, dr2.pot⟩
  simp only [b4__law_are_ways_right]
  simp [frz1, e1, e2, hcmp, hdue, -ev_sIf, e3, e4, oLst, revD, sliceD, A1, A2, A3, A4, A5, oTup, c1, c2, c3, wrAt, fApp, -List.drop_one, L]
end K80

end

section
namespace K80
open PySem PySem.Spec L2 PL
theorem r_b5 {m : Int} {evs : List Ev} (h : DayOk m evs) (c : Int) (hc : 0 ≤ c ∧ c < m) {k n : Nat} {st : Sto} (P : Pot k n st) (hk : k < 10000000) (t7 t8 t9 t10 t11 t12 t13 t14 : Option SV) :
    ∃ st2 t7' t8' t9' t10' t11' t12' t13' t14', b5__law_are_ways_right [some (.sh (.obj n)), some (.sh (encDay m evs)), some (.sh (.lst ((levC evs).map DC))), some (.sh (.int m)), some (.sh (.tup (evs.map encEv))), some (.ow (.lst ((sortK (kl evs)).map eL))), some (.sh (.int c)), t7, t8, t9, t10, t11, t12, t13, t14, none] st = some (.nx, [some (.sh (.obj n)), some (.sh (encDay m evs)), some (.sh (.lst ((levC evs).map DC))), some (.sh (.int m)), some (.sh (.tup (evs.map encEv))), some (.ow (.lst ((sortK (kl evs)).map eL))), some (.sh (.int c)), t7', t8', t9', t10', t11', t12', t13', t14', none], st2) ∧ Pot (k + 4) n st2 := by
  have hp := sortK_perm (kl evs)
  have hl : (sortK (kl evs)).length ≤ 128 := by rw [hp.length_eq]; exact (lvl_kl h.m7 h.ev).len
  have hb : (sortK (kl evs)).length ≤ 16777216 := by omega
  generalize hG1 : ((sortK (kl evs)).filter fun l => decide (c ∈ l) == true).map eL = G1
  generalize hG2 : ((sortK (kl evs)).filter fun l => decide (c ∈ l) == false).map eL = G2
  have e1 := fun (s7 : Option SV) => lcL_if eL (gName 15) c1__law_are_ways_right (pVar 15) [some (.sh (.obj n)), some (.sh (encDay m evs)), some (.sh (.lst ((levC evs).map DC))), some (.sh (.int m)), some (.sh (.tup (evs.map encEv))), some (.ow (.lst ((sortK (kl evs)).map eL))), some (.sh (.int c)), s7, t8, t9, t10, t11, t12, t13, t14, none] st eL (fun l => decide (c ∈ l) == true) (sortK (kl evs)) fun l _ => ⟨_, .sh (.bl (decide (c ∈ l))), by simp; rfl, by simp [c1__law_are_ways_right, inN_tup], by simp, fun _ => ⟨_, by simp; rfl, rfl⟩⟩
  have e2 := fun (s7 : Option SV) => lcL_if eL (gName 15) c2__law_are_ways_right (pVar 15) [some (.sh (.obj n)), some (.sh (encDay m evs)), some (.sh (.lst ((levC evs).map DC))), some (.sh (.int m)), some (.sh (.tup (evs.map encEv))), some (.ow (.lst ((sortK (kl evs)).map eL))), some (.sh (.int c)), s7, t8, t9, t10, t11, t12, t13, t14, none] st eL (fun l => decide (c ∈ l) == false) (sortK (kl evs)) fun l _ => ⟨_, .sh (.bl (!decide (c ∈ l))), by simp; rfl, by simp [c2__law_are_ways_right, inN_tup], by simp, fun _ => ⟨_, by simp; rfl, rfl⟩⟩
  rw [hG1] at e1
  rw [hG2] at e2
  obtain ⟨ρ', st', f1, t9', t10', t11', t12', t13', t14', rfl, g1⟩ := forL_st (encC c (sortK (kl evs))) (gTup [gName 9, gName 10]) b4__law_are_ways_right (fun done ρ st' => ∃ t9 t10 t11 t12 t13 t14, ρ = [some (.sh (.obj n)), some (.sh (encDay m evs)), some (.sh (.lst ((levC evs).map DC))), some (.sh (.int m)), some (.sh (.tup (evs.map encEv))), some (.ow (.lst ((sortK (kl evs)).map eL))), some (.sh (.int c)), some (.sh (.lst G1)), some (.sh (.lst G2)), t9, t10, t11, t12, t13, t14, none] ∧ Pot (k + 2 * done.length) n st') [true, false] (fun done b rest ed ρ st' Q => by
    obtain ⟨t9, t10, t11, t12, t13, t14, rfl, g1⟩ := Q
    have hd : done.length < 2 := by have := congrArg List.length ed; simp at this; omega
    obtain ⟨ρ2, st2, u11, u12, u13, u14, h1, rfl, h3⟩ := r_b4 h c hc b g1 (by omega) (.sh .non) (.ow (.lst ((sortK (kl evs)).map eL))) (.sh (.lst G1)) (.sh (.lst G2)) t11 t12 t13 t14
    exact ⟨_, _, st2, by simp [encC], h1, _, _, _, _, _, _, rfl, by rw [List.length_append]; exact h3.mono (by simp; omega)⟩) [some (.sh (.obj n)), some (.sh (encDay m evs)), some (.sh (.lst ((levC evs).map DC))), some (.sh (.int m)), some (.sh (.tup (evs.map encEv))), some (.ow (.lst ((sortK (kl evs)).map eL))), some (.sh (.int c)), some (.sh (.lst G1)), some (.sh (.lst G2)), t9, t10, t11, t12, t13, t14, none] st ⟨_, _, _, _, _, _, rfl, P⟩
  have hC : [true, false].map (encC c (sortK (kl evs))) = [.tup [.fn "way_in", .lst G1], .tup [.fn "way_out", .lst G2]] := by
    rw [← hG1, ← hG2]; rfl
  rw [hC] at f1
  refine ⟨st', some (.sh (.lst G1)), some (.sh (.lst G2)), t9', t10', t11', t12', t13', t14', ?_, g1.mono (by simp)⟩
  simp only [b5__law_are_ways_right]
  simp [frz1, clr, hb, e1, e2, oTup, f1]
theorem r_ways {m : Int} {evs : List Ev} (h : DayOk m evs) {k n : Nat} {st : Sto} (P : Pot k n st) (hk : k < 1000000) : ∃ st', o__law_are_ways_right [.sh (.obj n), .sh (encDay m evs), .sh (.lst ((levC evs).map DC))] st = some (.sh (.bl true), st') ∧ Pot (k + 20) n st' := by
  have hm1 := h.m1; have hm7 := h.m7
  have hps : intsUp m = (List.range m.toNat).map fun i : Nat => (i : Int) := rfl
  have hpl : ((intsUp m).map D.int).length = m.toNat := by rw [hps]; simp
  have hmin : 0 ≤ min m 3 ∧ min m 3 ≤ 3 ∧ min m 3 ≤ m := by omega
  obtain ⟨xs, rest, st1, e1, p1, p2, p3, p4, p5⟩ := r_some P (min m 3) hmin.1 (by omega) ((intsUp m).map D.int) (by rw [hpl]; omega) (by rw [hpl]; omega) (.ow (.lst ((intsUp m).map D.int))) (.inr (.inl rfl))
  have hxs : ∀ x ∈ xs, ∃ c : Int, x = .int c ∧ 0 ≤ c ∧ c < m := fun x hx => by
    have : x ∈ (intsUp m).map D.int := p1.mem_iff.mp (by simp [hx])
    obtain ⟨c, hc, rfl⟩ := List.mem_map.mp this
    rw [hps] at hc
    obtain ⟨i, hi, rfl⟩ := List.mem_map.mp hc
    rw [List.mem_range] at hi
    exact ⟨_, rfl, by omega, by omega⟩
  obtain ⟨ρ', st', f1, c', t7, t8, t9, t10, t11, t12, t13, t14, rfl, g1⟩ := forL_st (fun x : D => x) (gName 6) b5__law_are_ways_right (fun done ρ st' => ∃ c t7 t8 t9 t10 t11 t12 t13 t14, ρ = [some (.sh (.obj n)), some (.sh (encDay m evs)), some (.sh (.lst ((levC evs).map DC))), some (.sh (.int m)), some (.sh (.tup (evs.map encEv))), some (.ow (.lst ((sortK (kl evs)).map eL))), c, t7, t8, t9, t10, t11, t12, t13, t14, none] ∧ Pot (k + 3 + 4 * done.length) n st') xs (fun done x rest ed ρ st' Q => by
    obtain ⟨c0, t7, t8, t9, t10, t11, t12, t13, t14, rfl, g1⟩ := Q
    have hd : done.length < 3 := by have := congrArg List.length ed; simp at this; omega
    obtain ⟨c, rfl, hc⟩ := hxs x (by rw [ed]; simp)
    obtain ⟨st2, u7, u8, u9, u10, u11, u12, u13, u14, h1, h2⟩ := r_b5 h c hc g1 (by omega) t7 t8 t9 t10 t11 t12 t13 t14
    exact ⟨_, _, st2, by simp, h1, _, _, _, _, _, _, _, _, _, rfl, by rw [List.length_append]; exact h2.mono (by simp; omega)⟩) [some (.sh (.obj n)), some (.sh (encDay m evs)), some (.sh (.lst ((levC evs).map DC))), some (.sh (.int m)), some (.sh (.tup (evs.map encEv))), some (.ow (.lst ((sortK (kl evs)).map eL))), none, none, none, none, none, none, none, none, none, none] st1 ⟨_, _, _, _, _, _, _, _, _, rfl, p3.mono (by omega)⟩
  rw [List.map_id'] at f1
  have hkc := keys_cl evs
  have hsd := sorted_DC (es := cl evs) (by rw [hkc]; exact lvl_kl h.m7 h.ev) st
  rw [hkc] at hsd
  have h1 : -4611686018427387904 ≤ m := by omega
  have h2 : m ≤ 16777216 := by omega
  refine ⟨st', ?_, g1.mono (by omega)⟩
  simp [o__law_are_ways_right, f__law_are_ways_right, frz1, levC_last, hsd, h1, h2, e1, f1]
end K80

end

section
namespace K80
open PySem PySem.Spec L2 PL
theorem levL_levC (evs : List Ev) : levL evs = (levC evs).map fun es => es.map (·.1) := by
  unfold levL levC
  rw [List.map_map]
  exact List.map_congr_left fun i _ => (keys_cl _).symm
theorem empty_levC (evs : List Ev) : (((levC evs).drop 1).zipIdx.filter fun p => p.1.isEmpty).map (·.2) = emptyW evs := by
  unfold emptyW
  rw [levL_levC, ← List.map_drop, List.zipIdx_map, List.filter_map, List.map_map]
  congr 1
  refine List.filter_congr fun p _ => ?_
  simp [Prod.map, Function.comp]
theorem eq_dT {α : Type} (f : α → D) (es : List (List Int × α)) (st : Sto) : oEqE false [.sh (dL f es), .ow (.dt [])] st = some (.sh (.bl es.isEmpty), st) := by
  have e : dE (dL f es) (.dt []) = some (decide (es.length = 0)) := by
    unfold dL dE; simp
  have e2 : decide (es.length = 0) = es.isEmpty := by cases es <;> simp
  rw [← e2]
  show (match dE (dL f es) (.dt []) with
    | some b => some (SV.sh (.bl (if false = true then !b else b)), st)
    | none => oEq false [SV.sh (dL f es), .ow (.dt [])] st) = _
  rw [e]
  rfl
theorem wordT_perm {a b : List Lot} (h : a.Perm b) (c : Int) : wordT a c = wordT b c := by
  unfold wordT
  rw [h.all_eq, h.any_eq]
theorem rpd_first (evs : List Ev) (h : evs.length ≤ 20) : RpD (firstT evs) := by
  unfold firstT
  cases he : emptyW evs with
  | nil => exact rpd_non
  | cons a l =>
    refine rpd_int ?_
    have ha : a ∈ emptyW evs := by rw [he]; simp
    unfold emptyW at ha
    obtain ⟨p, hp, rfl⟩ := List.mem_map.mp ha
    have h1 := (List.mem_filter.mp hp).1
    obtain ⟨i, hi⟩ := List.getElem?_of_mem h1
    rw [List.getElem?_zipIdx] at hi
    cases hz : ((levL evs).drop 1)[i]? with
    | none => rw [hz] at hi; cases hi
    | some ks =>
      rw [hz] at hi
      simp at hi
      have := (List.getElem?_eq_some_iff.mp hz).1
      rw [List.length_drop, levL_len] at this
      rw [← hi]; simp; omega
theorem word_ok (ks : List Lot) (c : Int) : okN 59 (.str (wordT ks c)) = true ∧ rpOk (.str (wordT ks c)) = true ∧ bulkD (.str (wordT ks c)) ≤ 10 := by
  unfold wordT
  split
  · refine ⟨?_, ?_, ?_⟩
    · simp only [okN]; decide +kernel
    · simp only [rpOk]; decide +kernel
    · simp only [bulkD]; decide +kernel
  · split
    · refine ⟨?_, ?_, ?_⟩
      · simp only [okN]; decide +kernel
      · simp only [rpOk]; decide +kernel
      · simp only [bulkD]; decide +kernel
    · refine ⟨?_, ?_, ?_⟩
      · simp only [okN]; decide +kernel
      · simp only [rpOk]; decide +kernel
      · simp only [bulkD]; decide +kernel
theorem rpOkL_iff {xs : List D} : rpOkL xs = true ↔ ∀ x ∈ xs, rpOk x = true := by
  induction xs with
  | nil => simp [rpOkL]
  | cons x xs ih => simp [rpOkL, ih]
theorem bulkL_le {xs : List D} {B : Nat} (h : ∀ x ∈ xs, bulkD x ≤ B) : bulkL xs ≤ (B + 1) * xs.length := by
  induction xs with
  | nil => simp [bulkL]
  | cons x xs ih =>
    have h1 := h x (by simp)
    have h2 := ih fun y hy => h y (by simp [hy])
    simp only [bulkL, List.length_cons, Nat.mul_add]
    omega
theorem rpd_told {m : Int} {evs : List Ev} (h : DayOk m evs) : RpD (toldT m evs) := by
  unfold toldT
  split
  · exact rpd_non
  · have hm := h.m7
    unfold wordsT
    refine ⟨?_, ?_, ?_⟩
    · simp only [okN_tup]
      rw [okNL_iff, List.all_map, List.all_eq_true]
      intro c _
      exact (word_ok _ _).1
    · simp only [rpOk]
      rw [rpOkL_iff]
      intro x hx
      obtain ⟨c, _, rfl⟩ := List.mem_map.mp hx
      exact (word_ok _ _).2.1
    · simp only [bulkD]
      have := bulkL_le (xs := (List.range m.toNat).map fun c => .str (wordT (kl evs) (c : Nat))) (B := 10) fun x hx => by
        obtain ⟨c, _, rfl⟩ := List.mem_map.mp hx
        exact (word_ok _ _).2.2
      rw [List.length_map, List.length_range] at this
      have h2 : m.toNat ≤ 7 := by omega
      have h3 : (10 + 1) * m.toNat ≤ 11 * 7 := Nat.mul_le_mul (Nat.le_refl _) h2
      omega
theorem rpd_tups {ks : List (List Int)} (h : ∀ k ∈ ks, (∀ n ∈ k, n.natAbs < 10 ^ 12) ∧ k.length ≤ 1000) (hl : ks.length ≤ 1000) : RpD (.tup (ks.map eL)) := by
  refine ⟨?_, ?_, ?_⟩
  · simp only [okN_tup]
    rw [okNL_iff]; simp
  · simp only [rpOk]
    rw [rpOkL_iff]
    intro x hx
    obtain ⟨k, hk, rfl⟩ := List.mem_map.mp hx
    simp only [rpOk]
    exact rpOkL_ints k (h k hk).1
  · simp only [bulkD]
    have := bulkL_le (xs := ks.map eL) (B := 1000) fun x hx => by
      obtain ⟨k, hk, rfl⟩ := List.mem_map.mp hx
      simp only [bulkD, bulkL_ints]
      exact (h k hk).2
    rw [List.length_map] at this
    have h3 : (1000 + 1) * ks.length ≤ 1001 * 1000 := Nat.mul_le_mul (Nat.le_refl _) hl
    have h4 : (2 : Nat) ^ 20 = 1048576 := by decide
    omega
theorem rpd_fines {m : Int} {evs : List Ev} (h : DayOk m evs) : RpD (.tup ((finesT evs).map eL)) := by
  have := h.len
  refine rpd_tups (fun k hk => ?_) (by simp [finesT]; omega)
  unfold finesT at hk
  obtain ⟨p, hp, rfl⟩ := List.mem_map.mp hk
  have he : p.1 ∈ evs := by
    obtain ⟨i, hi⟩ := List.getElem?_of_mem hp
    rw [List.getElem?_zipIdx] at hi
    cases hz : evs[i]? with
    | none => rw [hz] at hi; cases hi
    | some e => rw [hz] at hi; simp at hi; rw [← hi]; exact List.mem_of_getElem? hz
  have heo := (h.ev _ he).1.mono h.m7
  unfold fineT
  refine ⟨fun n hn => ?_, ?_⟩
  · have := heo.2 n (List.mem_filter.mp hn).1; omega
  · have := List.length_filter_le (fun c => (kl (evs.take p.2)).any fun l => nextIn l p.1.1 (fun n => reach (fun _ => true) n (evs.drop (p.2 + 1))) c) p.1.2
    have := heo.len; omega
/-- this law's own row of cars -/
def fineL (evs : List Ev) (i : Nat) (b : Bool) (good : List Lot) (c : Int) : Bool := (cl (evs.take i)).any fun p => nextIn p.1 b (fun n => decide (n ∈ good)) c
theorem fineL_eq {m : Int} {evs : List Ev} (h : DayOk m evs) {goals : List Lot} (hg : ∀ l, l ∈ goals ↔ l ∈ kl evs) {i : Nat} {e : Ev} (he : evs[i]? = some e) {good : List Lot} (h1 : (rowsL (fun l => decide (l ∈ goals)) goals evs)[i + 1]? = some good) : e.2.filter (fineL evs i e.1 good) = fineT evs i e := by
  unfold fineT
  refine List.filter_congr fun c hc => ?_
  unfold fineL
  rw [← keys_cl, List.any_map]
  have hl : Last (fun l => decide (l ∈ goals)) goals evs := fun l hl => by simp
  rw [Bool.eq_iff_iff, List.any_eq_true, List.any_eq_true]
  have key : ∀ p ∈ cl (evs.take i), nextIn p.1 e.1 (fun n => decide (n ∈ good)) c = nextIn p.1 e.1 (fun n => reach (fun _ => true) n (evs.drop (i + 1))) c := fun p hp => by
    unfold nextIn
    cases hs : nStep p.1 e.1 c with
    | none => rfl
    | some n =>
      have hk : n ∈ kl (evs.take (i + 1)) := by
        rw [kl_next he]
        exact mem_kAfter.mpr ⟨p.1, by rw [← keys_cl]; exact List.mem_map.mpr ⟨p, hp, rfl⟩, mem_news.mpr ⟨c, hc, hs⟩⟩
      have h2 := rows_mem hl h1 hk
      have h3 := reach_congr (g := fun l => decide (l ∈ goals)) (g' := fun _ => true) (evs.drop (i + 1)) (kl (evs.take (i + 1))) (fun x hx => by
        have : x ∈ kl evs := by
          unfold kl at hx ⊢
          rw [← List.foldl_append, List.take_append_drop] at hx
          exact hx
        simp [(hg x).mpr this]) n hk
      simp only
      rw [← h3, Bool.eq_iff_iff, decide_eq_true_eq]
      exact h2
  constructor
  · rintro ⟨p, hp, hx⟩; exact ⟨p, hp, by rw [key p hp] at hx; exact hx⟩
  · rintro ⟨p, hp, hx⟩; exact ⟨p, hp, by rw [key p hp]; exact hx⟩
end K80

end

section
namespace K80
open PySem PySem.Spec L2 PL
theorem sIf_false {c : P} {f g : S} {ρ : Lo} {st : Sto} {s : SV} {st1 : Sto} (h : c ρ st = some (s, st1)) (ht : truth s = some false) : sIf c f g ρ st = g ρ st1 := by
  simp [h, ht]
theorem r_right {k n : Nat} {st : Sto} (P : Pot k n st) (hk : k < 100000) : ∃ st', o__law_right [.sh (.obj n)] st = some (.sh (.bl true), st') ∧ Pot (k + 1000) n st' := by
  obtain ⟨m, evs, st1, e1, h, P1⟩ := r_day P (by omega)
  obtain ⟨st2, ew, P2⟩ := r_ways h P1 (by omega)
  refine ⟨st2, ?_, P2.mono (by omega)⟩
  have hlen := h.len; have hm1 := h.m1; have hm7 := h.m7
  have hlv := lvl_kl h.m7 h.ev
  have hp := sortK_perm (kl evs)
  have hkc := keys_cl evs
  have hsd := sorted_DC (es := cl evs) (by rw [hkc]; exact hlv) st1
  rw [hkc] at hsd
  have hsl : (sortK (kl evs)).length ≤ 128 := by rw [hp.length_eq]; exact hlv.len
  -- the empty levels
  have hz := enum_map DC ((levC evs).drop 1) 0
  have c1 : cutD ((levC evs).map DC) (some 1) none = ((levC evs).drop 1).map DC := by rw [cut_1, List.map_drop]
  have em1 := lcL_if (fun p : List (Lot × Int) × Nat => D.tup [.int (p.2 : Nat), DC p.1]) (gTup [gName 12, gName 17]) c1__law_right (pVar 12) [some (.sh (.obj n)), some (.sh (encDay m evs)), some (.sh (.int m)), some (.sh (.tup (evs.map encEv))), some (.ow (.lst ((levC evs).map DC))), none, none, none, none, none, none, none, none, none, none, none, none, none, none, none] st1 (fun p => .int (p.2 : Nat)) (fun p => p.1.isEmpty) (((levC evs).drop 1).zipIdx 0) fun p _ => ⟨_, .sh (.bl p.1.isEmpty), by simp; rfl, by simp [c1__law_right, eq_dT], rfl, fun _ => ⟨_, by simp; rfl, rfl⟩⟩
  have em2 : ((((levC evs).drop 1).zipIdx 0).filter fun p => p.1.isEmpty).map (fun p => D.int (p.2 : Nat)) = (emptyW evs).map fun a => .int (a : Nat) := by
    rw [← empty_levC, List.map_map]; rfl
  rw [em2] at em1
  have hb1 : (((levC evs).drop 1).zipIdx 0).length ≤ 16777216 := by simp [levC_len]; omega
  have hb2 : (levC evs).length - 1 ≤ 16777216 := by rw [levC_len]; omega
  have hb3 : (levC evs).length ≤ 16777217 := by rw [levC_len]; omega
  have hbo : (sortK (kl evs)).length ≤ 16777216 := by omega
  -- words
  obtain ⟨tw, Lw⟩ := forL_pre (fun i : Nat => D.int (i : Nat)) (gName 8) b3__law_right st1 (fun (done : List Nat) (t : Option SV × Option SV) => [some (.sh (.obj n)), some (.sh (encDay m evs)), some (.sh (.int m)), some (.sh (.tup (evs.map encEv))), some (.ow (.lst ((levC evs).map DC))), some (.ow (.lst ((emptyW evs).map fun a => .int (a : Nat)))), some (.ow (.lst ((sortK (kl evs)).map eL))), some (.ow (.lst (done.map fun c => .str (wordT (kl evs) (c : Nat))))), t.1, t.2, none, none, none, none, none, none, none, none, none, none]) (List.range m.toNat) (fun done x rest ed t => by
    obtain ⟨ex, hx⟩ := range_split ed
    have f1 := in_list (ks := sortK (kl evs)) (x : Nat) (gName 18) e2__law_right [some (.sh (.obj n)), some (.sh (encDay m evs)), some (.sh (.int m)), some (.sh (.tup (evs.map encEv))), some (.ow (.lst ((levC evs).map DC))), some (.ow (.lst ((emptyW evs).map fun a => .int (a : Nat)))), some (.ow (.lst ((sortK (kl evs)).map eL))), some (.ow (.lst (done.map fun c => .str (wordT (kl evs) (c : Nat))))), some (.sh (.int (x : Nat))), t.2, none, none, none, none, none, none, none, none, none, none] st1 fun l => ⟨_, by simp; rfl, by simp [e2__law_right, inN_tup]⟩
    have hd : done.length < 16777216 := by omega
    have fw := word_if (sortK (kl evs)) (x : Nat) _ (.inr rfl) [some (.sh (.obj n)), some (.sh (encDay m evs)), some (.sh (.int m)), some (.sh (.tup (evs.map encEv))), some (.ow (.lst ((levC evs).map DC))), some (.ow (.lst ((emptyW evs).map fun a => .int (a : Nat)))), some (.ow (.lst ((sortK (kl evs)).map eL))), some (.ow (.lst (done.map fun c => .str (wordT (kl evs) (c : Nat))))), some (.sh (.int (x : Nat))), some (.ow (.lst ((sortK (kl evs)).map fun l => .bl (decide ((x : Int) ∈ l))))), none, none, none, none, none, none, none, none, none, none] st1 9 (by simp)
    rw [wordT_perm hp] at fw
    refine ⟨_, (some (.sh (.int (x : Nat))), some (.ow (.lst ((sortK (kl evs)).map fun l => .bl (decide ((x : Int) ∈ l)))))), by simp; rfl, ?_⟩
    simp only [b3__law_right]
    simp [clr, hbo, f1, -ev_pIf, fw, wrAt, fApp, hd]) (none, none)
  simp only [List.map_nil] at Lw
  -- what is kept
  have hgm : ∀ l, l ∈ sortK (kl evs) ↔ l ∈ kl evs := fun l => hp.mem_iff
  have hgn : (sortK (kl evs)).Nodup := hp.nodup_iff.mpr (nodup_kl evs)
  have hla := r_law_lasts h (sortK (kl evs)) hgn (fun l hl => (hgm l).mp hl) st1
  generalize hR : rowsL (fun l => decide (l ∈ sortK (kl evs))) (sortK (kl evs)) evs = R at hla
  have hRl : R.length = evs.length + 1 := by rw [← hR, rows_len]
  -- rows of cars
  obtain ⟨tr, Lr⟩ := forL_pre (fun p : Ev × Nat => D.tup [.int (p.2 : Nat), encEv p.1]) (gTup [gName 12, gTup [gName 13, gName 14]]) b7__law_right st1 (fun (done : List (Ev × Nat)) (t : Option SV × Option SV × Option SV × Option SV × Option SV × Option SV) => [some (.sh (.obj n)), some (.sh (encDay m evs)), some (.sh (.int m)), some (.sh (.tup (evs.map encEv))), some (.sh (.lst ((levC evs).map DC))), some (.ow (.lst ((emptyW evs).map fun a => .int (a : Nat)))), some (.sh (.lst ((sortK (kl evs)).map eL))), some (.ow (.lst ((List.range m.toNat).map fun c => .str (wordT (kl evs) (c : Nat))))), t.1, tw.2, some (.ow (.lst (R.map DK))), some (.ow (.lst (done.map fun p => eL (fineT evs p.2 p.1)))), t.2.1, t.2.2.1, t.2.2.2.1, t.2.2.2.2.1, t.2.2.2.2.2, none, none, none]) (evs.zipIdx 0) (fun done x rest ed t => by
    have hx := split_get ed
    rw [List.getElem?_zipIdx] at hx
    obtain ⟨e, he, rfl⟩ : ∃ e, evs[done.length]? = some e ∧ x = (e, done.length) := by
      cases hz : evs[done.length]? with
      | none => rw [hz] at hx; cases hx
      | some e => rw [hz] at hx; simp at hx; exact ⟨e, rfl, hx.symm⟩
    have hi : done.length < evs.length := (List.getElem?_eq_some_iff.mp he).1
    obtain ⟨good, hgood⟩ : ∃ r2, R[done.length + 1]? = some r2 := ⟨_, List.getElem?_eq_getElem (by omega)⟩
    have heo : EvOk m e := h.ev _ (List.mem_of_getElem? he)
    have l1 := (heo.1.mono h.m7).len
    have hlev := levC_get (evs := evs) (i := done.length) (by omega)
    have hcl : (cl (evs.take done.length)).length ≤ 128 := by
      have := (take_lvl h done.length).len
      rw [← keys_cl, List.length_map] at this; exact this
    have hcb : (cl (evs.take done.length)).length ≤ 16777216 := by omega
    have hcars : ∀ p ∈ cl (evs.take done.length), p.1.length < 1000 := fun p hp => by
      have := (reach_lens h (k := done.length) (l := p.1) (by rw [← keys_cl]; exact List.mem_map.mpr ⟨p, hp, rfl⟩)).len
      omega
    obtain ⟨t2, L2⟩ := forL_pre D.int (gName 8) b6__law_right st1 (fun (cs : List Int) (t' : Option SV × Option SV) => [some (.sh (.obj n)), some (.sh (encDay m evs)), some (.sh (.int m)), some (.sh (.tup (evs.map encEv))), some (.sh (.lst ((levC evs).map DC))), some (.ow (.lst ((emptyW evs).map fun a => .int (a : Nat)))), some (.sh (.lst ((sortK (kl evs)).map eL))), some (.ow (.lst ((List.range m.toNat).map fun c => .str (wordT (kl evs) (c : Nat))))), t'.1, tw.2, some (.ow (.lst (R.map DK))), some (.ow (.lst (done.map fun p => eL (fineT evs p.2 p.1)))), some (.sh (.int (done.length : Nat))), some (.sh (.str (wd e.1))), some (.sh (eL e.2)), some (.ow (.lst ((cs.filter (fineL evs done.length e.1 good)).map .int))), t'.2, none, none, none]) e.2 (fun cs c cr ec t' => by
      have f1 := lcL_pre (fun p : Lot × Int => eL p.1) (gName 18) e4__law_right [some (.sh (.obj n)), some (.sh (encDay m evs)), some (.sh (.int m)), some (.sh (.tup (evs.map encEv))), some (.sh (.lst ((levC evs).map DC))), some (.ow (.lst ((emptyW evs).map fun a => .int (a : Nat)))), some (.sh (.lst ((sortK (kl evs)).map eL))), some (.ow (.lst ((List.range m.toNat).map fun c => .str (wordT (kl evs) (c : Nat))))), some (.sh (.int c)), tw.2, some (.ow (.lst (R.map DK))), some (.ow (.lst (done.map fun p => eL (fineT evs p.2 p.1)))), some (.sh (.int (done.length : Nat))), some (.sh (.str (wd e.1))), some (.sh (eL e.2)), some (.ow (.lst ((cs.filter (fineL evs done.length e.1 good)).map .int))), t'.2, none, none, none] st1 (fun p => encO (nStep p.1 e.1 c)) (cl (evs.take done.length)) fun p hp => ⟨_, _, by simp; rfl, by simp [e4__law_right, r_step p.1 e.1 c st1 (hcars p hp)]; rfl, rfl⟩
      have f2 := lcL_pre (fun p : Lot × Int => encO (nStep p.1 e.1 c)) (gName 19) e5__law_right [some (.sh (.obj n)), some (.sh (encDay m evs)), some (.sh (.int m)), some (.sh (.tup (evs.map encEv))), some (.sh (.lst ((levC evs).map DC))), some (.ow (.lst ((emptyW evs).map fun a => .int (a : Nat)))), some (.sh (.lst ((sortK (kl evs)).map eL))), some (.ow (.lst ((List.range m.toNat).map fun c => .str (wordT (kl evs) (c : Nat))))), some (.sh (.int c)), tw.2, some (.ow (.lst (R.map DK))), some (.ow (.lst (done.map fun p => eL (fineT evs p.2 p.1)))), some (.sh (.int (done.length : Nat))), some (.sh (.str (wd e.1))), some (.sh (eL e.2)), some (.ow (.lst ((cs.filter (fineL evs done.length e.1 good)).map .int))), some (.ow (.lst ((cl (evs.take done.length)).map fun p => encO (nStep p.1 e.1 c)))), none, none, none] st1 (fun p => .bl (nextIn p.1 e.1 (fun n => decide (n ∈ good)) c)) (cl (evs.take done.length)) fun p hp => ⟨_, .sh (.bl (nextIn p.1 e.1 (fun n => decide (n ∈ good)) c)), by simp; rfl, by
        unfold nextIn
        cases hs : nStep p.1 e.1 c with
        | none => simp [e5__law_right, hs, isO_none]
        | some n => simp [e5__law_right, hs, isO_none, hgood, inN_Os], rfl⟩
      have hcl2 : cs.length ≤ 7 := by have := congrArg List.length ec; simp at this; omega
      have hcf := List.length_filter_le (fineL evs done.length e.1 good) cs
      have hcb2 : (cs.filter (fineL evs done.length e.1 good)).length + 1 ≤ 16777216 := by omega
      have hcb3 : (cs.filter (fineL evs done.length e.1 good)).length ≤ 16777216 := by omega
      refine ⟨_, (some (.sh (.int c)), some (.ow (.lst ((cl (evs.take done.length)).map fun p => encO (nStep p.1 e.1 c))))), by simp; rfl, ?_⟩
      have hf : (cl (evs.take done.length)).any (fun p => nextIn p.1 e.1 (fun n => decide (n ∈ good)) c) = fineL evs done.length e.1 good c := rfl
      cases hv : fineL evs done.length e.1 good c with
      | true =>
        rw [hv] at hf
        simp only [b6__law_right]
        simp [frz1, clr, hlev, srcD_dL, hcb, f1, f2, hf, -List.any_eq_true, -List.any_eq_false, oLst, wrAt, fExt, hcb2, List.filter_append, List.filter_cons, hv]
      | false =>
        rw [hv] at hf
        simp only [b6__law_right]
        simp [frz1, clr, hlev, srcD_dL, hcb, f1, f2, hf, -List.any_eq_true, -List.any_eq_false, oLst, wrAt, fExt, hcb3, List.filter_append, List.filter_cons, hv]) (t.1, t.2.2.2.2.2)
    rw [fineL_eq h hgm he (by rw [hR]; exact hgood)] at L2
    simp only [List.filter_nil, List.map_nil] at L2
    have hd : done.length < 16777216 := by omega
    refine ⟨_, (t2.1, some (.sh (.int (done.length : Nat))), some (.sh (.str (wd e.1))), some (.sh (eL e.2)), some (.ow (.lst ((fineT evs done.length e).map .int))), t2.2), by simp; rfl, ?_⟩
    simp only [b7__law_right]
    simp [oLst, frz1, L2, wrAt, fApp, hd]) (tw.1, none, none, none, none, none)
  simp only [List.map_nil] at Lr
  have hfin : ((evs.zipIdx 0).map fun p => eL (fineT evs p.2 p.1)) = (finesT evs).map eL := by unfold finesT; rw [List.map_map]; rfl
  rw [hfin] at Lr
  have hz2 := enum_map encEv evs 0
  have en1 := neE_lst (emptyW evs) (fun a => D.int (a : Nat)) (fun x hx => by simp) (.ro (.lst ((emptyW evs).map fun a => .int (a : Nat)))) st1 rfl true (.ow (.lst [])) rfl
  have en2 := neE_lst (emptyW evs) (fun a => D.int (a : Nat)) (fun x hx => by simp) (.ro (.lst ((emptyW evs).map fun a => .int (a : Nat)))) st1 rfl false (.ow (.lst [])) rfl
  have en3 := neE_lst (sortK (kl evs)) eL (fun x hx => by simp) (.ro (.lst ((sortK (kl evs)).map eL))) st1 rfl true (.ow (.lst [])) rfl
  have hft : (match (if (emptyW evs).isEmpty then (none : Option Nat) else (emptyW evs)[0]?) with | none => D.non | some a => .int (a : Nat)) = firstT evs := by
    unfold firstT
    cases emptyW evs <;> rfl
  have hpi : ∀ (s0 s1 s2 s3 s4 : Option SV) (tl : Lo), pIf (pOp (oEqE true) (a2 (pVar 5) (pOp oLst (aNil)))) (pOp oIx (a2 (pVar 5) (pC (.int 0)))) (pC .non) (s0 :: s1 :: s2 :: s3 :: s4 :: some (.ow (.lst ((emptyW evs).map fun a => .int (a : Nat)))) :: tl) st1 = some (.sh (firstT evs), st1) := fun s0 s1 s2 s3 s4 tl => by
    rw [← hft]
    cases hw : emptyW evs with
    | nil =>
      rw [hw] at en1
      simp only [List.map_nil] at en1
      simp [oLst, en1]
    | cons a l =>
      rw [hw] at en1
      simp only [List.map_cons] at en1
      simp [oLst, en1]
  have htd : toldT m evs = if (sortK (kl evs)).isEmpty then .non else .tup ((List.range m.toNat).map fun c => .str (wordT (kl evs) (c : Nat))) := by
    unfold toldT wordsT
    have : (sortK (kl evs)).isEmpty = decide (kl evs = []) := by
      rw [Bool.eq_iff_iff, List.isEmpty_iff, decide_eq_true_eq]
      constructor
      · intro z; exact List.length_eq_zero_iff.mp (by rw [← hp.length_eq, z]; rfl)
      · intro z; exact List.length_eq_zero_iff.mp (by rw [hp.length_eq, z]; rfl)
    rw [this]
    by_cases hk : kl evs = [] <;> simp [hk]
  have hpt : ∀ (s0 s1 s2 s3 s4 s5 : Option SV) (tl : Lo), pIf (pOp (oEqE true) (a2 (pVar 6) (pOp oLst (aNil)))) (pOp oTuple (aCons (pVar 7) (aNil))) (pC .non) (s0 :: s1 :: s2 :: s3 :: s4 :: s5 :: some (.ow (.lst ((sortK (kl evs)).map eL))) :: some (.ow (.lst ((List.range m.toNat).map fun c => .str (wordT (kl evs) (c : Nat))))) :: tl) st1 = some (.sh (toldT m evs), st1) := fun s0 s1 s2 s3 s4 s5 tl => by
    rw [htd]
    cases hw : (sortK (kl evs)).isEmpty <;> simp [oLst, en3, hw]
  have hcan : decide (kl evs ≠ []) = (emptyW evs).isEmpty := by
    rw [Bool.eq_iff_iff, decide_eq_true_eq, List.isEmpty_iff]; exact (empty_iff evs).symm
  have ncan := neE_bl (decide (kl evs ≠ [])) (emptyW evs).isEmpty st1
  rw [hcan, bne_self_eq_false] at ncan
  have hcb := r_can_be h st1
  rw [hcan] at hcb
  have nsum := neE_int ((cl evs).map (·.2)).sum ((cl evs).map (·.2)).sum st1
  rw [bne_self_eq_false] at nsum
  have nall := ne_same (d := .tup ((sortK (kl evs)).map eL)) (by simp only [okN_tup]; rw [okNL_iff]; simp) st1
  have hr8 := sRng1_int (aCons (pVar 2) aNil) [some (.sh (.obj n)), some (.sh (encDay m evs)), some (.sh (.int m)), some (.sh (.tup (evs.map encEv))), some (.ow (.lst ((levC evs).map DC))), some (.ow (.lst ((emptyW evs).map fun a => .int (a : Nat)))), some (.ow (.lst ((sortK (kl evs)).map eL))), some (.ow (.lst [])), none, none, none, none, none, none, none, none, none, none, none, none] st1 st1 m (by omega) (by omega) (by simp)
  have hll := levC_last evs
  have rf := rpd_first evs hlen
  have rt := rpd_told h
  have rc := rpd_fines h
  simp only [o__law_right, f__law_right]
  have hz' : enumL 0 (((levC evs).map DC).drop 1) = (((levC evs).drop 1).zipIdx 0).map fun p => .tup [.int (p.2 : Nat), DC p.1] := by rw [← List.map_drop]; exact hz
  have hvals := vals_dL D.int (cl evs)
  have hsum := sum_ints (cl evs) st1
  simp [frz1, e1, r_law_levels h, clr, sliceD, hz', hb1, hb2, hb3, em1, r_first_wrong h, -ev_pIf, hpi, r_repr rf, ne_txt rf, hcb, oLst, en2, ncan, -List.drop_one, r_how_many h, hll, hvals, hsum, nsum, r_all_inside h, hsd, nall, -ev_sRng1, hr8, Lw, r_told h, hpt, r_repr rt, ne_txt rt, hla, hz2, Lr, r_cars_of h, r_repr rc, ne_txt rc, ew]
end K80

end

section
namespace K80
open PySem PySem.Spec L2 PL
theorem law_pure (ns : List Int) (hn : ns.length ≤ 63) : ∃ st', o_law [.sh (.lst (ns.map .int))] [] = some (.sh (.bl true), st') := by
  have hp := r_places (ns.map D.int) 3 (by decide) []
  generalize hj : max 1 (min ((3 : Nat) : Int) ((ns.map D.int).length : Nat)) = j at hp
  have hj3 : j ≤ 3 := by omega
  obtain ⟨ρ', st', f1, t1, t2, rfl⟩ := forL_st (fun i : Int => D.int i) (gName 1) b1_law (fun done ρ st' => ∃ t1 t2, ρ = [some (.sh (.lst (ns.map .int))), t1, t2]) (intsUp j) (fun done x rest ed ρ st Q => by
    obtain ⟨t1, t2, rfl⟩ := Q
    have hx : 0 ≤ x ∧ x ≤ 10 := by
      have : x ∈ intsUp j := by rw [ed]; simp
      unfold intsUp at this
      obtain ⟨i, hi, rfl⟩ := List.mem_map.mp this
      rw [List.mem_range] at hi
      omega
    obtain ⟨own, small, e1, q1, q2, q3, q4⟩ := r_pot ns x hx.1 hx.2 st
    have P : Pot 0 st.length (st ++ [.lst [.int own, .int small, .int 0]]) := ⟨own, small, 0, by simp, q1, q2, q3, q4, by decide, by decide⟩
    obtain ⟨st2, e2, P2⟩ := r_right P (by decide)
    obtain ⟨st3, e3, P3⟩ := r_right P2 (by decide)
    refine ⟨_, [some (.sh (.lst (ns.map .int))), some (.sh (.int x)), some (.sh (.obj st.length))], st3, by simp; rfl, ?_, _, _, rfl⟩
    simp [b1_law, frz1, e1, e2, e3]) [some (.sh (.lst (ns.map .int))), none, none] [] ⟨_, _, rfl⟩
  refine ⟨st', ?_⟩
  have h3 : ((3 : Nat) : Int) = 3 := rfl
  rw [h3] at hp
  simp [o_law, f_law, frz1, hp, f1]
end K80

end

section
set_option maxHeartbeats 4000000
namespace K80
open PySem PySem.Spec L2 PL
/-! ### the program -/
def top (i : Nat) : Stmt := PySem.Challenge.pw_nevermisread_k80_whole_yards_by_own_leve.main.body.getD i (.Pass ⟨0, 0, 0, 0⟩)
structure Fs (K : PySem.W.Frag) (mg : Str → Option Value) : Prop where
  c_IN : ∃ t, mg "IN" = some (.str "in" t)
  c_MOST_CARS : ∃ t, mg "MOST_CARS" = some (.int 10 t)
  c_MOST_EVENTS : ∃ t, mg "MOST_EVENTS" = some (.int 40 t)
  c_NEVER : ∃ t, mg "NEVER" = some (.str "never" t)
  c_OPEN : ∃ t, mg "OPEN" = some (.str "open" t)
  c_OUT : ∃ t, mg "OUT" = some (.str "out" t)
  c_PAIR : ∃ t, mg "PAIR" = some (.int 2 t)
  c_SURE : ∃ t, mg "SURE" = some (.str "sure" t)
  b_abs : mg "abs" = none
  b_all : mg "all" = none
  b_any : mg "any" = none
  b_bool : mg "bool" = none
  b_dict : mg "dict" = none
  b_enumerate : mg "enumerate" = none
  b_int : mg "int" = none
  b_isinstance : mg "isinstance" = none
  b_len : mg "len" = none
  b_list : mg "list" = none
  b_max : mg "max" = none
  b_min : mg "min" = none
  b_range : mg "range" = none
  b_repr : mg "repr" = none
  b_set : mg "set" = none
  b_sorted : mg "sorted" = none
  b_str : mg "str" = none
  b_sum : mg "sum" = none
  b_tuple : mg "tuple" = none
  b_zip : mg "zip" = none
  d__law_places : ∃ f fd, mg "_law_places" = some (.ref f) ∧ FunD K "_law_places" "_law_places" (defArgs (top 40)) (defBody (top 40)) (defScope (top 40)) [] [] f fd
  d__law_pot : ∃ f fd, mg "_law_pot" = some (.ref f) ∧ FunD K "_law_pot" "_law_pot" (defArgs (top 37)) (defBody (top 37)) (defScope (top 37)) [] [] f fd
  d__law_step : ∃ f fd, mg "_law_step" = some (.ref f) ∧ FunD K "_law_step" "_law_step" (defArgs (top 43)) (defBody (top 43)) (defScope (top 43)) [] [] f fd
  d__law_first_way : ∃ f fd, mg "_law_first_way" = some (.ref f) ∧ FunD K "_law_first_way" "_law_first_way" (defArgs (top 46)) (defBody (top 46)) (defScope (top 46)) [] [] f fd
  d__law_is_int : ∃ f fd, mg "_law_is_int" = some (.ref f) ∧ FunD K "_law_is_int" "_law_is_int" (defArgs (top 42)) (defBody (top 42)) (defScope (top 42)) [] [] f fd
  d__law_inside : ∃ f fd, mg "_law_inside" = some (.ref f) ∧ FunD K "_law_inside" "_law_inside" (defArgs (top 47)) (defBody (top 47)) (defScope (top 47)) [] [] f fd
  d__law_lasts : ∃ f fd, mg "_law_lasts" = some (.ref f) ∧ FunD K "_law_lasts" "_law_lasts" (defArgs (top 45)) (defBody (top 45)) (defScope (top 45)) [] [] f fd
  d__law_take : ∃ f fd, mg "_law_take" = some (.ref f) ∧ FunD K "_law_take" "_law_take" (defArgs (top 38)) (defBody (top 38)) (defScope (top 38)) [] [] f fd
  d__law_some : ∃ f fd, mg "_law_some" = some (.ref f) ∧ FunD K "_law_some" "_law_some" (defArgs (top 41)) (defBody (top 41)) (defScope (top 41)) [] [] f fd
  d_behind_of : ∃ f fd, mg "behind_of" = some (.ref f) ∧ FunD K "behind_of" "behind_of" (defArgs (top 22)) (defBody (top 22)) (defScope (top 22)) [] [] f fd
  d_is_whole : ∃ f fd, mg "is_whole" = some (.ref f) ∧ FunD K "is_whole" "is_whole" (defArgs (top 2)) (defBody (top 2)) (defScope (top 2)) [] [] f fd
  d_is_integer : ∃ f fd, mg "is_integer" = some (.ref f) ∧ FunD K "is_integer" "is_integer" (defArgs (top 3)) (defBody (top 3)) (defScope (top 3)) [] [] f fd
  d_is_rising : ∃ f fd, mg "is_rising" = some (.ref f) ∧ FunD K "is_rising" "is_rising" (defArgs (top 5)) (defBody (top 5)) (defScope (top 5)) [] [] f fd
  d_is_tuple : ∃ f fd, mg "is_tuple" = some (.ref f) ∧ FunD K "is_tuple" "is_tuple" (defArgs (top 1)) (defBody (top 1)) (defScope (top 1)) [] [] f fd
  d_is_word : ∃ f fd, mg "is_word" = some (.ref f) ∧ FunD K "is_word" "is_word" (defArgs (top 4)) (defBody (top 4)) (defScope (top 4)) [] [] f fd
  d_is_event : ∃ f fd, mg "is_event" = some (.ref f) ∧ FunD K "is_event" "is_event" (defArgs (top 19)) (defBody (top 19)) (defScope (top 19)) [] [] f fd
  d_is_day : ∃ f fd, mg "is_day" = some (.ref f) ∧ FunD K "is_day" "is_day" (defArgs (top 20)) (defBody (top 20)) (defScope (top 20)) [] [] f fd
  d_check_day : ∃ f fd, mg "check_day" = some (.ref f) ∧ FunD K "check_day" "check_day" (defArgs (top 21)) (defBody (top 21)) (defScope (top 21)) [] [] f fd
  d_inside_by : ∃ f fd, mg "inside_by" = some (.ref f) ∧ FunD K "inside_by" "inside_by" (defArgs (top 33)) (defBody (top 33)) (defScope (top 33)) [] [] f fd
  d_check_car : ∃ f fd, mg "check_car" = some (.ref f) ∧ FunD K "check_car" "check_car" (defArgs (top 29)) (defBody (top 29)) (defScope (top 29)) [] [] f fd
  d_levels_of : ∃ f fd, mg "levels_of" = some (.ref f) ∧ FunD K "levels_of" "levels_of" (defArgs (top 23)) (defBody (top 23)) (defScope (top 23)) [] [] f fd
  d_way_to : ∃ f fd, mg "way_to" = some (.ref f) ∧ FunD K "way_to" "way_to" (defArgs (top 30)) (defBody (top 30)) (defScope (top 30)) [] [] f fd
  d_way_in : ∃ f fd, mg "way_in" = some (.ref f) ∧ FunD K "way_in" "way_in" (defArgs (top 31)) (defBody (top 31)) (defScope (top 31)) [] [] f fd
  d_way_out : ∃ f fd, mg "way_out" = some (.ref f) ∧ FunD K "way_out" "way_out" (defArgs (top 32)) (defBody (top 32)) (defScope (top 32)) [] [] f fd
  d__law_are_ways_right : ∃ f fd, mg "_law_are_ways_right" = some (.ref f) ∧ FunD K "_law_are_ways_right" "_law_are_ways_right" (defArgs (top 49)) (defBody (top 49)) (defScope (top 49)) [] [] f fd
  d__law_of : ∃ f fd, mg "_law_of" = some (.ref f) ∧ FunD K "_law_of" "_law_of" (defArgs (top 39)) (defBody (top 39)) (defScope (top 39)) [] [] f fd
  d__law_day : ∃ f fd, mg "_law_day" = some (.ref f) ∧ FunD K "_law_day" "_law_day" (defArgs (top 48)) (defBody (top 48)) (defScope (top 48)) [] [] f fd
  d__law_levels : ∃ f fd, mg "_law_levels" = some (.ref f) ∧ FunD K "_law_levels" "_law_levels" (defArgs (top 44)) (defBody (top 44)) (defScope (top 44)) [] [] f fd
  d_all_inside : ∃ f fd, mg "all_inside" = some (.ref f) ∧ FunD K "all_inside" "all_inside" (defArgs (top 26)) (defBody (top 26)) (defScope (top 26)) [] [] f fd
  d_can_be : ∃ f fd, mg "can_be" = some (.ref f) ∧ FunD K "can_be" "can_be" (defArgs (top 25)) (defBody (top 25)) (defScope (top 25)) [] [] f fd
  d_kept_of : ∃ f fd, mg "kept_of" = some (.ref f) ∧ FunD K "kept_of" "kept_of" (defArgs (top 24)) (defBody (top 24)) (defScope (top 24)) [] [] f fd
  d_cars_of : ∃ f fd, mg "cars_of" = some (.ref f) ∧ FunD K "cars_of" "cars_of" (defArgs (top 34)) (defBody (top 34)) (defScope (top 34)) [] [] f fd
  d_first_wrong : ∃ f fd, mg "first_wrong" = some (.ref f) ∧ FunD K "first_wrong" "first_wrong" (defArgs (top 28)) (defBody (top 28)) (defScope (top 28)) [] [] f fd
  d_how_many_ways : ∃ f fd, mg "how_many_ways" = some (.ref f) ∧ FunD K "how_many_ways" "how_many_ways" (defArgs (top 35)) (defBody (top 35)) (defScope (top 35)) [] [] f fd
  d_told : ∃ f fd, mg "told" = some (.ref f) ∧ FunD K "told" "told" (defArgs (top 27)) (defBody (top 27)) (defScope (top 27)) [] [] f fd
  d__law_right : ∃ f fd, mg "_law_right" = some (.ref f) ∧ FunD K "_law_right" "_law_right" (defArgs (top 50)) (defBody (top 50)) (defScope (top 50)) [] [] f fd
  d_law : ∃ f fd, mg "law" = some (.ref f) ∧ FunD K "law" "law" (defArgs (top 51)) (defBody (top 51)) (defScope (top 51)) [] [] f fd
def DOk (P : Program) (w : World) (K : PySem.W.Frag) (mg : Str → Option Value) (k : Nat) (x : Str) (op : Op) : Prop := ∃ f, mg x = some (.ref f) ∧ PySem.W.keepIn K (.ref f) = true ∧ ∀ base, FnG P w K mg base k f op
section
variable {P : Program} {w : World} {K : PySem.W.Frag} {mg : Str → Option Value}
theorem sc__law_places : FnScope ["script", "most"] ["script", "most"] (defScope (top 40)) := ⟨rfl, rfl, rfl, by decide +kernel, rfl, by decide +kernel, by decide +kernel⟩
theorem g__law_places (F : Fs K mg) : DOk P w K mg 1 "_law_places" o__law_places := by
  have S := sc__law_places
  obtain ⟨f, fd, hm, D⟩ := F.d__law_places
  refine ⟨f, hm, D.kp, fun base => fg_ofD (k := 0) D S rfl (fun _ _ _ _ _ _ us hl => match us, hl with | [_, _], _ => rfl) fun cdv A outer s H hr hg => ?_⟩
  have hU : ∀ n, n ≤ 200 → (A.deeper (PyProof.Rows.envOfC "_law_places" (defScope (top 40)) s.heap.objs.size f cdv)).units + n < cLine := fun n h => by have := hr.un; omega
  exact (bx_one (sx_ret (px_listRng rfl rfl F.b_list rfl F.b_range (px_callB (s_max rfl) rfl F.b_max rfl (ax_cons px_int (ax_cons (px_callB (s_min rfl) rfl F.b_min rfl (ax_cons (px_var 1) (ax_cons (px_callB s_len rfl F.b_len rfl (ax_cons (px_var 0) ax_nil)) ax_nil))) ax_nil))))))
theorem sc__law_pot : FnScope ["script", "place", "cell", "own", "small"] ["script", "place"] (defScope (top 37)) := ⟨rfl, rfl, rfl, by decide +kernel, rfl, by decide +kernel, by decide +kernel⟩
theorem g__law_pot (F : Fs K mg) : DOk P w K mg 1 "_law_pot" o__law_pot := by
  have S := sc__law_pot
  obtain ⟨f, fd, hm, D⟩ := F.d__law_pot
  refine ⟨f, hm, D.kp, fun base => fg_ofD (k := 0) D S rfl (fun _ _ _ _ _ _ us hl => match us, hl with | [_, _], _ => rfl) fun cdv A outer s H hr hg => ?_⟩
  have hU : ∀ n, n ≤ 200 → (A.deeper (PyProof.Rows.envOfC "_law_pot" (defScope (top 37)) s.heap.objs.size f cdv)).units + n < cLine := fun n h => by have := hr.un; omega
  exact (bx_cons (sx_put false 2 S.nd (px_if (tx_cmp (s_cmp c_lt) oCmp_b (px_var 1) (px_callB s_len rfl F.b_len rfl (ax_cons (px_var 0) ax_nil)) (nomark _)) (px_ix (s_ix (hU 1 (by decide))) (px_var 0) (px_var 1) (fun _ _ => rfl)) (px_bin s_add (px_bin s_add (px_bin s_mod (px_callB (s_sum rfl) rfl F.b_sum rfl (ax_cons (px_slice (px_var 0) ox_no (ox_int px_int)) ax_nil)) px_int) (px_bin s_mul px_int (px_var 1))) px_int))) (bx_cons (sx_put false 3 S.nd (px_bin s_mul (px_bin s_mod (px_callTy s_int rfl F.b_int rfl (ax_cons (px_callB s_abs rfl F.b_abs rfl (ax_cons (px_var 2) ax_nil)) ax_nil)) (px_bin s_pow (px_bin s_pow px_int px_int) px_int)) (px_callTy s_int rfl F.b_int rfl (ax_cons (px_cmp (s_cmp c_ge) (px_callB s_abs rfl F.b_abs rfl (ax_cons (px_var 2) ax_nil)) (px_bin s_pow px_int px_int) (nomark _)) ax_nil)))) (bx_cons (sx_put false 4 S.nd (px_bin s_mod (px_callTy s_int rfl F.b_int rfl (ax_cons (px_var 2) ax_nil)) px_int)) (bx_one (sx_frz [3] (sx_ret (px_lst (ax_cons (px_var 3) (ax_cons (px_bin s_mod (px_callTy s_int rfl F.b_int rfl (ax_cons (px_bin s_add (px_bin s_add (px_bin s_mul (px_var 4) px_int) (px_bin s_mul (px_bin s_mul px_int (px_var 1)) (px_var 1))) px_int) ax_nil)) px_int) (ax_cons px_int ax_nil))))))))))
theorem sc__law_step : FnScope ["lot", "word", "car", "one"] ["lot", "word", "car"] (defScope (top 43)) := ⟨rfl, rfl, rfl, by decide +kernel, rfl, by decide +kernel, by decide +kernel⟩
theorem g__law_step (F : Fs K mg) : DOk P w K mg 1 "_law_step" o__law_step := by
  have S := sc__law_step
  obtain ⟨f, fd, hm, D⟩ := F.d__law_step
  refine ⟨f, hm, D.kp, fun base => fg_ofD (k := 0) D S rfl (fun _ _ _ _ _ _ us hl => match us, hl with | [_, _, _], _ => rfl) fun cdv A outer s H hr hg => ?_⟩
  have hU : ∀ n, n ≤ 200 → (A.deeper (PyProof.Rows.envOfC "_law_step" (defScope (top 43)) s.heap.objs.size f cdv)).units + n < cLine := fun n h => by have := hr.un; omega
  exact (bx_cons (sx_if (tx_cmp (s_eqE (hU 64 (by decide))) oEqE_b (px_cmp (s_eqE (hU 64 (by decide))) (px_var 1) px_str (nomark _)) (px_cmp (s_inN (hU 65 (by decide))) (px_var 2) (px_var 0) rfl) (nomark _)) (bx_one (sx_ret px_non)) bx_nil) (bx_one (sx_frz [2, 3] (sx_ret (px_if (tx_cmp (s_eqE (hU 64 (by decide))) oEqE_b (px_var 1) px_str (nomark _)) (px_callTy s_tuple rfl F.b_tuple rfl (ax_cons (px_callB (s_sorted rfl (hU 100 (by decide))) rfl F.b_sorted rfl (ax_cons (px_bin s_add (px_var 0) (px_tup (ax_cons (px_var 2) ax_nil))) ax_nil)) ax_nil)) (px_callTy s_tuple rfl F.b_tuple rfl (ax_cons (px_lc1 rfl S.nd (ix_any (px_var 0)) (own := [("one", 3)]) (blk_of (by kernel_rfl)) (fun _ _ _ _ _ => (gx_name 3 S.nd)) (fun _ _ _ _ _ => (tx_cmp (s_neE (hU 64 (by decide))) oEqE_b (px_var 3) (px_var 2) (nomark _))) (fun _ _ _ _ _ => (px_var 3))) ax_nil)))))))
theorem sc__law_first_way : FnScope ["day", "good", "here", "found", "at", "word", "some", "car"] ["day", "good"] (defScope (top 46)) := ⟨rfl, rfl, rfl, by decide +kernel, rfl, by decide +kernel, by decide +kernel⟩
theorem g__law_first_way (F : Fs K mg) : DOk P w K mg 2 "_law_first_way" o__law_first_way := by
  have S := sc__law_first_way
  obtain ⟨f, fd, hm, D⟩ := F.d__law_first_way
  obtain ⟨f__law_step, m__law_step, k__law_step, G__law_step⟩ := g__law_step (P := P) (w := w) F
  refine ⟨f, hm, D.kp, fun base => fg_ofD (k := 1) D S rfl (fun _ _ _ _ _ _ us hl => match us, hl with | [_, _], _ => rfl) fun cdv A outer s H hr hg => ?_⟩
  have hU : ∀ n, n ≤ 200 → (A.deeper (PyProof.Rows.envOfC "_law_first_way" (defScope (top 46)) s.heap.objs.size f cdv)).units + n < cLine := fun n h => by have := hr.un; omega
  exact (bx_cons (sx_if (tx_cmp (s_notInN (hU 65 (by decide))) oInN_b (px_tup ax_nil) (px_ix (s_ix (hU 1 (by decide))) (px_var 1) px_int (fun _ _ => rfl)) rfl) (bx_one (sx_ret px_non)) bx_nil) (bx_cons (sx_par2c false false 2 3 rfl S.nd (ax_cons (px_tup ax_nil) (ax_cons (px_lst ax_nil) ax_nil))) (bx_cons (sx_for PassesOwn.never rfl (ix_enum rfl F.b_enumerate (ax_cons (px_ix (s_ix (hU 1 (by decide))) (px_var 0) px_int (fun _ _ => rfl)) ax_nil)) (gx_tup rfl (gsx_cons (gx_name 4 S.nd) (gsx_cons (gx_tup rfl (gsx_cons (gx_name 5 S.nd) (gsx_cons (gx_name 6 S.nd) gsx_nil))) gsx_nil))) (bx_cons (sx_clr [7] (sx_frz [7, 2, 5] (sx_put false 7 S.nd (px_ix (s_ix (hU 1 (by decide))) (px_lc1 rfl S.nd (ix_any (px_var 6)) (own := [("car", 7)]) (blk_of (by kernel_rfl)) (fun _ _ _ _ _ => (gx_name 7 S.nd)) (fun _ _ _ _ _ => (tx_cmp (s_inN (hU 65 (by decide))) oInN_b (px_fg (G__law_step _) hr (by decide) hg rfl m__law_step k__law_step (ax_cons (px_var 2) (ax_cons (px_var 5) (ax_cons (px_var 7) ax_nil)))) (px_ix (s_ix (hU 1 (by decide))) (px_var 1) (px_bin s_add (px_var 4) px_int) (fun _ _ => rfl)) rfl)) (fun _ _ _ _ _ => (px_var 7))) px_int (fun _ _ => rfl))))) (bx_cons (sx_frz [2, 5, 7] (sx_put false 2 S.nd (px_fg (G__law_step _) hr (by decide) hg rfl m__law_step k__law_step (ax_cons (px_var 2) (ax_cons (px_var 5) (ax_cons (px_var 7) ax_nil)))))) (bx_one (sx_frz [7] (sx_app 3 (px_var 7))))))) (bx_one (sx_ret (px_callTy s_tuple rfl F.b_tuple rfl (ax_cons (px_var 3) ax_nil)))))))
theorem sc__law_is_int : FnScope ["value", "low", "high"] ["value", "low", "high"] (defScope (top 42)) := ⟨rfl, rfl, rfl, by decide +kernel, rfl, by decide +kernel, by decide +kernel⟩
theorem g__law_is_int (F : Fs K mg) : DOk P w K mg 1 "_law_is_int" o__law_is_int := by
  have S := sc__law_is_int
  obtain ⟨f, fd, hm, D⟩ := F.d__law_is_int
  refine ⟨f, hm, D.kp, fun base => fg_ofD (k := 0) D S rfl (fun _ _ _ _ _ _ us hl => match us, hl with | [_, _, _], _ => rfl) fun cdv A outer s H hr hg => ?_⟩
  have hU : ∀ n, n ≤ 200 → (A.deeper (PyProof.Rows.envOfC "_law_is_int" (defScope (top 42)) s.heap.objs.size f cdv)).units + n < cLine := fun n h => by have := hr.un; omega
  exact (bx_one (sx_ret (px_and (px_isi TyAsk.int rfl F.b_isinstance rfl F.b_int rfl (px_var 0)) (px_and (px_not (px_isi TyAsk.bl rfl F.b_isinstance rfl F.b_bool rfl (px_var 0))) (px_and1 (px_chain c_le c_le (px_var 1) (px_var 0) (px_var 2)))))))
theorem sc__law_inside : FnScope ["day", "way", "here", "car", "word", "some"] ["day", "way"] (defScope (top 47)) := ⟨rfl, rfl, rfl, by decide +kernel, rfl, by decide +kernel, by decide +kernel⟩
theorem g__law_inside (F : Fs K mg) : DOk P w K mg 2 "_law_inside" o__law_inside := by
  have S := sc__law_inside
  obtain ⟨f, fd, hm, D⟩ := F.d__law_inside
  obtain ⟨f__law_is_int, m__law_is_int, k__law_is_int, G__law_is_int⟩ := g__law_is_int (P := P) (w := w) F
  obtain ⟨f__law_step, m__law_step, k__law_step, G__law_step⟩ := g__law_step (P := P) (w := w) F
  refine ⟨f, hm, D.kp, fun base => fg_ofD (k := 1) D S rfl (fun _ _ _ _ _ _ us hl => match us, hl with | [_, _], _ => rfl) fun cdv A outer s H hr hg => ?_⟩
  have hU : ∀ n, n ≤ 200 → (A.deeper (PyProof.Rows.envOfC "_law_inside" (defScope (top 47)) s.heap.objs.size f cdv)).units + n < cLine := fun n h => by have := hr.un; omega
  exact (bx_cons (sx_if (tx_bool (wx_or (tx_not (tx_val (px_isi TyAsk.tup rfl F.b_isinstance rfl F.b_tuple rfl (px_var 1)))) (wx_or1 (tx_cmp (s_neE (hU 64 (by decide))) oEqE_b (px_callB s_len rfl F.b_len rfl (ax_cons (px_var 1) ax_nil)) (px_callB s_len rfl F.b_len rfl (ax_cons (px_ix (s_ix (hU 1 (by decide))) (px_var 0) px_int (fun _ _ => rfl)) ax_nil)) (nomark _))))) (bx_one (sx_ret px_non)) bx_nil) (bx_cons (sx_put false 2 S.nd (px_tup ax_nil)) (bx_cons (sx_frz [1] (sx_for PassesOwn.never rfl (ix_zip2 rfl F.b_zip (ax_cons (px_var 1) (ax_cons (px_ix (s_ix (hU 1 (by decide))) (px_var 0) px_int (fun _ _ => rfl)) ax_nil))) (gx_tup rfl (gsx_cons (gx_name 3 S.nd) (gsx_cons (gx_tup rfl (gsx_cons (gx_name 4 S.nd) (gsx_cons (gx_name 5 S.nd) gsx_nil))) gsx_nil))) (bx_cons (sx_frz [3] (sx_if (tx_bool (wx_or (tx_not (tx_val (px_fg (G__law_is_int _) hr (by decide) hg rfl m__law_is_int k__law_is_int (ax_cons (px_var 3) (ax_cons px_int (ax_cons (px_bin s_sub (px_ix (s_ix (hU 1 (by decide))) (px_var 0) px_int (fun _ _ => rfl)) px_int) ax_nil)))))) (wx_or1 (tx_cmp (s_notInN (hU 65 (by decide))) oInN_b (px_var 3) (px_var 5) rfl)))) (bx_one (sx_ret px_non)) bx_nil)) (bx_cons (sx_frz [2, 4, 3] (sx_put false 2 S.nd (px_fg (G__law_step _) hr (by decide) hg rfl m__law_step k__law_step (ax_cons (px_var 2) (ax_cons (px_var 4) (ax_cons (px_var 3) ax_nil)))))) (bx_one (sx_if (tx_cmp s_is oIs_b (px_var 2) px_non (nomark _)) (bx_one (sx_ret px_non)) bx_nil)))))) (bx_one (sx_retV 2)))))
theorem sc__law_lasts : FnScope ["day", "levels", "goals", "good", "at", "word", "some", "mine", "lot", "car"] ["day", "levels", "goals"] (defScope (top 45)) := ⟨rfl, rfl, rfl, by decide +kernel, rfl, by decide +kernel, by decide +kernel⟩
theorem g__law_lasts (F : Fs K mg) : DOk P w K mg 2 "_law_lasts" o__law_lasts := by
  have S := sc__law_lasts
  obtain ⟨f, fd, hm, D⟩ := F.d__law_lasts
  obtain ⟨f__law_step, m__law_step, k__law_step, G__law_step⟩ := g__law_step (P := P) (w := w) F
  refine ⟨f, hm, D.kp, fun base => fg_ofD (k := 1) D S rfl (fun _ _ _ _ _ _ us hl => match us, hl with | [_, _, _], _ => rfl) fun cdv A outer s H hr hg => ?_⟩
  have hU : ∀ n, n ≤ 200 → (A.deeper (PyProof.Rows.envOfC "_law_lasts" (defScope (top 45)) s.heap.objs.size f cdv)).units + n < cLine := fun n h => by have := hr.un; omega
  exact (bx_cons (sx_clr [8] (sx_frz [8] (sx_put false 3 S.nd (px_lst (ax_cons (px_callTy (s_dictT (hU 2 (by decide)) rfl) rfl F.b_dict rfl (ax_cons (px_lc0 rfl S.nd (ix_any (px_var 2)) (own := [("lot", 8)]) (blk_of (by kernel_rfl)) (fun _ _ _ _ _ => (gx_name 8 S.nd)) (fun _ _ _ _ _ => (px_tup (ax_cons (px_var 8) (ax_cons px_bl ax_nil))))) ax_nil)) ax_nil))))) (bx_cons (sx_for PassesOwn.never rfl (ix_range3 rfl F.b_range (ax_cons (px_bin s_sub (px_callB s_len rfl F.b_len rfl (ax_cons (px_ix (s_ix (hU 1 (by decide))) (px_var 0) px_int (fun _ _ => rfl)) ax_nil)) px_int) (ax_cons (px_un s_neg px_int) (ax_cons (px_un s_neg px_int) ax_nil)))) (gx_name 4 S.nd) (bx_cons (sx_asgT (px_ix (s_ix (hU 1 (by decide))) (px_ix (s_ix (hU 1 (by decide))) (px_var 0) px_int (fun _ _ => rfl)) (px_var 4) (fun _ _ => rfl)) (gx_tup rfl (gsx_cons (gx_name 5 S.nd) (gsx_cons (gx_name 6 S.nd) gsx_nil)))) (bx_cons (sx_put false 7 S.nd px_dt) (bx_cons (sx_for PassesOwn.never rfl (ix_any (px_ix (s_ix (hU 1 (by decide))) (px_var 1) (px_var 4) (fun _ _ => rfl))) (gx_name 8 S.nd) (bx_one (sx_frz [8, 5, 9] (sx_if (tx_val (px_callB (s_any rfl) rfl F.b_any rfl (ax_cons (px_lc0 rfl S.nd (ix_any (px_var 6)) (own := [("car", 9)]) (blk_of (by kernel_rfl)) (fun _ _ _ _ _ => (gx_name 9 S.nd)) (fun _ _ _ _ _ => (px_cmp (s_inN (hU 65 (by decide))) (px_fg (G__law_step _) hr (by decide) hg rfl m__law_step k__law_step (ax_cons (px_var 8) (ax_cons (px_var 5) (ax_cons (px_var 9) ax_nil)))) (px_ix (s_ix (hU 1 (by decide))) (px_var 3) px_int (fun _ _ => rfl)) rfl))) ax_nil))) (bx_one (sx_putIx (hU 1 (by decide)) 7 (px_var 8) px_bl)) bx_nil)))) (bx_one (sx_frz [7] (sx_put false 3 S.nd (px_bin s_add (px_lst (ax_cons (px_var 7) ax_nil)) (px_var 3))))))))) (bx_one (sx_retV 3))))
theorem sc__law_take : FnScope ["pot", "upto", "digit", "prime", "blend"] ["pot", "upto"] (defScope (top 38)) := ⟨rfl, rfl, rfl, by decide +kernel, rfl, by decide +kernel, by decide +kernel⟩
theorem g__law_take (F : Fs K mg) : DOk P w K mg 1 "_law_take" o__law_take := by
  have S := sc__law_take
  obtain ⟨f, fd, hm, D⟩ := F.d__law_take
  refine ⟨f, hm, D.kp, fun base => fg_ofD (k := 0) D S rfl (fun _ _ _ _ _ _ us hl => match us, hl with | [_, _], _ => rfl) fun cdv A outer s H hr hg => ?_⟩
  have hU : ∀ n, n ≤ 200 → (A.deeper (PyProof.Rows.envOfC "_law_take" (defScope (top 38)) s.heap.objs.size f cdv)).units + n < cLine := fun n h => by have := hr.un; omega
  exact (bx_cons (sx_if (tx_cmp (s_cmp c_gt) oCmp_b (px_ix (s_ix (hU 1 (by decide))) (px_var 0) px_int (fun _ _ => rfl)) px_int (nomark _)) (bx_cons (sx_put false 2 S.nd (px_bin s_mod (px_callTy s_int rfl F.b_int rfl (ax_cons (px_ix (s_ix (hU 1 (by decide))) (px_var 0) px_int (fun _ _ => rfl)) ax_nil)) (px_var 1))) (bx_cons (sx_putIx (hU 1 (by decide)) 0 px_int (px_bin s_fdiv (px_ix (s_ix (hU 1 (by decide))) (px_var 0) px_int (fun _ _ => rfl)) (px_var 1))) (bx_one (sx_retV 2)))) bx_nil) (bx_cons (sx_putIx (hU 1 (by decide)) 0 px_int (px_bin s_add (px_ix (s_ix (hU 1 (by decide))) (px_var 0) px_int (fun _ _ => rfl)) px_int)) (bx_cons (sx_put false 3 S.nd (px_ix (s_ix (hU 1 (by decide))) (px_lst (ax_cons px_int (ax_cons px_int (ax_cons px_int (ax_cons px_int (ax_cons px_int ax_nil)))))) (px_bin s_mod (px_callTy s_int rfl F.b_int rfl (ax_cons (px_ix (s_ix (hU 1 (by decide))) (px_var 0) px_int (fun _ _ => rfl)) ax_nil)) px_int) (fun _ _ => rfl))) (bx_cons (sx_put false 4 S.nd (px_bin s_mod (px_callTy s_int rfl F.b_int rfl (ax_cons (px_bin s_pow (px_callTy s_int rfl F.b_int rfl (ax_cons (px_bin s_add (px_bin s_add (px_ix (s_ix (hU 1 (by decide))) (px_var 0) px_int (fun _ _ => rfl)) (px_bin s_mul (px_bin s_mul px_int (px_ix (s_ix (hU 1 (by decide))) (px_var 0) px_int (fun _ _ => rfl))) (px_ix (s_ix (hU 1 (by decide))) (px_var 0) px_int (fun _ _ => rfl)))) px_int) ax_nil)) px_int) ax_nil)) (px_var 3))) (bx_cons (sx_put false 4 S.nd (px_bin s_mod (px_callTy s_int rfl F.b_int rfl (ax_cons (px_bin s_mul (px_var 4) (px_bin s_add (px_bin s_mod (px_callTy s_int rfl F.b_int rfl (ax_cons (px_var 4) ax_nil)) px_int) (px_bin s_mul px_int (px_ix (s_ix (hU 1 (by decide))) (px_var 0) px_int (fun _ _ => rfl))))) ax_nil)) px_int)) (bx_one (sx_ret (px_bin s_mod (px_callTy s_int rfl F.b_int rfl (ax_cons (px_bin s_fdiv (px_var 4) px_int) ax_nil)) (px_var 1)))))))))
theorem sc__law_some : FnScope ["pot", "pool", "many", "rests", "found", "lap"] ["pot", "pool", "many"] (defScope (top 41)) := ⟨rfl, rfl, rfl, by decide +kernel, rfl, by decide +kernel, by decide +kernel⟩
theorem g__law_some (F : Fs K mg) : DOk P w K mg 2 "_law_some" o__law_some := by
  have S := sc__law_some
  obtain ⟨f, fd, hm, D⟩ := F.d__law_some
  obtain ⟨f__law_take, m__law_take, k__law_take, G__law_take⟩ := g__law_take (P := P) (w := w) F
  refine ⟨f, hm, D.kp, fun base => fg_ofD (k := 1) D S rfl (fun _ _ _ _ _ _ us hl => match us, hl with | [_, _, _], _ => rfl) fun cdv A outer s H hr hg => ?_⟩
  have hU : ∀ n, n ≤ 200 → (A.deeper (PyProof.Rows.envOfC "_law_some" (defScope (top 41)) s.heap.objs.size f cdv)).units + n < cLine := fun n h => by have := hr.un; omega
  exact (bx_cons (sx_par2 true false 3 4 rfl S.nd (ax_cons (px_callTy (s_list rfl) rfl F.b_list rfl (ax_cons (px_var 1) ax_nil)) (ax_cons (px_lst ax_nil) ax_nil))) (bx_cons (sx_for PassesOwn.never rfl (ix_range1 rfl F.b_range (ax_cons (px_var 2) ax_nil)) (gx_name 5 S.nd) (bx_one (sx_frz [0] (sx_app 4 (px_mt PySem.F.plainAttrs_list PySem.F.slot_list_pop PySem.F.type_list_pop m_popAt (fun _ _ _ _ _ r e => isLst_ty r e) (px_var 3) (ax_cons (px_fg (G__law_take _) hr (by decide) hg rfl m__law_take k__law_take (ax_cons (px_var 0) (ax_cons (px_callB s_len rfl F.b_len rfl (ax_cons (px_var 3) ax_nil)) ax_nil))) ax_nil)))))) (bx_one (sx_retV 4))))
theorem sc_behind_of : FnScope ["inside", "event", "found", "car", "one"] ["inside", "event"] (defScope (top 22)) := ⟨rfl, rfl, rfl, by decide +kernel, rfl, by decide +kernel, by decide +kernel⟩
theorem g_behind_of (F : Fs K mg) : DOk P w K mg 1 "behind_of" o_behind_of := by
  have S := sc_behind_of
  obtain ⟨f, fd, hm, D⟩ := F.d_behind_of
  refine ⟨f, hm, D.kp, fun base => fg_ofD (k := 0) D S rfl (fun _ _ _ _ _ _ us hl => match us, hl with | [_, _], _ => rfl) fun cdv A outer s H hr hg => ?_⟩
  have hU : ∀ n, n ≤ 200 → (A.deeper (PyProof.Rows.envOfC "behind_of" (defScope (top 22)) s.heap.objs.size f cdv)).units + n < cLine := fun n h => by have := hr.un; omega
  exact (bx_cons (sx_put false 2 S.nd (px_lst ax_nil)) (bx_cons (sx_for PassesOwn.never rfl (ix_any (px_ix (s_ix (hU 1 (by decide))) (px_var 1) px_int (fun _ _ => rfl))) (gx_name 3 S.nd) (bx_cons (sx_if (tx_bool (wx_and (tx_cmp (s_eqE (hU 64 (by decide))) oEqE_b (px_ix (s_ix (hU 1 (by decide))) (px_var 1) px_int (fun _ _ => rfl)) (px_globS rfl F.c_IN) (nomark _)) (wx_and1 (tx_cmp (s_notInN (hU 65 (by decide))) oInN_b (px_var 3) (px_var 0) rfl)))) (bx_one (sx_frz [3] (sx_app 2 (px_tup (ax_cons (px_var 3) (ax_cons (px_callTy s_tuple rfl F.b_tuple rfl (ax_cons (px_callB (s_sorted rfl (hU 100 (by decide))) rfl F.b_sorted rfl (ax_cons (px_lst (ax_star (px_var 0) (ax_cons (px_var 3) ax_nil))) ax_nil)) ax_nil)) ax_nil)))))) bx_nil) (bx_one (sx_if (tx_bool (wx_and (tx_cmp (s_eqE (hU 64 (by decide))) oEqE_b (px_ix (s_ix (hU 1 (by decide))) (px_var 1) px_int (fun _ _ => rfl)) (px_globS rfl F.c_OUT) (nomark _)) (wx_and1 (tx_cmp (s_inN (hU 65 (by decide))) oInN_b (px_var 3) (px_var 0) rfl)))) (bx_one (sx_frz [3, 4] (sx_app 2 (px_tup (ax_cons (px_var 3) (ax_cons (px_callTy s_tuple rfl F.b_tuple rfl (ax_cons (px_lc1 rfl S.nd (ix_any (px_var 0)) (own := [("one", 4)]) (blk_of (by kernel_rfl)) (fun _ _ _ _ _ => (gx_name 4 S.nd)) (fun _ _ _ _ _ => (tx_cmp (s_neE (hU 64 (by decide))) oEqE_b (px_var 4) (px_var 3) (nomark _))) (fun _ _ _ _ _ => (px_var 4))) ax_nil)) ax_nil)))))) bx_nil)))) (bx_one (sx_retV 2))))
theorem sc_is_whole : FnScope ["value"] ["value"] (defScope (top 2)) := ⟨rfl, rfl, rfl, by decide +kernel, rfl, by decide +kernel, by decide +kernel⟩
theorem g_is_whole (F : Fs K mg) : DOk P w K mg 1 "is_whole" o_is_whole := by
  have S := sc_is_whole
  obtain ⟨f, fd, hm, D⟩ := F.d_is_whole
  refine ⟨f, hm, D.kp, fun base => fg_ofD (k := 0) D S rfl (fun _ _ _ _ _ _ us hl => match us, hl with | [_], _ => rfl) fun cdv A outer s H hr hg => ?_⟩
  have hU : ∀ n, n ≤ 200 → (A.deeper (PyProof.Rows.envOfC "is_whole" (defScope (top 2)) s.heap.objs.size f cdv)).units + n < cLine := fun n h => by have := hr.un; omega
  exact (bx_one (sx_ret (px_and (px_isi TyAsk.int rfl F.b_isinstance rfl F.b_int rfl (px_var 0)) (px_and1 (px_not (px_isi TyAsk.bl rfl F.b_isinstance rfl F.b_bool rfl (px_var 0)))))))
theorem sc_is_integer : FnScope ["value", "low", "high"] ["value", "low", "high"] (defScope (top 3)) := ⟨rfl, rfl, rfl, by decide +kernel, rfl, by decide +kernel, by decide +kernel⟩
theorem g_is_integer (F : Fs K mg) : DOk P w K mg 2 "is_integer" o_is_integer := by
  have S := sc_is_integer
  obtain ⟨f, fd, hm, D⟩ := F.d_is_integer
  obtain ⟨f_is_whole, m_is_whole, k_is_whole, G_is_whole⟩ := g_is_whole (P := P) (w := w) F
  refine ⟨f, hm, D.kp, fun base => fg_ofD (k := 1) D S rfl (fun _ _ _ _ _ _ us hl => match us, hl with | [_, _, _], _ => rfl) fun cdv A outer s H hr hg => ?_⟩
  have hU : ∀ n, n ≤ 200 → (A.deeper (PyProof.Rows.envOfC "is_integer" (defScope (top 3)) s.heap.objs.size f cdv)).units + n < cLine := fun n h => by have := hr.un; omega
  exact (bx_one (sx_frz [0] (sx_ret (px_and (px_fg (G_is_whole _) hr (by decide) hg rfl m_is_whole k_is_whole (ax_cons (px_var 0) ax_nil)) (px_and1 (px_chain c_le c_le (px_var 1) (px_var 0) (px_var 2)))))))
theorem sc_is_rising : FnScope ["values", "one", "other"] ["values"] (defScope (top 5)) := ⟨rfl, rfl, rfl, by decide +kernel, rfl, by decide +kernel, by decide +kernel⟩
theorem g_is_rising (F : Fs K mg) : DOk P w K mg 1 "is_rising" o_is_rising := by
  have S := sc_is_rising
  obtain ⟨f, fd, hm, D⟩ := F.d_is_rising
  refine ⟨f, hm, D.kp, fun base => fg_ofD (k := 0) D S rfl (fun _ _ _ _ _ _ us hl => match us, hl with | [_], _ => rfl) fun cdv A outer s H hr hg => ?_⟩
  have hU : ∀ n, n ≤ 200 → (A.deeper (PyProof.Rows.envOfC "is_rising" (defScope (top 5)) s.heap.objs.size f cdv)).units + n < cLine := fun n h => by have := hr.un; omega
  exact (bx_one (sx_frz [0] (sx_ret (px_callB (s_all rfl) rfl F.b_all rfl (ax_cons (px_lc0 rfl S.nd (ix_zip2 rfl F.b_zip (ax_cons (px_var 0) (ax_cons (px_slice (px_var 0) (ox_int px_int) ox_no) ax_nil))) (own := [("one", 1), ("other", 2)]) (blk_of (by kernel_rfl)) (fun _ _ _ _ _ => (gx_tup rfl (gsx_cons (gx_name 1 S.nd) (gsx_cons (gx_name 2 S.nd) gsx_nil)))) (fun _ _ _ _ _ => (px_cmp (s_cmp c_lt) (px_var 1) (px_var 2) (nomark _)))) ax_nil)))))
theorem sc_is_tuple : FnScope ["value", "least", "most"] ["value", "least", "most"] (defScope (top 1)) := ⟨rfl, rfl, rfl, by decide +kernel, rfl, by decide +kernel, by decide +kernel⟩
theorem g_is_tuple (F : Fs K mg) : DOk P w K mg 1 "is_tuple" o_is_tuple := by
  have S := sc_is_tuple
  obtain ⟨f, fd, hm, D⟩ := F.d_is_tuple
  refine ⟨f, hm, D.kp, fun base => fg_ofD (k := 0) D S rfl (fun _ _ _ _ _ _ us hl => match us, hl with | [_, _, _], _ => rfl) fun cdv A outer s H hr hg => ?_⟩
  have hU : ∀ n, n ≤ 200 → (A.deeper (PyProof.Rows.envOfC "is_tuple" (defScope (top 1)) s.heap.objs.size f cdv)).units + n < cLine := fun n h => by have := hr.un; omega
  exact (bx_one (sx_ret (px_and (px_isi TyAsk.tup rfl F.b_isinstance rfl F.b_tuple rfl (px_var 0)) (px_and1 (px_chain c_le c_le (px_var 1) (px_callB s_len rfl F.b_len rfl (ax_cons (px_var 0) ax_nil)) (px_var 2))))))
theorem sc_is_word : FnScope ["value", "words"] ["value", "words"] (defScope (top 4)) := ⟨rfl, rfl, rfl, by decide +kernel, rfl, by decide +kernel, by decide +kernel⟩
theorem g_is_word (F : Fs K mg) : DOk P w K mg 1 "is_word" o_is_word := by
  have S := sc_is_word
  obtain ⟨f, fd, hm, D⟩ := F.d_is_word
  refine ⟨f, hm, D.kp, fun base => fg_ofD (k := 0) D S rfl (fun _ _ _ _ _ _ us hl => match us, hl with | [_, _], _ => rfl) fun cdv A outer s H hr hg => ?_⟩
  have hU : ∀ n, n ≤ 200 → (A.deeper (PyProof.Rows.envOfC "is_word" (defScope (top 4)) s.heap.objs.size f cdv)).units + n < cLine := fun n h => by have := hr.un; omega
  exact (bx_one (sx_ret (px_and (px_isi TyAsk.str rfl F.b_isinstance rfl F.b_str rfl (px_var 0)) (px_and1 (px_cmp (s_inN (hU 65 (by decide))) (px_var 0) (px_var 1) rfl)))))
theorem sc_is_event : FnScope ["many", "value", "car"] ["many", "value"] (defScope (top 19)) := ⟨rfl, rfl, rfl, by decide +kernel, rfl, by decide +kernel, by decide +kernel⟩
theorem g_is_event (F : Fs K mg) : DOk P w K mg 3 "is_event" o_is_event := by
  have S := sc_is_event
  obtain ⟨f, fd, hm, D⟩ := F.d_is_event
  obtain ⟨f_is_integer, m_is_integer, k_is_integer, G_is_integer⟩ := g_is_integer (P := P) (w := w) F
  obtain ⟨f_is_rising, m_is_rising, k_is_rising, G_is_rising⟩ := g_is_rising (P := P) (w := w) F
  obtain ⟨f_is_tuple, m_is_tuple, k_is_tuple, G_is_tuple⟩ := g_is_tuple (P := P) (w := w) F
  obtain ⟨f_is_word, m_is_word, k_is_word, G_is_word⟩ := g_is_word (P := P) (w := w) F
  refine ⟨f, hm, D.kp, fun base => fg_ofD (k := 2) D S rfl (fun _ _ _ _ _ _ us hl => match us, hl with | [_, _], _ => rfl) fun cdv A outer s H hr hg => ?_⟩
  have hU : ∀ n, n ≤ 200 → (A.deeper (PyProof.Rows.envOfC "is_event" (defScope (top 19)) s.heap.objs.size f cdv)).units + n < cLine := fun n h => by have := hr.un; omega
  exact (bx_cons (sx_frz [1] (sx_if (tx_bool (wx_or (tx_not (tx_val (px_fg (G_is_tuple _) hr (by decide) hg rfl m_is_tuple k_is_tuple (ax_cons (px_var 1) (ax_cons (px_globI rfl F.c_PAIR) (ax_cons (px_globI rfl F.c_PAIR) ax_nil)))))) (wx_or1 (tx_not (tx_val (px_fg (G_is_word _) hr (by decide) hg rfl m_is_word k_is_word (ax_cons (px_ix (s_ix (hU 1 (by decide))) (px_var 1) px_int (fun _ _ => rfl)) (ax_cons (px_tup (ax_cons (px_globS rfl F.c_IN) (ax_cons (px_globS rfl F.c_OUT) ax_nil))) ax_nil)))))))) (bx_one (sx_ret px_bl)) bx_nil)) (bx_cons (sx_frz [0, 2] (sx_if (tx_bool (wx_or (tx_not (tx_val (px_fg (G_is_tuple _) hr (by decide) hg rfl m_is_tuple k_is_tuple (ax_cons (px_ix (s_ix (hU 1 (by decide))) (px_var 1) px_int (fun _ _ => rfl)) (ax_cons px_int (ax_cons (px_var 0) ax_nil)))))) (wx_or1 (tx_not (tx_val (px_callB (s_all rfl) rfl F.b_all rfl (ax_cons (px_lc0 rfl S.nd (ix_any (px_ix (s_ix (hU 1 (by decide))) (px_var 1) px_int (fun _ _ => rfl))) (own := [("car", 2)]) (blk_of (by kernel_rfl)) (fun _ _ _ _ _ => (gx_name 2 S.nd)) (fun _ _ _ _ _ => (px_fg (G_is_integer _) hr (by decide) hg rfl m_is_integer k_is_integer (ax_cons (px_var 2) (ax_cons px_int (ax_cons (px_bin s_sub (px_var 0) px_int) ax_nil)))))) ax_nil))))))) (bx_one (sx_ret px_bl)) bx_nil)) (bx_one (sx_ret (px_fg (G_is_rising _) hr (by decide) hg rfl m_is_rising k_is_rising (ax_cons (px_ix (s_ix (hU 1 (by decide))) (px_var 1) px_int (fun _ _ => rfl)) ax_nil))))))
theorem sc_is_day : FnScope ["value", "event"] ["value"] (defScope (top 20)) := ⟨rfl, rfl, rfl, by decide +kernel, rfl, by decide +kernel, by decide +kernel⟩
theorem g_is_day (F : Fs K mg) : DOk P w K mg 4 "is_day" o_is_day := by
  have S := sc_is_day
  obtain ⟨f, fd, hm, D⟩ := F.d_is_day
  obtain ⟨f_is_event, m_is_event, k_is_event, G_is_event⟩ := g_is_event (P := P) (w := w) F
  obtain ⟨f_is_integer, m_is_integer, k_is_integer, G_is_integer⟩ := g_is_integer (P := P) (w := w) F
  obtain ⟨f_is_tuple, m_is_tuple, k_is_tuple, G_is_tuple⟩ := g_is_tuple (P := P) (w := w) F
  refine ⟨f, hm, D.kp, fun base => fg_ofD (k := 3) D S rfl (fun _ _ _ _ _ _ us hl => match us, hl with | [_], _ => rfl) fun cdv A outer s H hr hg => ?_⟩
  have hU : ∀ n, n ≤ 200 → (A.deeper (PyProof.Rows.envOfC "is_day" (defScope (top 20)) s.heap.objs.size f cdv)).units + n < cLine := fun n h => by have := hr.un; omega
  exact (bx_cons (sx_frz [0] (sx_if (tx_bool (wx_or (tx_not (tx_val (px_fg (G_is_tuple _) hr (by decide) hg rfl m_is_tuple k_is_tuple (ax_cons (px_var 0) (ax_cons (px_globI rfl F.c_PAIR) (ax_cons (px_globI rfl F.c_PAIR) ax_nil)))))) (wx_or1 (tx_not (tx_val (px_fg (G_is_integer _) hr (by decide) hg rfl m_is_integer k_is_integer (ax_cons (px_ix (s_ix (hU 1 (by decide))) (px_var 0) px_int (fun _ _ => rfl)) (ax_cons px_int (ax_cons (px_globI rfl F.c_MOST_CARS) ax_nil))))))))) (bx_one (sx_ret px_bl)) bx_nil)) (bx_one (sx_frz [1] (sx_ret (px_and (px_fg (G_is_tuple _) hr (by decide) hg rfl m_is_tuple k_is_tuple (ax_cons (px_ix (s_ix (hU 1 (by decide))) (px_var 0) px_int (fun _ _ => rfl)) (ax_cons px_int (ax_cons (px_globI rfl F.c_MOST_EVENTS) ax_nil)))) (px_and1 (px_callB (s_all rfl) rfl F.b_all rfl (ax_cons (px_lc0 rfl S.nd (ix_any (px_ix (s_ix (hU 1 (by decide))) (px_var 0) px_int (fun _ _ => rfl))) (own := [("event", 1)]) (blk_of (by kernel_rfl)) (fun _ _ _ _ _ => (gx_name 1 S.nd)) (fun _ _ _ _ _ => (px_fg (G_is_event _) hr (by decide) hg rfl m_is_event k_is_event (ax_cons (px_ix (s_ix (hU 1 (by decide))) (px_var 0) px_int (fun _ _ => rfl)) (ax_cons (px_var 1) ax_nil))))) ax_nil))))))))
theorem sc_check_day : FnScope ["value"] ["value"] (defScope (top 21)) := ⟨rfl, rfl, rfl, by decide +kernel, rfl, by decide +kernel, by decide +kernel⟩
theorem g_check_day (F : Fs K mg) : DOk P w K mg 5 "check_day" o_check_day := by
  have S := sc_check_day
  obtain ⟨f, fd, hm, D⟩ := F.d_check_day
  obtain ⟨f_is_day, m_is_day, k_is_day, G_is_day⟩ := g_is_day (P := P) (w := w) F
  refine ⟨f, hm, D.kp, fun base => fg_ofD (k := 4) D S rfl (fun _ _ _ _ _ _ us hl => match us, hl with | [_], _ => rfl) fun cdv A outer s H hr hg => ?_⟩
  have hU : ∀ n, n ≤ 200 → (A.deeper (PyProof.Rows.envOfC "check_day" (defScope (top 21)) s.heap.objs.size f cdv)).units + n < cLine := fun n h => by have := hr.un; omega
  exact (bx_one (sx_frz [0] (sx_if (tx_not (tx_val (px_fg (G_is_day _) hr (by decide) hg rfl m_is_day k_is_day (ax_cons (px_var 0) ax_nil)))) (bx_one sx_never) bx_nil)))
theorem sc_inside_by : FnScope ["day", "value", "here", "event", "car", "some", "one", "new"] ["day", "value"] (defScope (top 33)) := ⟨rfl, rfl, rfl, by decide +kernel, rfl, by decide +kernel, by decide +kernel⟩
theorem g_inside_by (F : Fs K mg) : DOk P w K mg 6 "inside_by" o_inside_by := by
  have S := sc_inside_by
  obtain ⟨f, fd, hm, D⟩ := F.d_inside_by
  obtain ⟨f_behind_of, m_behind_of, k_behind_of, G_behind_of⟩ := g_behind_of (P := P) (w := w) F
  obtain ⟨f_check_day, m_check_day, k_check_day, G_check_day⟩ := g_check_day (P := P) (w := w) F
  obtain ⟨f_is_integer, m_is_integer, k_is_integer, G_is_integer⟩ := g_is_integer (P := P) (w := w) F
  obtain ⟨f_is_tuple, m_is_tuple, k_is_tuple, G_is_tuple⟩ := g_is_tuple (P := P) (w := w) F
  refine ⟨f, hm, D.kp, fun base => fg_ofD (k := 5) D S rfl (fun _ _ _ _ _ _ us hl => match us, hl with | [_, _], _ => rfl) fun cdv A outer s H hr hg => ?_⟩
  have hU : ∀ n, n ≤ 200 → (A.deeper (PyProof.Rows.envOfC "inside_by" (defScope (top 33)) s.heap.objs.size f cdv)).units + n < cLine := fun n h => by have := hr.un; omega
  exact (bx_cons (sx_frz [0] (sx_expr (px_fg (G_check_day _) hr (by decide) hg rfl m_check_day k_check_day (ax_cons (px_var 0) ax_nil)))) (bx_cons (sx_frz [1] (sx_if (tx_not (tx_val (px_fg (G_is_tuple _) hr (by decide) hg rfl m_is_tuple k_is_tuple (ax_cons (px_var 1) (ax_cons (px_callB s_len rfl F.b_len rfl (ax_cons (px_ix (s_ix (hU 1 (by decide))) (px_var 0) px_int (fun _ _ => rfl)) ax_nil)) (ax_cons (px_callB s_len rfl F.b_len rfl (ax_cons (px_ix (s_ix (hU 1 (by decide))) (px_var 0) px_int (fun _ _ => rfl)) ax_nil)) ax_nil)))))) (bx_one (sx_ret px_non)) bx_nil)) (bx_cons (sx_put false 2 S.nd (px_tup ax_nil)) (bx_cons (sx_frz [1] (sx_for PassesOwn.never rfl (ix_zip2 rfl F.b_zip (ax_cons (px_ix (s_ix (hU 1 (by decide))) (px_var 0) px_int (fun _ _ => rfl)) (ax_cons (px_var 1) ax_nil))) (gx_tup rfl (gsx_cons (gx_name 3 S.nd) (gsx_cons (gx_name 4 S.nd) gsx_nil))) (bx_cons (sx_frz [4] (sx_if (tx_not (tx_val (px_fg (G_is_integer _) hr (by decide) hg rfl m_is_integer k_is_integer (ax_cons (px_var 4) (ax_cons px_int (ax_cons (px_bin s_sub (px_ix (s_ix (hU 1 (by decide))) (px_var 0) px_int (fun _ _ => rfl)) px_int) ax_nil)))))) (bx_one (sx_ret px_non)) bx_nil)) (bx_cons (sx_frz [7, 2, 3] (sx_setLc1 false 5 rfl S.nd (ix_any (px_fg (G_behind_of _) hr (by decide) hg rfl m_behind_of k_behind_of (ax_cons (px_var 2) (ax_cons (px_var 3) ax_nil)))) (own := [("one", 6), ("new", 7)]) (blk_of (by kernel_rfl)) (fun _ _ _ _ _ => (gx_tup rfl (gsx_cons (gx_name 6 S.nd) (gsx_cons (gx_name 7 S.nd) gsx_nil)))) (fun _ _ _ _ _ => (tx_cmp (s_eqE (hU 64 (by decide))) oEqE_b (px_var 6) (px_var 4) (nomark _))) (fun _ _ _ _ _ => (px_var 7)))) (bx_cons (sx_if (tx_cmp (s_eqE (hU 64 (by decide))) oEqE_b (px_var 5) (px_lst ax_nil) (nomark _)) (bx_one (sx_ret px_non)) bx_nil) (bx_one (sx_put false 2 S.nd (px_ix (s_ix (hU 1 (by decide))) (px_var 5) px_int (fun _ _ => rfl))))))))) (bx_one (sx_retV 2))))))
theorem sc_check_car : FnScope ["day", "value"] ["day", "value"] (defScope (top 29)) := ⟨rfl, rfl, rfl, by decide +kernel, rfl, by decide +kernel, by decide +kernel⟩
theorem g_check_car (F : Fs K mg) : DOk P w K mg 6 "check_car" o_check_car := by
  have S := sc_check_car
  obtain ⟨f, fd, hm, D⟩ := F.d_check_car
  obtain ⟨f_check_day, m_check_day, k_check_day, G_check_day⟩ := g_check_day (P := P) (w := w) F
  obtain ⟨f_is_integer, m_is_integer, k_is_integer, G_is_integer⟩ := g_is_integer (P := P) (w := w) F
  refine ⟨f, hm, D.kp, fun base => fg_ofD (k := 5) D S rfl (fun _ _ _ _ _ _ us hl => match us, hl with | [_, _], _ => rfl) fun cdv A outer s H hr hg => ?_⟩
  have hU : ∀ n, n ≤ 200 → (A.deeper (PyProof.Rows.envOfC "check_car" (defScope (top 29)) s.heap.objs.size f cdv)).units + n < cLine := fun n h => by have := hr.un; omega
  exact (bx_cons (sx_frz [0] (sx_expr (px_fg (G_check_day _) hr (by decide) hg rfl m_check_day k_check_day (ax_cons (px_var 0) ax_nil)))) (bx_one (sx_frz [1] (sx_if (tx_not (tx_val (px_fg (G_is_integer _) hr (by decide) hg rfl m_is_integer k_is_integer (ax_cons (px_var 1) (ax_cons px_int (ax_cons (px_bin s_sub (px_ix (s_ix (hU 1 (by decide))) (px_var 0) px_int (fun _ _ => rfl)) px_int) ax_nil)))))) (bx_one sx_never) bx_nil))))
theorem sc_levels_of : FnScope ["day", "found", "event", "later", "inside", "car", "new"] ["day"] (defScope (top 23)) := ⟨rfl, rfl, rfl, by decide +kernel, rfl, by decide +kernel, by decide +kernel⟩
theorem g_levels_of (F : Fs K mg) : DOk P w K mg 2 "levels_of" o_levels_of := by
  have S := sc_levels_of
  obtain ⟨f, fd, hm, D⟩ := F.d_levels_of
  obtain ⟨f_behind_of, m_behind_of, k_behind_of, G_behind_of⟩ := g_behind_of (P := P) (w := w) F
  refine ⟨f, hm, D.kp, fun base => fg_ofD (k := 1) D S rfl (fun _ _ _ _ _ _ us hl => match us, hl with | [_], _ => rfl) fun cdv A outer s H hr hg => ?_⟩
  have hU : ∀ n, n ≤ 200 → (A.deeper (PyProof.Rows.envOfC "levels_of" (defScope (top 23)) s.heap.objs.size f cdv)).units + n < cLine := fun n h => by have := hr.un; omega
  exact (bx_cons (sx_put false 1 S.nd (px_lst (ax_cons (px_disp1 true (hU 0 (by decide)) (px_tup ax_nil) px_bl) ax_nil))) (bx_cons (sx_for PassesOwn.never rfl (ix_any (px_ix (s_ix (hU 1 (by decide))) (px_var 0) px_int (fun _ _ => rfl))) (gx_name 2 S.nd) (bx_cons (sx_put false 3 S.nd px_dt) (bx_cons (sx_for PassesOwn.never rfl (ix_any (px_ix (s_ix (hU 1 (by decide))) (px_var 1) (px_un s_neg px_int) (fun _ _ => rfl))) (gx_name 4 S.nd) (bx_one (sx_frz [4, 2] (sx_upd (hU 1 (by decide)) 3 (px_dc0 true (hU 0 (by decide)) rfl S.nd (ix_any (px_fg (G_behind_of _) hr (by decide) hg rfl m_behind_of k_behind_of (ax_cons (px_var 4) (ax_cons (px_var 2) ax_nil)))) (own := [("car", 5), ("new", 6)]) (blk_of (by kernel_rfl)) (fun _ _ _ _ _ => (gx_tup rfl (gsx_cons (gx_name 5 S.nd) (gsx_cons (gx_name 6 S.nd) gsx_nil)))) (fun _ _ _ _ _ => (px_var 6)) (fun _ _ _ _ _ => px_bl)))))) (bx_one (sx_frz [3] (sx_app 1 (px_var 3))))))) (bx_one (sx_retV 1))))
theorem sc_way_to : FnScope ["day", "ends", "levels", "rows", "at", "event", "later", "here", "found", "car", "one", "new", "pair"] ["day", "ends"] (defScope (top 30)) := ⟨rfl, rfl, rfl, by decide +kernel, rfl, by decide +kernel, by decide +kernel⟩
theorem g_way_to (F : Fs K mg) : DOk P w K mg 3 "way_to" o_way_to := by
  have S := sc_way_to
  obtain ⟨f, fd, hm, D⟩ := F.d_way_to
  obtain ⟨f_behind_of, m_behind_of, k_behind_of, G_behind_of⟩ := g_behind_of (P := P) (w := w) F
  obtain ⟨f_levels_of, m_levels_of, k_levels_of, G_levels_of⟩ := g_levels_of (P := P) (w := w) F
  refine ⟨f, hm, D.kp, fun base => fg_ofD (k := 2) D S rfl (fun _ _ _ _ _ _ us hl => match us, hl with | [_, _], _ => rfl) fun cdv A outer s H hr hg => ?_⟩
  have hU : ∀ n, n ≤ 200 → (A.deeper (PyProof.Rows.envOfC "way_to" (defScope (top 30)) s.heap.objs.size f cdv)).units + n < cLine := fun n h => by have := hr.un; omega
  exact (bx_cons (sx_frz [0] (sx_put false 2 S.nd (px_fg (G_levels_of _) hr (by decide) hg rfl m_levels_of k_levels_of (ax_cons (px_var 0) ax_nil)))) (bx_cons (sx_put false 3 S.nd (px_lst (ax_cons (px_dc1 true (hU 0 (by decide)) rfl S.nd (ix_any (px_ix (s_ix (hU 1 (by decide))) (px_var 2) (px_un s_neg px_int) (fun _ _ => rfl))) (own := [("one", 10)]) (blk_of (by kernel_rfl)) (fun _ _ _ _ _ => (gx_name 10 S.nd)) (fun _ _ _ _ _ => (tx_cmp (s_inN (hU 65 (by decide))) oInN_b (px_var 10) (px_var 1) rfl)) (fun _ _ _ _ _ => (px_var 10)) (fun _ _ _ _ _ => px_bl)) ax_nil))) (bx_cons (sx_for PassesOwn.never rfl (ix_range3 rfl F.b_range (ax_cons (px_bin s_sub (px_callB s_len rfl F.b_len rfl (ax_cons (px_ix (s_ix (hU 1 (by decide))) (px_var 0) px_int (fun _ _ => rfl)) ax_nil)) px_int) (ax_cons (px_un s_neg px_int) (ax_cons (px_un s_neg px_int) ax_nil)))) (gx_name 4 S.nd) (bx_cons (sx_par2c false false 5 6 rfl S.nd (ax_cons (px_ix (s_ix (hU 1 (by decide))) (px_ix (s_ix (hU 1 (by decide))) (px_var 0) px_int (fun _ _ => rfl)) (px_var 4) (fun _ _ => rfl)) (ax_cons (px_ix (s_ix (hU 1 (by decide))) (px_var 3) px_int (fun _ _ => rfl)) ax_nil))) (bx_one (sx_clr [9] (sx_frz [10, 5] (sx_put false 3 S.nd (px_lst (ax_cons (px_dc1 true (hU 0 (by decide)) rfl S.nd (ix_any (px_ix (s_ix (hU 1 (by decide))) (px_var 2) (px_var 4) (fun _ _ => rfl))) (own := [("one", 10)]) (blk_of (by kernel_rfl)) (fun _ _ _ _ _ => (gx_name 10 S.nd)) (fun _ _ _ _ _ => (tx_val (px_callB (s_any rfl) rfl F.b_any rfl (ax_cons (px_lc0 rfl S.nd (ix_any (px_fg (G_behind_of _) hr (by decide) hg rfl m_behind_of k_behind_of (ax_cons (px_var 10) (ax_cons (px_var 5) ax_nil)))) (own := [("car", 9), ("new", 11)]) (blk_of (by kernel_rfl)) (fun _ _ _ _ _ => (gx_tup rfl (gsx_cons (gx_name 9 S.nd) (gsx_cons (gx_name 11 S.nd) gsx_nil)))) (fun _ _ _ _ _ => (px_cmp (s_inN (hU 65 (by decide))) (px_var 11) (px_var 6) rfl))) ax_nil)))) (fun _ _ _ _ _ => (px_var 10)) (fun _ _ _ _ _ => px_bl)) (ax_star (px_var 3) ax_nil))))))))) (bx_cons (sx_if (tx_cmp (s_eqE (hU 64 (by decide))) oEqE_b (px_callB s_len rfl F.b_len rfl (ax_cons (px_ix (s_ix (hU 1 (by decide))) (px_var 3) px_int (fun _ _ => rfl)) ax_nil)) px_int (nomark _)) (bx_one (sx_ret px_non)) bx_nil) (bx_cons (sx_par2 false false 7 8 rfl S.nd (ax_cons (px_tup ax_nil) (ax_cons (px_lst ax_nil) ax_nil))) (bx_cons (sx_for PassesOwn.never rfl (ix_zip2 rfl F.b_zip (ax_cons (px_ix (s_ix (hU 1 (by decide))) (px_var 0) px_int (fun _ _ => rfl)) (ax_cons (px_slice (px_var 3) (ox_int px_int) ox_no) ax_nil))) (gx_tup rfl (gsx_cons (gx_name 5 S.nd) (gsx_cons (gx_name 6 S.nd) gsx_nil))) (bx_cons (sx_frz [12, 7, 5] (sx_asgT (px_ix (s_ix (hU 1 (by decide))) (px_lc1 rfl S.nd (ix_any (px_fg (G_behind_of _) hr (by decide) hg rfl m_behind_of k_behind_of (ax_cons (px_var 7) (ax_cons (px_var 5) ax_nil)))) (own := [("pair", 12)]) (blk_of (by kernel_rfl)) (fun _ _ _ _ _ => (gx_name 12 S.nd)) (fun _ _ _ _ _ => (tx_cmp (s_inN (hU 65 (by decide))) oInN_b (px_ix (s_ix (hU 1 (by decide))) (px_var 12) px_int (fun _ _ => rfl)) (px_var 6) rfl)) (fun _ _ _ _ _ => (px_var 12))) px_int (fun _ _ => rfl)) (gx_tup rfl (gsx_cons (gx_name 9 S.nd) (gsx_cons (gx_name 7 S.nd) gsx_nil))))) (bx_one (sx_frz [9] (sx_app 8 (px_var 9)))))) (bx_one (sx_ret (px_callTy s_tuple rfl F.b_tuple rfl (ax_cons (px_var 8) ax_nil))))))))))
theorem sc_way_in : FnScope ["day", "car", "inside"] ["day", "car"] (defScope (top 31)) := ⟨rfl, rfl, rfl, by decide +kernel, rfl, by decide +kernel, by decide +kernel⟩
theorem g_way_in (F : Fs K mg) : DOk P w K mg 7 "way_in" o_way_in := by
  have S := sc_way_in
  obtain ⟨f, fd, hm, D⟩ := F.d_way_in
  obtain ⟨f_check_car, m_check_car, k_check_car, G_check_car⟩ := g_check_car (P := P) (w := w) F
  obtain ⟨f_levels_of, m_levels_of, k_levels_of, G_levels_of⟩ := g_levels_of (P := P) (w := w) F
  obtain ⟨f_way_to, m_way_to, k_way_to, G_way_to⟩ := g_way_to (P := P) (w := w) F
  refine ⟨f, hm, D.kp, fun base => fg_ofD (k := 6) D S rfl (fun _ _ _ _ _ _ us hl => match us, hl with | [_, _], _ => rfl) fun cdv A outer s H hr hg => ?_⟩
  have hU : ∀ n, n ≤ 200 → (A.deeper (PyProof.Rows.envOfC "way_in" (defScope (top 31)) s.heap.objs.size f cdv)).units + n < cLine := fun n h => by have := hr.un; omega
  exact (bx_cons (sx_frz [0, 1] (sx_expr (px_fg (G_check_car _) hr (by decide) hg rfl m_check_car k_check_car (ax_cons (px_var 0) (ax_cons (px_var 1) ax_nil))))) (bx_one (sx_frz [0] (sx_ret (px_fg (G_way_to _) hr (by decide) hg rfl m_way_to k_way_to (ax_cons (px_var 0) (ax_cons (px_dc1 true (hU 0 (by decide)) rfl S.nd (ix_any (px_ix (s_ix (hU 1 (by decide))) (px_fg (G_levels_of _) hr (by decide) hg rfl m_levels_of k_levels_of (ax_cons (px_var 0) ax_nil)) (px_un s_neg px_int) (fun _ _ => rfl))) (own := [("inside", 2)]) (blk_of (by kernel_rfl)) (fun _ _ _ _ _ => (gx_name 2 S.nd)) (fun _ _ _ _ _ => (tx_cmp (s_inN (hU 65 (by decide))) oInN_b (px_var 1) (px_var 2) rfl)) (fun _ _ _ _ _ => (px_var 2)) (fun _ _ _ _ _ => px_bl)) ax_nil)))))))
theorem sc_way_out : FnScope ["day", "car", "inside"] ["day", "car"] (defScope (top 32)) := ⟨rfl, rfl, rfl, by decide +kernel, rfl, by decide +kernel, by decide +kernel⟩
theorem g_way_out (F : Fs K mg) : DOk P w K mg 7 "way_out" o_way_out := by
  have S := sc_way_out
  obtain ⟨f, fd, hm, D⟩ := F.d_way_out
  obtain ⟨f_check_car, m_check_car, k_check_car, G_check_car⟩ := g_check_car (P := P) (w := w) F
  obtain ⟨f_levels_of, m_levels_of, k_levels_of, G_levels_of⟩ := g_levels_of (P := P) (w := w) F
  obtain ⟨f_way_to, m_way_to, k_way_to, G_way_to⟩ := g_way_to (P := P) (w := w) F
  refine ⟨f, hm, D.kp, fun base => fg_ofD (k := 6) D S rfl (fun _ _ _ _ _ _ us hl => match us, hl with | [_, _], _ => rfl) fun cdv A outer s H hr hg => ?_⟩
  have hU : ∀ n, n ≤ 200 → (A.deeper (PyProof.Rows.envOfC "way_out" (defScope (top 32)) s.heap.objs.size f cdv)).units + n < cLine := fun n h => by have := hr.un; omega
  exact (bx_cons (sx_frz [0, 1] (sx_expr (px_fg (G_check_car _) hr (by decide) hg rfl m_check_car k_check_car (ax_cons (px_var 0) (ax_cons (px_var 1) ax_nil))))) (bx_one (sx_frz [0] (sx_ret (px_fg (G_way_to _) hr (by decide) hg rfl m_way_to k_way_to (ax_cons (px_var 0) (ax_cons (px_dc1 true (hU 0 (by decide)) rfl S.nd (ix_any (px_ix (s_ix (hU 1 (by decide))) (px_fg (G_levels_of _) hr (by decide) hg rfl m_levels_of k_levels_of (ax_cons (px_var 0) ax_nil)) (px_un s_neg px_int) (fun _ _ => rfl))) (own := [("inside", 2)]) (blk_of (by kernel_rfl)) (fun _ _ _ _ _ => (gx_name 2 S.nd)) (fun _ _ _ _ _ => (tx_cmp (s_notInN (hU 65 (by decide))) oInN_b (px_var 1) (px_var 2) rfl)) (fun _ _ _ _ _ => (px_var 2)) (fun _ _ _ _ _ => px_bl)) ax_nil)))))))
theorem sc__law_are_ways_right : FnScope ["pot", "day", "levels", "many", "events", "ends", "car", "ins", "outs", "call", "goals", "due", "at", "some", "value", "lot"] ["pot", "day", "levels"] (defScope (top 49)) := ⟨rfl, rfl, rfl, by decide +kernel, rfl, by decide +kernel, by decide +kernel⟩
theorem g__law_are_ways_right (F : Fs K mg) : DOk P w K mg 8 "_law_are_ways_right" o__law_are_ways_right := by
  have S := sc__law_are_ways_right
  obtain ⟨f, fd, hm, D⟩ := F.d__law_are_ways_right
  obtain ⟨f__law_first_way, m__law_first_way, k__law_first_way, G__law_first_way⟩ := g__law_first_way (P := P) (w := w) F
  obtain ⟨f__law_inside, m__law_inside, k__law_inside, G__law_inside⟩ := g__law_inside (P := P) (w := w) F
  obtain ⟨f__law_lasts, m__law_lasts, k__law_lasts, G__law_lasts⟩ := g__law_lasts (P := P) (w := w) F
  obtain ⟨f__law_some, m__law_some, k__law_some, G__law_some⟩ := g__law_some (P := P) (w := w) F
  obtain ⟨f__law_take, m__law_take, k__law_take, G__law_take⟩ := g__law_take (P := P) (w := w) F
  obtain ⟨f_inside_by, m_inside_by, k_inside_by, G_inside_by⟩ := g_inside_by (P := P) (w := w) F
  obtain ⟨f_way_in, m_way_in, k_way_in, G_way_in⟩ := g_way_in (P := P) (w := w) F
  obtain ⟨f_way_out, m_way_out, k_way_out, G_way_out⟩ := g_way_out (P := P) (w := w) F
  refine ⟨f, hm, D.kp, fun base => fg_ofD (k := 7) D S rfl (fun _ _ _ _ _ _ us hl => match us, hl with | [_, _, _], _ => rfl) fun cdv A outer s H hr hg => ?_⟩
  have hU : ∀ n, n ≤ 200 → (A.deeper (PyProof.Rows.envOfC "_law_are_ways_right" (defScope (top 49)) s.heap.objs.size f cdv)).units + n < cLine := fun n h => by have := hr.un; omega
  exact (bx_cons (sx_frz [1] (sx_asgT (px_var 1) (gx_tup rfl (gsx_cons (gx_name 3 S.nd) (gsx_cons (gx_name 4 S.nd) gsx_nil))))) (bx_cons (sx_put false 5 S.nd (px_callB (s_sorted rfl (hU 100 (by decide))) rfl F.b_sorted rfl (ax_cons (px_ix (s_ix (hU 1 (by decide))) (px_var 2) (px_un s_neg px_int) (fun _ _ => rfl)) ax_nil))) (bx_cons (sx_frz [0] (sx_for PassesOwn.never rfl (ix_any (px_fg (G__law_some _) hr (by decide) hg rfl m__law_some k__law_some (ax_cons (px_var 0) (ax_cons (px_listRng rfl rfl F.b_list rfl F.b_range (px_var 3)) (ax_cons (px_callB (s_min rfl) rfl F.b_min rfl (ax_cons (px_var 3) (ax_cons px_int ax_nil))) ax_nil))))) (gx_name 6 S.nd) (bx_cons (sx_frz [15] (sx_setLc1 false 7 rfl S.nd (ix_any (px_var 5)) (own := [("lot", 15)]) (blk_of (by kernel_rfl)) (fun _ _ _ _ _ => (gx_name 15 S.nd)) (fun _ _ _ _ _ => (tx_cmp (s_inN (hU 65 (by decide))) oInN_b (px_var 6) (px_var 15) rfl)) (fun _ _ _ _ _ => (px_var 15)))) (bx_cons (sx_frz [15] (sx_setLc1 false 8 rfl S.nd (ix_any (px_var 5)) (own := [("lot", 15)]) (blk_of (by kernel_rfl)) (fun _ _ _ _ _ => (gx_name 15 S.nd)) (fun _ _ _ _ _ => (tx_cmp (s_notInN (hU 65 (by decide))) oInN_b (px_var 6) (px_var 15) rfl)) (fun _ _ _ _ _ => (px_var 15)))) (bx_one (sx_frz [7, 8] (sx_for PassesOwn.never rfl (ix_any (px_tup (ax_cons (px_tup (ax_cons (px_fn rfl m_way_in k_way_in) (ax_cons (px_var 7) ax_nil))) (ax_cons (px_tup (ax_cons (px_fn rfl m_way_out k_way_out) (ax_cons (px_var 8) ax_nil))) ax_nil)))) (gx_tup rfl (gsx_cons (gx_name 9 S.nd) (gsx_cons (gx_name 10 S.nd) gsx_nil))) (bx_cons (sx_frz [1, 2, 10] (sx_put false 11 S.nd (px_fg (G__law_first_way _) hr (by decide) hg rfl m__law_first_way k__law_first_way (ax_cons (px_var 1) (ax_cons (px_fg (G__law_lasts _) hr (by decide) hg rfl m__law_lasts k__law_lasts (ax_cons (px_var 1) (ax_cons (px_var 2) (ax_cons (px_var 10) ax_nil)))) ax_nil))))) (bx_cons (sx_frz [1, 6] (sx_if (tx_cmp (s_neE (hU 64 (by decide))) oEqE_b (px_callB (s_repr (hU 100 (by decide)) hg) rfl F.b_repr rfl (ax_cons (px_callV 9 (by simp only [List.forall_mem_cons]; exact ⟨⟨_, m_way_in, G_way_in _⟩, ⟨_, m_way_out, G_way_out _⟩, fun _ h => absurd h (by simp)⟩) hr (by decide) hg (ax_cons (px_var 1) (ax_cons (px_var 6) ax_nil))) ax_nil)) (px_callB (s_repr (hU 100 (by decide)) hg) rfl F.b_repr rfl (ax_cons (px_var 11) ax_nil)) (nomark _)) (bx_one (sx_ret px_bl)) bx_nil)) (bx_cons (sx_if (tx_bool (wx_or (tx_cmp s_is oIs_b (px_var 11) px_non (nomark _)) (wx_or1 (tx_cmp (s_eqE (hU 64 (by decide))) oEqE_b (px_var 4) (px_tup ax_nil) (nomark _))))) (bx_one (sx_put false 11 S.nd (px_tup ax_nil))) bx_nil) (bx_cons (sx_frz [0] (sx_put false 12 S.nd (px_fg (G__law_take _) hr (by decide) hg rfl m__law_take k__law_take (ax_cons (px_var 0) (ax_cons (px_callB (s_max rfl) rfl F.b_max rfl (ax_cons px_int (ax_cons (px_callB s_len rfl F.b_len rfl (ax_cons (px_var 11) ax_nil)) ax_nil))) ax_nil))))) (bx_cons (sx_frz [11, 0, 3] (sx_put false 13 S.nd (px_lst (ax_cons (px_var 11) (ax_cons (px_rev (px_var 11)) (ax_cons (px_slice (px_var 11) (ox_int px_int) ox_no) (ax_cons (px_bin s_add (px_var 11) (px_tup (ax_cons px_int ax_nil))) (ax_cons (px_bin s_add (px_bin s_add (px_slice (px_var 11) ox_no (ox_int (px_var 12))) (px_tup (ax_cons (px_fg (G__law_take _) hr (by decide) hg rfl m__law_take k__law_take (ax_cons (px_var 0) (ax_cons (px_var 3) ax_nil))) ax_nil))) (px_slice (px_var 11) (ox_int (px_bin s_add (px_var 12) px_int)) ox_no)) (ax_cons (px_callTy (s_list rfl) rfl F.b_list rfl (ax_cons (px_var 11) ax_nil)) ax_nil))))))))) (bx_cons (sx_app 13 (px_bin s_add (px_bin s_add (px_slice (px_var 11) ox_no (ox_int (px_var 12))) (px_slice (px_var 11) (ox_int (px_bin s_add (px_var 12) px_int)) ox_no)) (px_slice (px_var 11) (ox_int (px_var 12)) (ox_int (px_bin s_add (px_var 12) px_int))))) (bx_one (sx_frz [13] (sx_for PassesOwn.never rfl (ix_any (px_var 13)) (gx_name 14 S.nd) (bx_one (sx_frz [1, 14] (sx_if (tx_cmp (s_neE (hU 64 (by decide))) oEqE_b (px_callB (s_repr (hU 100 (by decide)) hg) rfl F.b_repr rfl (ax_cons (px_fg (G_inside_by _) hr (by decide) hg rfl m_inside_by k_inside_by (ax_cons (px_var 1) (ax_cons (px_var 14) ax_nil))) ax_nil)) (px_callB (s_repr (hU 100 (by decide)) hg) rfl F.b_repr rfl (ax_cons (px_fg (G__law_inside _) hr (by decide) hg rfl m__law_inside k__law_inside (ax_cons (px_var 1) (ax_cons (px_var 14) ax_nil))) ax_nil)) (nomark _)) (bx_one (sx_ret px_bl)) bx_nil))))))))))))))))))) (bx_one (sx_ret px_bl)))))
theorem sc__law_of : FnScope ["pot", "some"] ["pot", "some"] (defScope (top 39)) := ⟨rfl, rfl, rfl, by decide +kernel, rfl, by decide +kernel, by decide +kernel⟩
theorem g__law_of (F : Fs K mg) : DOk P w K mg 2 "_law_of" o__law_of := by
  have S := sc__law_of
  obtain ⟨f, fd, hm, D⟩ := F.d__law_of
  obtain ⟨f__law_take, m__law_take, k__law_take, G__law_take⟩ := g__law_take (P := P) (w := w) F
  refine ⟨f, hm, D.kp, fun base => fg_ofD (k := 1) D S rfl (fun _ _ _ _ _ _ us hl => match us, hl with | [_, _], _ => rfl) fun cdv A outer s H hr hg => ?_⟩
  have hU : ∀ n, n ≤ 200 → (A.deeper (PyProof.Rows.envOfC "_law_of" (defScope (top 39)) s.heap.objs.size f cdv)).units + n < cLine := fun n h => by have := hr.un; omega
  exact (bx_one (sx_frz [0] (sx_ret (px_ix (s_ix (hU 1 (by decide))) (px_var 1) (px_fg (G__law_take _) hr (by decide) hg rfl m__law_take k__law_take (ax_cons (px_var 0) (ax_cons (px_callB s_len rfl F.b_len rfl (ax_cons (px_var 1) ax_nil)) ax_nil))) (fun _ _ => rfl)))))
theorem sc__law_day : FnScope ["pot", "most", "long", "many", "inside", "events", "lap", "outside", "word", "car", "others", "one"] ["pot", "most", "long"] (defScope (top 48)) := ⟨rfl, rfl, rfl, by decide +kernel, rfl, by decide +kernel, by decide +kernel⟩
theorem g__law_day (F : Fs K mg) : DOk P w K mg 3 "_law_day" o__law_day := by
  have S := sc__law_day
  obtain ⟨f, fd, hm, D⟩ := F.d__law_day
  obtain ⟨f__law_of, m__law_of, k__law_of, G__law_of⟩ := g__law_of (P := P) (w := w) F
  obtain ⟨f__law_step, m__law_step, k__law_step, G__law_step⟩ := g__law_step (P := P) (w := w) F
  obtain ⟨f__law_take, m__law_take, k__law_take, G__law_take⟩ := g__law_take (P := P) (w := w) F
  refine ⟨f, hm, D.kp, fun base => fg_ofD (k := 2) D S rfl (fun _ _ _ _ _ _ us hl => match us, hl with | [_, _, _], _ => rfl) fun cdv A outer s H hr hg => ?_⟩
  have hU : ∀ n, n ≤ 200 → (A.deeper (PyProof.Rows.envOfC "_law_day" (defScope (top 48)) s.heap.objs.size f cdv)).units + n < cLine := fun n h => by have := hr.un; omega
  exact (bx_cons (sx_frz [0, 1] (sx_par3c false false false 3 4 5 rfl S.nd (ax_cons (px_bin s_add px_int (px_fg (G__law_take _) hr (by decide) hg rfl m__law_take k__law_take (ax_cons (px_var 0) (ax_cons (px_var 1) ax_nil)))) (ax_cons (px_tup ax_nil) (ax_cons (px_lst ax_nil) ax_nil))))) (bx_cons (sx_frz [0] (sx_for PassesOwn.never rfl (ix_range1 rfl F.b_range (ax_cons (px_fg (G__law_take _) hr (by decide) hg rfl m__law_take k__law_take (ax_cons (px_var 0) (ax_cons (px_bin s_add (px_var 2) px_int) ax_nil))) ax_nil)) (gx_name 6 S.nd) (bx_cons (sx_clr [9] (sx_frz [9] (sx_setLc1 false 7 rfl S.nd (ix_range1 rfl F.b_range (ax_cons (px_var 3) ax_nil)) (own := [("car", 9)]) (blk_of (by kernel_rfl)) (fun _ _ _ _ _ => (gx_name 9 S.nd)) (fun _ _ _ _ _ => (tx_cmp (s_notInN (hU 65 (by decide))) oInN_b (px_var 9) (px_var 4) rfl)) (fun _ _ _ _ _ => (px_var 9))))) (bx_cons (sx_frz [0] (sx_put false 8 S.nd (px_if (tx_bool (wx_or (tx_cmp (s_eqE (hU 64 (by decide))) oEqE_b (px_var 4) (px_tup ax_nil) (nomark _)) (wx_or1 (tx_bool (wx_and (tx_cmp (s_neE (hU 64 (by decide))) oEqE_b (px_var 7) (px_lst ax_nil) (nomark _)) (wx_and1 (tx_cmp (s_cmp c_gt) oCmp_b (px_fg (G__law_take _) hr (by decide) hg rfl m__law_take k__law_take (ax_cons (px_var 0) (ax_cons px_int ax_nil))) px_int (nomark _)))))))) px_str px_str))) (bx_cons (sx_frz [0, 7] (sx_put false 9 S.nd (px_fg (G__law_of _) hr (by decide) hg rfl m__law_of k__law_of (ax_cons (px_var 0) (ax_cons (px_if (tx_cmp (s_eqE (hU 64 (by decide))) oEqE_b (px_var 8) px_str (nomark _)) (px_var 7) (px_callTy (s_list rfl) rfl F.b_list rfl (ax_cons (px_var 4) ax_nil))) ax_nil))))) (bx_cons (sx_frz [11, 0] (sx_setLc1 false 10 rfl S.nd (ix_range1 rfl F.b_range (ax_cons (px_var 3) ax_nil)) (own := [("one", 11)]) (blk_of (by kernel_rfl)) (fun _ _ _ _ _ => (gx_name 11 S.nd)) (fun _ _ _ _ _ => (tx_cmp (s_eqE (hU 64 (by decide))) oEqE_b (px_fg (G__law_take _) hr (by decide) hg rfl m__law_take k__law_take (ax_cons (px_var 0) (ax_cons px_int ax_nil))) px_int (nomark _))) (fun _ _ _ _ _ => (px_var 11)))) (bx_cons (sx_frz [4, 8, 9] (sx_put false 4 S.nd (px_fg (G__law_step _) hr (by decide) hg rfl m__law_step k__law_step (ax_cons (px_var 4) (ax_cons (px_var 8) (ax_cons (px_var 9) ax_nil)))))) (bx_cons (sx_frz [0] (sx_if (tx_cmp (s_eqE (hU 64 (by decide))) oEqE_b (px_fg (G__law_take _) hr (by decide) hg rfl m__law_take k__law_take (ax_cons (px_var 0) (ax_cons px_int ax_nil))) px_int (nomark _)) (bx_one (sx_frz [0, 3] (sx_put false 9 S.nd (px_fg (G__law_take _) hr (by decide) hg rfl m__law_take k__law_take (ax_cons (px_var 0) (ax_cons (px_var 3) ax_nil)))))) bx_nil)) (bx_one (sx_frz [8, 9] (sx_app 5 (px_tup (ax_cons (px_var 8) (ax_cons (px_callTy s_tuple rfl F.b_tuple rfl (ax_cons (px_sortSet rfl rfl F.b_sorted rfl F.b_set (px_bin s_add (px_var 10) (px_lst (ax_cons (px_var 9) ax_nil)))) ax_nil)) ax_nil)))))))))))))) (bx_one (sx_frz [3] (sx_ret (px_tup (ax_cons (px_var 3) (ax_cons (px_callTy s_tuple rfl F.b_tuple rfl (ax_cons (px_var 5) ax_nil)) ax_nil))))))))
theorem sc__law_levels : FnScope ["day", "levels", "word", "some", "later", "lot", "car", "new"] ["day"] (defScope (top 44)) := ⟨rfl, rfl, rfl, by decide +kernel, rfl, by decide +kernel, by decide +kernel⟩
theorem g__law_levels (F : Fs K mg) : DOk P w K mg 2 "_law_levels" o__law_levels := by
  have S := sc__law_levels
  obtain ⟨f, fd, hm, D⟩ := F.d__law_levels
  obtain ⟨f__law_step, m__law_step, k__law_step, G__law_step⟩ := g__law_step (P := P) (w := w) F
  refine ⟨f, hm, D.kp, fun base => fg_ofD (k := 1) D S rfl (fun _ _ _ _ _ _ us hl => match us, hl with | [_], _ => rfl) fun cdv A outer s H hr hg => ?_⟩
  have hU : ∀ n, n ≤ 200 → (A.deeper (PyProof.Rows.envOfC "_law_levels" (defScope (top 44)) s.heap.objs.size f cdv)).units + n < cLine := fun n h => by have := hr.un; omega
  exact (bx_cons (sx_put false 1 S.nd (px_lst (ax_cons (px_disp1 true (hU 0 (by decide)) (px_tup ax_nil) px_int) ax_nil))) (bx_cons (sx_for PassesOwn.never rfl (ix_any (px_ix (s_ix (hU 1 (by decide))) (px_var 0) px_int (fun _ _ => rfl))) (gx_tup rfl (gsx_cons (gx_name 2 S.nd) (gsx_cons (gx_name 3 S.nd) gsx_nil))) (bx_cons (sx_put false 4 S.nd px_dt) (bx_cons (sx_for PassesOwn.never rfl (ix_any (px_ix (s_ix (hU 1 (by decide))) (px_var 1) (px_un s_neg px_int) (fun _ _ => rfl))) (gx_name 5 S.nd) (bx_one (sx_frz [3] (sx_for PassesOwn.never rfl (ix_any (px_var 3)) (gx_name 6 S.nd) (bx_cons (sx_frz [5, 2, 6] (sx_put false 7 S.nd (px_fg (G__law_step _) hr (by decide) hg rfl m__law_step k__law_step (ax_cons (px_var 5) (ax_cons (px_var 2) (ax_cons (px_var 6) ax_nil)))))) (bx_one (sx_if (tx_cmp s_isNot oIs_b (px_var 7) px_non (nomark _)) (bx_one (sx_putIx (hU 1 (by decide)) 4 (px_var 7) (px_bin s_add (px_get2 (hU 1 (by decide)) (px_var 4) (px_var 7) px_int) (px_ix (s_ix (hU 1 (by decide))) (px_ix (s_ix (hU 1 (by decide))) (px_var 1) (px_un s_neg px_int) (fun _ _ => rfl)) (px_var 5) (fun _ _ => rfl))))) bx_nil))))))) (bx_one (sx_frz [4] (sx_app 1 (px_var 4))))))) (bx_one (sx_retV 1))))
theorem sc_all_inside : FnScope ["day"] ["day"] (defScope (top 26)) := ⟨rfl, rfl, rfl, by decide +kernel, rfl, by decide +kernel, by decide +kernel⟩
theorem g_all_inside (F : Fs K mg) : DOk P w K mg 6 "all_inside" o_all_inside := by
  have S := sc_all_inside
  obtain ⟨f, fd, hm, D⟩ := F.d_all_inside
  obtain ⟨f_check_day, m_check_day, k_check_day, G_check_day⟩ := g_check_day (P := P) (w := w) F
  obtain ⟨f_levels_of, m_levels_of, k_levels_of, G_levels_of⟩ := g_levels_of (P := P) (w := w) F
  refine ⟨f, hm, D.kp, fun base => fg_ofD (k := 5) D S rfl (fun _ _ _ _ _ _ us hl => match us, hl with | [_], _ => rfl) fun cdv A outer s H hr hg => ?_⟩
  have hU : ∀ n, n ≤ 200 → (A.deeper (PyProof.Rows.envOfC "all_inside" (defScope (top 26)) s.heap.objs.size f cdv)).units + n < cLine := fun n h => by have := hr.un; omega
  exact (bx_cons (sx_frz [0] (sx_expr (px_fg (G_check_day _) hr (by decide) hg rfl m_check_day k_check_day (ax_cons (px_var 0) ax_nil)))) (bx_one (sx_frz [0] (sx_ret (px_callTy s_tuple rfl F.b_tuple rfl (ax_cons (px_callB (s_sorted rfl (hU 100 (by decide))) rfl F.b_sorted rfl (ax_cons (px_ix (s_ix (hU 1 (by decide))) (px_fg (G_levels_of _) hr (by decide) hg rfl m_levels_of k_levels_of (ax_cons (px_var 0) ax_nil)) (px_un s_neg px_int) (fun _ _ => rfl)) ax_nil)) ax_nil))))))
theorem sc_can_be : FnScope ["day"] ["day"] (defScope (top 25)) := ⟨rfl, rfl, rfl, by decide +kernel, rfl, by decide +kernel, by decide +kernel⟩
theorem g_can_be (F : Fs K mg) : DOk P w K mg 6 "can_be" o_can_be := by
  have S := sc_can_be
  obtain ⟨f, fd, hm, D⟩ := F.d_can_be
  obtain ⟨f_check_day, m_check_day, k_check_day, G_check_day⟩ := g_check_day (P := P) (w := w) F
  obtain ⟨f_levels_of, m_levels_of, k_levels_of, G_levels_of⟩ := g_levels_of (P := P) (w := w) F
  refine ⟨f, hm, D.kp, fun base => fg_ofD (k := 5) D S rfl (fun _ _ _ _ _ _ us hl => match us, hl with | [_], _ => rfl) fun cdv A outer s H hr hg => ?_⟩
  have hU : ∀ n, n ≤ 200 → (A.deeper (PyProof.Rows.envOfC "can_be" (defScope (top 25)) s.heap.objs.size f cdv)).units + n < cLine := fun n h => by have := hr.un; omega
  exact (bx_cons (sx_frz [0] (sx_expr (px_fg (G_check_day _) hr (by decide) hg rfl m_check_day k_check_day (ax_cons (px_var 0) ax_nil)))) (bx_one (sx_frz [0] (sx_ret (px_cmp (s_cmp c_gt) (px_callB s_len rfl F.b_len rfl (ax_cons (px_ix (s_ix (hU 1 (by decide))) (px_fg (G_levels_of _) hr (by decide) hg rfl m_levels_of k_levels_of (ax_cons (px_var 0) ax_nil)) (px_un s_neg px_int) (fun _ _ => rfl)) ax_nil)) px_int (nomark _))))))
theorem sc_kept_of : FnScope ["day", "levels", "found", "at", "event", "later", "one", "car", "new"] ["day"] (defScope (top 24)) := ⟨rfl, rfl, rfl, by decide +kernel, rfl, by decide +kernel, by decide +kernel⟩
theorem g_kept_of (F : Fs K mg) : DOk P w K mg 3 "kept_of" o_kept_of := by
  have S := sc_kept_of
  obtain ⟨f, fd, hm, D⟩ := F.d_kept_of
  obtain ⟨f_behind_of, m_behind_of, k_behind_of, G_behind_of⟩ := g_behind_of (P := P) (w := w) F
  obtain ⟨f_levels_of, m_levels_of, k_levels_of, G_levels_of⟩ := g_levels_of (P := P) (w := w) F
  refine ⟨f, hm, D.kp, fun base => fg_ofD (k := 2) D S rfl (fun _ _ _ _ _ _ us hl => match us, hl with | [_], _ => rfl) fun cdv A outer s H hr hg => ?_⟩
  have hU : ∀ n, n ≤ 200 → (A.deeper (PyProof.Rows.envOfC "kept_of" (defScope (top 24)) s.heap.objs.size f cdv)).units + n < cLine := fun n h => by have := hr.un; omega
  exact (bx_cons (sx_frz [0] (sx_put false 1 S.nd (px_fg (G_levels_of _) hr (by decide) hg rfl m_levels_of k_levels_of (ax_cons (px_var 0) ax_nil)))) (bx_cons (sx_put false 2 S.nd (px_lst (ax_cons (px_ix (s_ix (hU 1 (by decide))) (px_var 1) (px_un s_neg px_int) (fun _ _ => rfl)) ax_nil))) (bx_cons (sx_for PassesOwn.never rfl (ix_range3 rfl F.b_range (ax_cons (px_bin s_sub (px_callB s_len rfl F.b_len rfl (ax_cons (px_ix (s_ix (hU 1 (by decide))) (px_var 0) px_int (fun _ _ => rfl)) ax_nil)) px_int) (ax_cons (px_un s_neg px_int) (ax_cons (px_un s_neg px_int) ax_nil)))) (gx_name 3 S.nd) (bx_cons (sx_par2c false false 4 5 rfl S.nd (ax_cons (px_ix (s_ix (hU 1 (by decide))) (px_ix (s_ix (hU 1 (by decide))) (px_var 0) px_int (fun _ _ => rfl)) (px_var 3) (fun _ _ => rfl)) (ax_cons (px_ix (s_ix (hU 1 (by decide))) (px_var 2) px_int (fun _ _ => rfl)) ax_nil))) (bx_one (sx_frz [6, 4] (sx_put false 2 S.nd (px_lst (ax_cons (px_dc1 true (hU 0 (by decide)) rfl S.nd (ix_any (px_ix (s_ix (hU 1 (by decide))) (px_var 1) (px_var 3) (fun _ _ => rfl))) (own := [("one", 6)]) (blk_of (by kernel_rfl)) (fun _ _ _ _ _ => (gx_name 6 S.nd)) (fun _ _ _ _ _ => (tx_val (px_callB (s_any rfl) rfl F.b_any rfl (ax_cons (px_lc0 rfl S.nd (ix_any (px_fg (G_behind_of _) hr (by decide) hg rfl m_behind_of k_behind_of (ax_cons (px_var 6) (ax_cons (px_var 4) ax_nil)))) (own := [("car", 7), ("new", 8)]) (blk_of (by kernel_rfl)) (fun _ _ _ _ _ => (gx_tup rfl (gsx_cons (gx_name 7 S.nd) (gsx_cons (gx_name 8 S.nd) gsx_nil)))) (fun _ _ _ _ _ => (px_cmp (s_inN (hU 65 (by decide))) (px_var 8) (px_var 5) rfl))) ax_nil)))) (fun _ _ _ _ _ => (px_var 6)) (fun _ _ _ _ _ => px_bl)) (ax_star (px_var 2) ax_nil)))))))) (bx_one (sx_retV 2)))))
theorem sc_cars_of : FnScope ["day", "rows", "found", "event", "now", "later", "some", "inside", "car", "new"] ["day"] (defScope (top 34)) := ⟨rfl, rfl, rfl, by decide +kernel, rfl, by decide +kernel, by decide +kernel⟩
theorem g_cars_of (F : Fs K mg) : DOk P w K mg 6 "cars_of" o_cars_of := by
  have S := sc_cars_of
  obtain ⟨f, fd, hm, D⟩ := F.d_cars_of
  obtain ⟨f_behind_of, m_behind_of, k_behind_of, G_behind_of⟩ := g_behind_of (P := P) (w := w) F
  obtain ⟨f_check_day, m_check_day, k_check_day, G_check_day⟩ := g_check_day (P := P) (w := w) F
  obtain ⟨f_kept_of, m_kept_of, k_kept_of, G_kept_of⟩ := g_kept_of (P := P) (w := w) F
  refine ⟨f, hm, D.kp, fun base => fg_ofD (k := 5) D S rfl (fun _ _ _ _ _ _ us hl => match us, hl with | [_], _ => rfl) fun cdv A outer s H hr hg => ?_⟩
  have hU : ∀ n, n ≤ 200 → (A.deeper (PyProof.Rows.envOfC "cars_of" (defScope (top 34)) s.heap.objs.size f cdv)).units + n < cLine := fun n h => by have := hr.un; omega
  exact (bx_cons (sx_frz [0] (sx_expr (px_fg (G_check_day _) hr (by decide) hg rfl m_check_day k_check_day (ax_cons (px_var 0) ax_nil)))) (bx_cons (sx_frz [0] (sx_par2 false false 1 2 rfl S.nd (ax_cons (px_fg (G_kept_of _) hr (by decide) hg rfl m_kept_of k_kept_of (ax_cons (px_var 0) ax_nil)) (ax_cons (px_lst ax_nil) ax_nil)))) (bx_cons (sx_frz [1] (sx_for PassesOwn.never rfl (ix_zip3 rfl F.b_zip (ax_cons (px_ix (s_ix (hU 1 (by decide))) (px_var 0) px_int (fun _ _ => rfl)) (ax_cons (px_var 1) (ax_cons (px_slice (px_var 1) (ox_int px_int) ox_no) ax_nil)))) (gx_tup rfl (gsx_cons (gx_name 3 S.nd) (gsx_cons (gx_name 4 S.nd) (gsx_cons (gx_name 5 S.nd) gsx_nil)))) (bx_cons (sx_put false 6 S.nd (px_lst ax_nil)) (bx_cons (sx_frz [4] (sx_for PassesOwn.never rfl (ix_any (px_var 4)) (gx_name 7 S.nd) (bx_one (sx_frz [8, 7, 3] (sx_ext 6 (px_lc1 rfl S.nd (ix_any (px_fg (G_behind_of _) hr (by decide) hg rfl m_behind_of k_behind_of (ax_cons (px_var 7) (ax_cons (px_var 3) ax_nil)))) (own := [("car", 8), ("new", 9)]) (blk_of (by kernel_rfl)) (fun _ _ _ _ _ => (gx_tup rfl (gsx_cons (gx_name 8 S.nd) (gsx_cons (gx_name 9 S.nd) gsx_nil)))) (fun _ _ _ _ _ => (tx_cmp (s_inN (hU 65 (by decide))) oInN_b (px_var 9) (px_var 5) rfl)) (fun _ _ _ _ _ => (px_var 8)))))))) (bx_one (sx_app 2 (px_callTy s_tuple rfl F.b_tuple rfl (ax_cons (px_sortSet rfl rfl F.b_sorted rfl F.b_set (px_var 6)) ax_nil)))))))) (bx_one (sx_ret (px_callTy s_tuple rfl F.b_tuple rfl (ax_cons (px_var 2) ax_nil)))))))
theorem sc_first_wrong : FnScope ["day", "some", "at", "level"] ["day"] (defScope (top 28)) := ⟨rfl, rfl, rfl, by decide +kernel, rfl, by decide +kernel, by decide +kernel⟩
theorem g_first_wrong (F : Fs K mg) : DOk P w K mg 6 "first_wrong" o_first_wrong := by
  have S := sc_first_wrong
  obtain ⟨f, fd, hm, D⟩ := F.d_first_wrong
  obtain ⟨f_check_day, m_check_day, k_check_day, G_check_day⟩ := g_check_day (P := P) (w := w) F
  obtain ⟨f_levels_of, m_levels_of, k_levels_of, G_levels_of⟩ := g_levels_of (P := P) (w := w) F
  refine ⟨f, hm, D.kp, fun base => fg_ofD (k := 5) D S rfl (fun _ _ _ _ _ _ us hl => match us, hl with | [_], _ => rfl) fun cdv A outer s H hr hg => ?_⟩
  have hU : ∀ n, n ≤ 200 → (A.deeper (PyProof.Rows.envOfC "first_wrong" (defScope (top 28)) s.heap.objs.size f cdv)).units + n < cLine := fun n h => by have := hr.un; omega
  exact (bx_cons (sx_frz [0] (sx_expr (px_fg (G_check_day _) hr (by decide) hg rfl m_check_day k_check_day (ax_cons (px_var 0) ax_nil)))) (bx_cons (sx_frz [2, 0] (sx_setLc1 false 1 rfl S.nd (ix_enum rfl F.b_enumerate (ax_cons (px_fg (G_levels_of _) hr (by decide) hg rfl m_levels_of k_levels_of (ax_cons (px_var 0) ax_nil)) ax_nil)) (own := [("at", 2), ("level", 3)]) (blk_of (by kernel_rfl)) (fun _ _ _ _ _ => (gx_tup rfl (gsx_cons (gx_name 2 S.nd) (gsx_cons (gx_name 3 S.nd) gsx_nil)))) (fun _ _ _ _ _ => (tx_cmp (s_eqE (hU 64 (by decide))) oEqE_b (px_callB s_len rfl F.b_len rfl (ax_cons (px_var 3) ax_nil)) px_int (nomark _))) (fun _ _ _ _ _ => (px_var 2)))) (bx_one (sx_ret (px_if (tx_cmp (s_neE (hU 64 (by decide))) oEqE_b (px_var 1) (px_lst ax_nil) (nomark _)) (px_bin s_sub (px_ix (s_ix (hU 1 (by decide))) (px_var 1) px_int (fun _ _ => rfl)) px_int) px_non)))))
theorem sc_how_many_ways : FnScope ["day", "level", "event", "later", "inside", "number", "car", "new"] ["day"] (defScope (top 35)) := ⟨rfl, rfl, rfl, by decide +kernel, rfl, by decide +kernel, by decide +kernel⟩
theorem g_how_many_ways (F : Fs K mg) : DOk P w K mg 6 "how_many_ways" o_how_many_ways := by
  have S := sc_how_many_ways
  obtain ⟨f, fd, hm, D⟩ := F.d_how_many_ways
  obtain ⟨f_behind_of, m_behind_of, k_behind_of, G_behind_of⟩ := g_behind_of (P := P) (w := w) F
  obtain ⟨f_check_day, m_check_day, k_check_day, G_check_day⟩ := g_check_day (P := P) (w := w) F
  refine ⟨f, hm, D.kp, fun base => fg_ofD (k := 5) D S rfl (fun _ _ _ _ _ _ us hl => match us, hl with | [_], _ => rfl) fun cdv A outer s H hr hg => ?_⟩
  have hU : ∀ n, n ≤ 200 → (A.deeper (PyProof.Rows.envOfC "how_many_ways" (defScope (top 35)) s.heap.objs.size f cdv)).units + n < cLine := fun n h => by have := hr.un; omega
  exact (bx_cons (sx_frz [0] (sx_expr (px_fg (G_check_day _) hr (by decide) hg rfl m_check_day k_check_day (ax_cons (px_var 0) ax_nil)))) (bx_cons (sx_put false 1 S.nd (px_disp1 true (hU 0 (by decide)) (px_tup ax_nil) px_int)) (bx_cons (sx_for PassesOwn.never rfl (ix_any (px_ix (s_ix (hU 1 (by decide))) (px_var 0) px_int (fun _ _ => rfl))) (gx_name 2 S.nd) (bx_cons (sx_put false 3 S.nd px_dt) (bx_cons (sx_frz [1] (sx_for PassesOwn.never rfl (ix_items (px_var 1)) (gx_tup rfl (gsx_cons (gx_name 4 S.nd) (gsx_cons (gx_name 5 S.nd) gsx_nil))) (bx_one (sx_frz [4, 2] (sx_for PassesOwn.never rfl (ix_any (px_fg (G_behind_of _) hr (by decide) hg rfl m_behind_of k_behind_of (ax_cons (px_var 4) (ax_cons (px_var 2) ax_nil)))) (gx_tup rfl (gsx_cons (gx_name 6 S.nd) (gsx_cons (gx_name 7 S.nd) gsx_nil))) (bx_one (sx_putIx (hU 1 (by decide)) 3 (px_var 7) (px_bin s_add (px_get2 (hU 1 (by decide)) (px_var 3) (px_var 7) px_int) (px_var 5))))))))) (bx_one (sx_frz [3] (sx_put false 1 S.nd (px_var 3))))))) (bx_one (sx_ret (px_callB (s_sum rfl) rfl F.b_sum rfl (ax_cons (px_listVals rfl rfl F.b_list rfl (px_var 1)) ax_nil)))))))
theorem sc_told : FnScope ["day", "some", "found", "car", "is_in", "inside"] ["day"] (defScope (top 27)) := ⟨rfl, rfl, rfl, by decide +kernel, rfl, by decide +kernel, by decide +kernel⟩
theorem g_told (F : Fs K mg) : DOk P w K mg 6 "told" o_told := by
  have S := sc_told
  obtain ⟨f, fd, hm, D⟩ := F.d_told
  obtain ⟨f_check_day, m_check_day, k_check_day, G_check_day⟩ := g_check_day (P := P) (w := w) F
  obtain ⟨f_levels_of, m_levels_of, k_levels_of, G_levels_of⟩ := g_levels_of (P := P) (w := w) F
  refine ⟨f, hm, D.kp, fun base => fg_ofD (k := 5) D S rfl (fun _ _ _ _ _ _ us hl => match us, hl with | [_], _ => rfl) fun cdv A outer s H hr hg => ?_⟩
  have hU : ∀ n, n ≤ 200 → (A.deeper (PyProof.Rows.envOfC "told" (defScope (top 27)) s.heap.objs.size f cdv)).units + n < cLine := fun n h => by have := hr.un; omega
  exact (bx_cons (sx_frz [0] (sx_expr (px_fg (G_check_day _) hr (by decide) hg rfl m_check_day k_check_day (ax_cons (px_var 0) ax_nil)))) (bx_cons (sx_frz [0] (sx_put false 1 S.nd (px_callTy (s_list rfl) rfl F.b_list rfl (ax_cons (px_ix (s_ix (hU 1 (by decide))) (px_fg (G_levels_of _) hr (by decide) hg rfl m_levels_of k_levels_of (ax_cons (px_var 0) ax_nil)) (px_un s_neg px_int) (fun _ _ => rfl)) ax_nil)))) (bx_cons (sx_if (tx_cmp (s_eqE (hU 64 (by decide))) oEqE_b (px_var 1) (px_lst ax_nil) (nomark _)) (bx_one (sx_ret px_non)) bx_nil) (bx_cons (sx_put false 2 S.nd (px_lst ax_nil)) (bx_cons (sx_for PassesOwn.never rfl (ix_range1 rfl F.b_range (ax_cons (px_ix (s_ix (hU 1 (by decide))) (px_var 0) px_int (fun _ _ => rfl)) ax_nil)) (gx_name 3 S.nd) (bx_cons (sx_setLc0 false 4 rfl S.nd (ix_any (px_var 1)) (own := [("inside", 5)]) (blk_of (by kernel_rfl)) (fun _ _ _ _ _ => (gx_name 5 S.nd)) (fun _ _ _ _ _ => (px_cmp (s_inN (hU 65 (by decide))) (px_var 3) (px_var 5) rfl))) (bx_one (sx_app 2 (px_if (tx_val (px_callB (s_all rfl) rfl F.b_all rfl (ax_cons (px_var 4) ax_nil))) (px_globS rfl F.c_SURE) (px_if (tx_val (px_callB (s_any rfl) rfl F.b_any rfl (ax_cons (px_var 4) ax_nil))) (px_globS rfl F.c_OPEN) (px_globS rfl F.c_NEVER))))))) (bx_one (sx_ret (px_callTy s_tuple rfl F.b_tuple rfl (ax_cons (px_var 2) ax_nil)))))))))
theorem sc__law_right : FnScope ["pot", "day", "many", "events", "levels", "empty", "ends", "words", "car", "is_in", "good", "rows", "at", "word", "some", "fine", "steps", "level", "lot", "new"] ["pot"] (defScope (top 50)) := ⟨rfl, rfl, rfl, by decide +kernel, rfl, by decide +kernel, by decide +kernel⟩
theorem g__law_right (F : Fs K mg) : DOk P w K mg 9 "_law_right" o__law_right := by
  have S := sc__law_right
  obtain ⟨f, fd, hm, D⟩ := F.d__law_right
  obtain ⟨f__law_are_ways_right, m__law_are_ways_right, k__law_are_ways_right, G__law_are_ways_right⟩ := g__law_are_ways_right (P := P) (w := w) F
  obtain ⟨f__law_day, m__law_day, k__law_day, G__law_day⟩ := g__law_day (P := P) (w := w) F
  obtain ⟨f__law_lasts, m__law_lasts, k__law_lasts, G__law_lasts⟩ := g__law_lasts (P := P) (w := w) F
  obtain ⟨f__law_levels, m__law_levels, k__law_levels, G__law_levels⟩ := g__law_levels (P := P) (w := w) F
  obtain ⟨f__law_step, m__law_step, k__law_step, G__law_step⟩ := g__law_step (P := P) (w := w) F
  obtain ⟨f_all_inside, m_all_inside, k_all_inside, G_all_inside⟩ := g_all_inside (P := P) (w := w) F
  obtain ⟨f_can_be, m_can_be, k_can_be, G_can_be⟩ := g_can_be (P := P) (w := w) F
  obtain ⟨f_cars_of, m_cars_of, k_cars_of, G_cars_of⟩ := g_cars_of (P := P) (w := w) F
  obtain ⟨f_first_wrong, m_first_wrong, k_first_wrong, G_first_wrong⟩ := g_first_wrong (P := P) (w := w) F
  obtain ⟨f_how_many_ways, m_how_many_ways, k_how_many_ways, G_how_many_ways⟩ := g_how_many_ways (P := P) (w := w) F
  obtain ⟨f_told, m_told, k_told, G_told⟩ := g_told (P := P) (w := w) F
  refine ⟨f, hm, D.kp, fun base => fg_ofD (k := 8) D S rfl (fun _ _ _ _ _ _ us hl => match us, hl with | [_], _ => rfl) fun cdv A outer s H hr hg => ?_⟩
  have hU : ∀ n, n ≤ 200 → (A.deeper (PyProof.Rows.envOfC "_law_right" (defScope (top 50)) s.heap.objs.size f cdv)).units + n < cLine := fun n h => by have := hr.un; omega
  exact (bx_cons (sx_frz [0] (sx_put false 1 S.nd (px_fg (G__law_day _) hr (by decide) hg rfl m__law_day k__law_day (ax_cons (px_var 0) (ax_cons px_int (ax_cons px_int ax_nil)))))) (bx_cons (sx_frz [1] (sx_asgT (px_var 1) (gx_tup rfl (gsx_cons (gx_name 2 S.nd) (gsx_cons (gx_name 3 S.nd) gsx_nil))))) (bx_cons (sx_frz [1] (sx_put false 4 S.nd (px_fg (G__law_levels _) hr (by decide) hg rfl m__law_levels k__law_levels (ax_cons (px_var 1) ax_nil)))) (bx_cons (sx_clr [12] (sx_frz [12] (sx_setLc1 false 5 rfl S.nd (ix_enum rfl F.b_enumerate (ax_cons (px_slice (px_var 4) (ox_int px_int) ox_no) ax_nil)) (own := [("at", 12), ("level", 17)]) (blk_of (by kernel_rfl)) (fun _ _ _ _ _ => (gx_tup rfl (gsx_cons (gx_name 12 S.nd) (gsx_cons (gx_name 17 S.nd) gsx_nil)))) (fun _ _ _ _ _ => (tx_cmp (s_eqE (hU 64 (by decide))) oEqE_b (px_var 17) px_dt (nomark _))) (fun _ _ _ _ _ => (px_var 12))))) (bx_cons (sx_frz [1] (sx_if (tx_bool (wx_or (tx_cmp (s_neE (hU 64 (by decide))) oEqE_b (px_callB (s_repr (hU 100 (by decide)) hg) rfl F.b_repr rfl (ax_cons (px_fg (G_first_wrong _) hr (by decide) hg rfl m_first_wrong k_first_wrong (ax_cons (px_var 1) ax_nil)) ax_nil)) (px_callB (s_repr (hU 100 (by decide)) hg) rfl F.b_repr rfl (ax_cons (px_if (tx_cmp (s_neE (hU 64 (by decide))) oEqE_b (px_var 5) (px_lst ax_nil) (nomark _)) (px_ix (s_ix (hU 1 (by decide))) (px_var 5) px_int (fun _ _ => rfl)) px_non) ax_nil)) (nomark _)) (wx_or1 (tx_cmp (s_neE (hU 64 (by decide))) oEqE_b (px_fg (G_can_be _) hr (by decide) hg rfl m_can_be k_can_be (ax_cons (px_var 1) ax_nil)) (px_cmp (s_eqE (hU 64 (by decide))) (px_var 5) (px_lst ax_nil) (nomark _)) (nomark _))))) (bx_one (sx_ret px_bl)) bx_nil)) (bx_cons (sx_frz [1] (sx_if (tx_bool (wx_or (tx_cmp (s_neE (hU 64 (by decide))) oEqE_b (px_fg (G_how_many_ways _) hr (by decide) hg rfl m_how_many_ways k_how_many_ways (ax_cons (px_var 1) ax_nil)) (px_callB (s_sum rfl) rfl F.b_sum rfl (ax_cons (px_listVals rfl rfl F.b_list rfl (px_ix (s_ix (hU 1 (by decide))) (px_var 4) (px_un s_neg px_int) (fun _ _ => rfl))) ax_nil)) (nomark _)) (wx_or1 (tx_cmp (s_neE (hU 64 (by decide))) oEqE_b (px_fg (G_all_inside _) hr (by decide) hg rfl m_all_inside k_all_inside (ax_cons (px_var 1) ax_nil)) (px_callTy s_tuple rfl F.b_tuple rfl (ax_cons (px_callB (s_sorted rfl (hU 100 (by decide))) rfl F.b_sorted rfl (ax_cons (px_ix (s_ix (hU 1 (by decide))) (px_var 4) (px_un s_neg px_int) (fun _ _ => rfl)) ax_nil)) ax_nil)) (nomark _))))) (bx_one (sx_ret px_bl)) bx_nil)) (bx_cons (sx_par2 false false 6 7 rfl S.nd (ax_cons (px_callB (s_sorted rfl (hU 100 (by decide))) rfl F.b_sorted rfl (ax_cons (px_ix (s_ix (hU 1 (by decide))) (px_var 4) (px_un s_neg px_int) (fun _ _ => rfl)) ax_nil)) (ax_cons (px_lst ax_nil) ax_nil))) (bx_cons (sx_for PassesOwn.never rfl (ix_range1 rfl F.b_range (ax_cons (px_var 2) ax_nil)) (gx_name 8 S.nd) (bx_cons (sx_setLc0 false 9 rfl S.nd (ix_any (px_var 6)) (own := [("lot", 18)]) (blk_of (by kernel_rfl)) (fun _ _ _ _ _ => (gx_name 18 S.nd)) (fun _ _ _ _ _ => (px_cmp (s_inN (hU 65 (by decide))) (px_var 8) (px_var 18) rfl))) (bx_one (sx_app 7 (px_if (tx_val (px_callB (s_all rfl) rfl F.b_all rfl (ax_cons (px_var 9) ax_nil))) px_str (px_if (tx_val (px_callB (s_any rfl) rfl F.b_any rfl (ax_cons (px_var 9) ax_nil))) px_str px_str)))))) (bx_cons (sx_frz [1] (sx_if (tx_cmp (s_neE (hU 64 (by decide))) oEqE_b (px_callB (s_repr (hU 100 (by decide)) hg) rfl F.b_repr rfl (ax_cons (px_fg (G_told _) hr (by decide) hg rfl m_told k_told (ax_cons (px_var 1) ax_nil)) ax_nil)) (px_callB (s_repr (hU 100 (by decide)) hg) rfl F.b_repr rfl (ax_cons (px_if (tx_cmp (s_neE (hU 64 (by decide))) oEqE_b (px_var 6) (px_lst ax_nil) (nomark _)) (px_callTy s_tuple rfl F.b_tuple rfl (ax_cons (px_var 7) ax_nil)) px_non) ax_nil)) (nomark _)) (bx_one (sx_ret px_bl)) bx_nil)) (bx_cons (sx_frz [1, 4, 6] (sx_par2c false false 10 11 rfl S.nd (ax_cons (px_fg (G__law_lasts _) hr (by decide) hg rfl m__law_lasts k__law_lasts (ax_cons (px_var 1) (ax_cons (px_var 4) (ax_cons (px_var 6) ax_nil)))) (ax_cons (px_lst ax_nil) ax_nil)))) (bx_cons (sx_frz [3] (sx_for PassesOwn.never rfl (ix_enum rfl F.b_enumerate (ax_cons (px_var 3) ax_nil)) (gx_tup rfl (gsx_cons (gx_name 12 S.nd) (gsx_cons (gx_tup rfl (gsx_cons (gx_name 13 S.nd) (gsx_cons (gx_name 14 S.nd) gsx_nil))) gsx_nil))) (bx_cons (sx_put false 15 S.nd (px_lst ax_nil)) (bx_cons (sx_frz [14] (sx_for PassesOwn.never rfl (ix_any (px_var 14)) (gx_name 8 S.nd) (bx_cons (sx_frz [18, 13, 8] (sx_setLc0 false 16 rfl S.nd (ix_any (px_ix (s_ix (hU 1 (by decide))) (px_var 4) (px_var 12) (fun _ _ => rfl))) (own := [("lot", 18)]) (blk_of (by kernel_rfl)) (fun _ _ _ _ _ => (gx_name 18 S.nd)) (fun _ _ _ _ _ => (px_fg (G__law_step _) hr (by decide) hg rfl m__law_step k__law_step (ax_cons (px_var 18) (ax_cons (px_var 13) (ax_cons (px_var 8) ax_nil))))))) (bx_one (sx_frz [8] (sx_ext 15 (px_if (tx_val (px_callB (s_any rfl) rfl F.b_any rfl (ax_cons (px_lc0 rfl S.nd (ix_any (px_var 16)) (own := [("new", 19)]) (blk_of (by kernel_rfl)) (fun _ _ _ _ _ => (gx_name 19 S.nd)) (fun _ _ _ _ _ => (px_and (px_cmp s_isNot (px_var 19) px_non (nomark _)) (px_and1 (px_cmp (s_inN (hU 65 (by decide))) (px_var 19) (px_ix (s_ix (hU 1 (by decide))) (px_var 10) (px_bin s_add (px_var 12) px_int) (fun _ _ => rfl)) rfl))))) ax_nil))) (px_lst (ax_cons (px_var 8) ax_nil)) (px_lst ax_nil)))))))) (bx_one (sx_app 11 (px_callTy s_tuple rfl F.b_tuple rfl (ax_cons (px_var 15) ax_nil)))))))) (bx_cons (sx_frz [1] (sx_if (tx_cmp (s_neE (hU 64 (by decide))) oEqE_b (px_callB (s_repr (hU 100 (by decide)) hg) rfl F.b_repr rfl (ax_cons (px_fg (G_cars_of _) hr (by decide) hg rfl m_cars_of k_cars_of (ax_cons (px_var 1) ax_nil)) ax_nil)) (px_callB (s_repr (hU 100 (by decide)) hg) rfl F.b_repr rfl (ax_cons (px_callTy s_tuple rfl F.b_tuple rfl (ax_cons (px_var 11) ax_nil)) ax_nil)) (nomark _)) (bx_one (sx_ret px_bl)) bx_nil)) (bx_one (sx_frz [0, 1, 4] (sx_ret (px_fg (G__law_are_ways_right _) hr (by decide) hg rfl m__law_are_ways_right k__law_are_ways_right (ax_cons (px_var 0) (ax_cons (px_var 1) (ax_cons (px_var 4) ax_nil)))))))))))))))))))
theorem sc_law : FnScope ["script", "place", "pot"] ["script"] (defScope (top 51)) := ⟨rfl, rfl, rfl, by decide +kernel, rfl, by decide +kernel, by decide +kernel⟩
theorem g_law (F : Fs K mg) : DOk P w K mg 10 "law" o_law := by
  have S := sc_law
  obtain ⟨f, fd, hm, D⟩ := F.d_law
  obtain ⟨f__law_places, m__law_places, k__law_places, G__law_places⟩ := g__law_places (P := P) (w := w) F
  obtain ⟨f__law_pot, m__law_pot, k__law_pot, G__law_pot⟩ := g__law_pot (P := P) (w := w) F
  obtain ⟨f__law_right, m__law_right, k__law_right, G__law_right⟩ := g__law_right (P := P) (w := w) F
  refine ⟨f, hm, D.kp, fun base => fg_ofD (k := 9) D S rfl (fun _ _ _ _ _ _ us hl => match us, hl with | [_], _ => rfl) fun cdv A outer s H hr hg => ?_⟩
  have hU : ∀ n, n ≤ 200 → (A.deeper (PyProof.Rows.envOfC "law" (defScope (top 51)) s.heap.objs.size f cdv)).units + n < cLine := fun n h => by have := hr.un; omega
  exact (bx_cons (sx_frz [0] (sx_for PassesOwn.never rfl (ix_any (px_fg (G__law_places _) hr (by decide) hg rfl m__law_places k__law_places (ax_cons (px_var 0) (ax_cons px_int ax_nil)))) (gx_name 1 S.nd) (bx_cons (sx_frz [0, 1] (sx_put true 2 S.nd (px_fg (G__law_pot _) hr (by decide) hg rfl m__law_pot k__law_pot (ax_cons (px_var 0) (ax_cons (px_var 1) ax_nil))))) (bx_one (sx_if (tx_bool (wx_or (tx_not (tx_val (px_fg (G__law_right _) hr (by decide) hg rfl m__law_right k__law_right (ax_cons (px_var 2) ax_nil)))) (wx_or1 (tx_not (tx_val (px_fg (G__law_right _) hr (by decide) hg rfl m__law_right k__law_right (ax_cons (px_var 2) ax_nil))))))) (bx_one (sx_ret px_bl)) bx_nil))))) (bx_one (sx_ret px_bl)))
end
end K80
end

section
set_option maxHeartbeats 4000000
namespace K80
open PySem PySem.Spec L2 PL
/-! ### the head: facts by names, the run -/
def dd__law_places : He.DefD := ⟨("_law_places", none), "_law_places", "_law_places", defArgs (top 40), defBody (top 40), defScope (top 40), [], []⟩
def dd__law_pot : He.DefD := ⟨("_law_pot", none), "_law_pot", "_law_pot", defArgs (top 37), defBody (top 37), defScope (top 37), [], []⟩
def dd__law_step : He.DefD := ⟨("_law_step", none), "_law_step", "_law_step", defArgs (top 43), defBody (top 43), defScope (top 43), [], []⟩
def dd__law_first_way : He.DefD := ⟨("_law_first_way", none), "_law_first_way", "_law_first_way", defArgs (top 46), defBody (top 46), defScope (top 46), [], []⟩
def dd__law_is_int : He.DefD := ⟨("_law_is_int", none), "_law_is_int", "_law_is_int", defArgs (top 42), defBody (top 42), defScope (top 42), [], []⟩
def dd__law_inside : He.DefD := ⟨("_law_inside", none), "_law_inside", "_law_inside", defArgs (top 47), defBody (top 47), defScope (top 47), [], []⟩
def dd__law_lasts : He.DefD := ⟨("_law_lasts", none), "_law_lasts", "_law_lasts", defArgs (top 45), defBody (top 45), defScope (top 45), [], []⟩
def dd__law_take : He.DefD := ⟨("_law_take", none), "_law_take", "_law_take", defArgs (top 38), defBody (top 38), defScope (top 38), [], []⟩
def dd__law_some : He.DefD := ⟨("_law_some", none), "_law_some", "_law_some", defArgs (top 41), defBody (top 41), defScope (top 41), [], []⟩
def dd_behind_of : He.DefD := ⟨("behind_of", none), "behind_of", "behind_of", defArgs (top 22), defBody (top 22), defScope (top 22), [], []⟩
def dd_is_whole : He.DefD := ⟨("is_whole", none), "is_whole", "is_whole", defArgs (top 2), defBody (top 2), defScope (top 2), [], []⟩
def dd_is_integer : He.DefD := ⟨("is_integer", none), "is_integer", "is_integer", defArgs (top 3), defBody (top 3), defScope (top 3), [], []⟩
def dd_is_rising : He.DefD := ⟨("is_rising", none), "is_rising", "is_rising", defArgs (top 5), defBody (top 5), defScope (top 5), [], []⟩
def dd_is_tuple : He.DefD := ⟨("is_tuple", none), "is_tuple", "is_tuple", defArgs (top 1), defBody (top 1), defScope (top 1), [], []⟩
def dd_is_word : He.DefD := ⟨("is_word", none), "is_word", "is_word", defArgs (top 4), defBody (top 4), defScope (top 4), [], []⟩
def dd_is_event : He.DefD := ⟨("is_event", none), "is_event", "is_event", defArgs (top 19), defBody (top 19), defScope (top 19), [], []⟩
def dd_is_day : He.DefD := ⟨("is_day", none), "is_day", "is_day", defArgs (top 20), defBody (top 20), defScope (top 20), [], []⟩
def dd_check_day : He.DefD := ⟨("check_day", none), "check_day", "check_day", defArgs (top 21), defBody (top 21), defScope (top 21), [], []⟩
def dd_inside_by : He.DefD := ⟨("inside_by", none), "inside_by", "inside_by", defArgs (top 33), defBody (top 33), defScope (top 33), [], []⟩
def dd_check_car : He.DefD := ⟨("check_car", none), "check_car", "check_car", defArgs (top 29), defBody (top 29), defScope (top 29), [], []⟩
def dd_levels_of : He.DefD := ⟨("levels_of", none), "levels_of", "levels_of", defArgs (top 23), defBody (top 23), defScope (top 23), [], []⟩
def dd_way_to : He.DefD := ⟨("way_to", none), "way_to", "way_to", defArgs (top 30), defBody (top 30), defScope (top 30), [], []⟩
def dd_way_in : He.DefD := ⟨("way_in", none), "way_in", "way_in", defArgs (top 31), defBody (top 31), defScope (top 31), [], []⟩
def dd_way_out : He.DefD := ⟨("way_out", none), "way_out", "way_out", defArgs (top 32), defBody (top 32), defScope (top 32), [], []⟩
def dd__law_are_ways_right : He.DefD := ⟨("_law_are_ways_right", none), "_law_are_ways_right", "_law_are_ways_right", defArgs (top 49), defBody (top 49), defScope (top 49), [], []⟩
def dd__law_of : He.DefD := ⟨("_law_of", none), "_law_of", "_law_of", defArgs (top 39), defBody (top 39), defScope (top 39), [], []⟩
def dd__law_day : He.DefD := ⟨("_law_day", none), "_law_day", "_law_day", defArgs (top 48), defBody (top 48), defScope (top 48), [], []⟩
def dd__law_levels : He.DefD := ⟨("_law_levels", none), "_law_levels", "_law_levels", defArgs (top 44), defBody (top 44), defScope (top 44), [], []⟩
def dd_all_inside : He.DefD := ⟨("all_inside", none), "all_inside", "all_inside", defArgs (top 26), defBody (top 26), defScope (top 26), [], []⟩
def dd_can_be : He.DefD := ⟨("can_be", none), "can_be", "can_be", defArgs (top 25), defBody (top 25), defScope (top 25), [], []⟩
def dd_kept_of : He.DefD := ⟨("kept_of", none), "kept_of", "kept_of", defArgs (top 24), defBody (top 24), defScope (top 24), [], []⟩
def dd_cars_of : He.DefD := ⟨("cars_of", none), "cars_of", "cars_of", defArgs (top 34), defBody (top 34), defScope (top 34), [], []⟩
def dd_first_wrong : He.DefD := ⟨("first_wrong", none), "first_wrong", "first_wrong", defArgs (top 28), defBody (top 28), defScope (top 28), [], []⟩
def dd_how_many_ways : He.DefD := ⟨("how_many_ways", none), "how_many_ways", "how_many_ways", defArgs (top 35), defBody (top 35), defScope (top 35), [], []⟩
def dd_told : He.DefD := ⟨("told", none), "told", "told", defArgs (top 27), defBody (top 27), defScope (top 27), [], []⟩
def dd__law_right : He.DefD := ⟨("_law_right", none), "_law_right", "_law_right", defArgs (top 50), defBody (top 50), defScope (top 50), [], []⟩
def dd_law : He.DefD := ⟨("law", none), "law", "law", defArgs (top 51), defBody (top 51), defScope (top 51), [], []⟩
def fnp0 : List He.DefD := [dd__law_places, dd__law_pot, dd__law_step, dd__law_first_way, dd__law_is_int, dd__law_inside, dd__law_lasts, dd__law_take, dd__law_some, dd_behind_of, dd_is_whole, dd_is_integer, dd_is_rising, dd_is_tuple, dd_is_word, dd_is_event, dd_is_day, dd_check_day, dd_inside_by, dd_check_car, dd_levels_of, dd_way_to, dd_way_in, dd_way_out, dd__law_are_ways_right, dd__law_of, dd__law_day, dd__law_levels, dd_all_inside, dd_can_be]
def fnp1 : List He.DefD := [dd_kept_of, dd_cars_of, dd_first_wrong, dd_how_many_ways, dd_told, dd__law_right, dd_law]
def fn : List He.DefD := fnp0 ++ fnp1
def fap0 : List He.Fa := [.str "IN" "in", .int "MOST_CARS" 10, .int "MOST_EVENTS" 40, .str "NEVER" "never", .str "OPEN" "open", .str "OUT" "out", .int "PAIR" 2, .str "SURE" "sure", .free "abs", .free "all", .free "any", .free "bool", .free "dict", .free "enumerate", .free "int", .free "isinstance", .free "len", .free "list", .free "max", .free "min", .free "range", .free "repr", .free "set", .free "sorted", .free "str", .free "sum", .free "tuple", .free "zip", .glo "_law_places", .glo "_law_pot"]
def fap1 : List He.Fa := [.glo "_law_step", .glo "_law_first_way", .glo "_law_is_int", .glo "_law_inside", .glo "_law_lasts", .glo "_law_take", .glo "_law_some", .glo "behind_of", .glo "is_whole", .glo "is_integer", .glo "is_rising", .glo "is_tuple", .glo "is_word", .glo "is_event", .glo "is_day", .glo "check_day", .glo "inside_by", .glo "check_car", .glo "levels_of", .glo "way_to", .glo "way_in", .glo "way_out", .glo "_law_are_ways_right", .glo "_law_of", .glo "_law_day", .glo "_law_levels", .glo "all_inside", .glo "can_be", .glo "kept_of", .glo "cars_of"]
def fap2 : List He.Fa := [.glo "first_wrong", .glo "how_many_ways", .glo "told", .glo "_law_right", .glo "law"]
def fa : List He.Fa := fap0 ++ fap1 ++ fap2
def lop0 : List Str := ["is_tuple", "is_whole", "is_integer", "is_word", "is_rising", "SeenError", "BadCar", "BadEvents", "MOST_CARS", "MOST_EVENTS", "PAIR", "IN", "OUT", "SURE", "NEVER", "OPEN", "is_event", "is_day", "check_day", "behind_of", "levels_of", "kept_of", "can_be", "all_inside", "told", "first_wrong", "check_car", "way_to", "way_in", "way_out"]
def lop1 : List Str := ["inside_by", "cars_of", "how_many_ways", "_law_pot", "_law_take", "_law_of", "_law_places", "_law_some", "_law_is_int", "_law_step", "_law_levels", "_law_lasts", "_law_first_way", "_law_inside", "_law_day", "_law_are_ways_right", "_law_right"]
def lo : List Str := lop0 ++ lop1
abbrev R : PySem.W.OpenRow := PySem.W.OpenLaw.row PySem.Challenge.rw_nevermisread_k80_whole_yards_by_own_leve
abbrev hk : PySem.W.Hook := He.hookD 4 fa fn
def ob (s : PySem.W.SharedT) : He.AlD := He.obsDG 4 fa fn (HandSHeadRun.getT s)
theorem ob_eq (s : PySem.W.SharedT) : ob s = hk.obs s.abs := He.obsDG_eq (HandSHeadRun.getT_eq s)
theorem run (w : World) : HandSHeadRun.RunEq R (PySem.W.view R.prog [51]) hk ob 3000 lo w := by
  intro os
  kernel_rfl
theorem fs_of {K : PySem.W.Frag} {h : Heap} {mg : Str → Option Value} (X : K.In h) (G : h.Ns mainGlobals mg) (c : He.SaysD fa fn K) : Fs K mg where
  c_IN := He.str_ok X G (c.fact 0 (f := .str "IN" "in") rfl)
  c_MOST_CARS := He.int_ok X G (c.fact 1 (f := .int "MOST_CARS" 10) rfl)
  c_MOST_EVENTS := He.int_ok X G (c.fact 2 (f := .int "MOST_EVENTS" 40) rfl)
  c_NEVER := He.str_ok X G (c.fact 3 (f := .str "NEVER" "never") rfl)
  c_OPEN := He.str_ok X G (c.fact 4 (f := .str "OPEN" "open") rfl)
  c_OUT := He.str_ok X G (c.fact 5 (f := .str "OUT" "out") rfl)
  c_PAIR := He.int_ok X G (c.fact 6 (f := .int "PAIR" 2) rfl)
  c_SURE := He.str_ok X G (c.fact 7 (f := .str "SURE" "sure") rfl)
  b_abs := He.free_ok X G (c.fact 8 (f := .free "abs") rfl)
  b_all := He.free_ok X G (c.fact 9 (f := .free "all") rfl)
  b_any := He.free_ok X G (c.fact 10 (f := .free "any") rfl)
  b_bool := He.free_ok X G (c.fact 11 (f := .free "bool") rfl)
  b_dict := He.free_ok X G (c.fact 12 (f := .free "dict") rfl)
  b_enumerate := He.free_ok X G (c.fact 13 (f := .free "enumerate") rfl)
  b_int := He.free_ok X G (c.fact 14 (f := .free "int") rfl)
  b_isinstance := He.free_ok X G (c.fact 15 (f := .free "isinstance") rfl)
  b_len := He.free_ok X G (c.fact 16 (f := .free "len") rfl)
  b_list := He.free_ok X G (c.fact 17 (f := .free "list") rfl)
  b_max := He.free_ok X G (c.fact 18 (f := .free "max") rfl)
  b_min := He.free_ok X G (c.fact 19 (f := .free "min") rfl)
  b_range := He.free_ok X G (c.fact 20 (f := .free "range") rfl)
  b_repr := He.free_ok X G (c.fact 21 (f := .free "repr") rfl)
  b_set := He.free_ok X G (c.fact 22 (f := .free "set") rfl)
  b_sorted := He.free_ok X G (c.fact 23 (f := .free "sorted") rfl)
  b_str := He.free_ok X G (c.fact 24 (f := .free "str") rfl)
  b_sum := He.free_ok X G (c.fact 25 (f := .free "sum") rfl)
  b_tuple := He.free_ok X G (c.fact 26 (f := .free "tuple") rfl)
  b_zip := He.free_ok X G (c.fact 27 (f := .free "zip") rfl)
  d__law_places := by
    obtain ⟨fd, D⟩ := c.def_ 0 (d := dd__law_places) rfl
    exact ⟨_, fd, He.glo_ok X G (c.fact 28 (f := .glo "_law_places") rfl), D⟩
  d__law_pot := by
    obtain ⟨fd, D⟩ := c.def_ 1 (d := dd__law_pot) rfl
    exact ⟨_, fd, He.glo_ok X G (c.fact 29 (f := .glo "_law_pot") rfl), D⟩
  d__law_step := by
    obtain ⟨fd, D⟩ := c.def_ 2 (d := dd__law_step) rfl
    exact ⟨_, fd, He.glo_ok X G (c.fact 30 (f := .glo "_law_step") rfl), D⟩
  d__law_first_way := by
    obtain ⟨fd, D⟩ := c.def_ 3 (d := dd__law_first_way) rfl
    exact ⟨_, fd, He.glo_ok X G (c.fact 31 (f := .glo "_law_first_way") rfl), D⟩
  d__law_is_int := by
    obtain ⟨fd, D⟩ := c.def_ 4 (d := dd__law_is_int) rfl
    exact ⟨_, fd, He.glo_ok X G (c.fact 32 (f := .glo "_law_is_int") rfl), D⟩
  d__law_inside := by
    obtain ⟨fd, D⟩ := c.def_ 5 (d := dd__law_inside) rfl
    exact ⟨_, fd, He.glo_ok X G (c.fact 33 (f := .glo "_law_inside") rfl), D⟩
  d__law_lasts := by
    obtain ⟨fd, D⟩ := c.def_ 6 (d := dd__law_lasts) rfl
    exact ⟨_, fd, He.glo_ok X G (c.fact 34 (f := .glo "_law_lasts") rfl), D⟩
  d__law_take := by
    obtain ⟨fd, D⟩ := c.def_ 7 (d := dd__law_take) rfl
    exact ⟨_, fd, He.glo_ok X G (c.fact 35 (f := .glo "_law_take") rfl), D⟩
  d__law_some := by
    obtain ⟨fd, D⟩ := c.def_ 8 (d := dd__law_some) rfl
    exact ⟨_, fd, He.glo_ok X G (c.fact 36 (f := .glo "_law_some") rfl), D⟩
  d_behind_of := by
    obtain ⟨fd, D⟩ := c.def_ 9 (d := dd_behind_of) rfl
    exact ⟨_, fd, He.glo_ok X G (c.fact 37 (f := .glo "behind_of") rfl), D⟩
  d_is_whole := by
    obtain ⟨fd, D⟩ := c.def_ 10 (d := dd_is_whole) rfl
    exact ⟨_, fd, He.glo_ok X G (c.fact 38 (f := .glo "is_whole") rfl), D⟩
  d_is_integer := by
    obtain ⟨fd, D⟩ := c.def_ 11 (d := dd_is_integer) rfl
    exact ⟨_, fd, He.glo_ok X G (c.fact 39 (f := .glo "is_integer") rfl), D⟩
  d_is_rising := by
    obtain ⟨fd, D⟩ := c.def_ 12 (d := dd_is_rising) rfl
    exact ⟨_, fd, He.glo_ok X G (c.fact 40 (f := .glo "is_rising") rfl), D⟩
  d_is_tuple := by
    obtain ⟨fd, D⟩ := c.def_ 13 (d := dd_is_tuple) rfl
    exact ⟨_, fd, He.glo_ok X G (c.fact 41 (f := .glo "is_tuple") rfl), D⟩
  d_is_word := by
    obtain ⟨fd, D⟩ := c.def_ 14 (d := dd_is_word) rfl
    exact ⟨_, fd, He.glo_ok X G (c.fact 42 (f := .glo "is_word") rfl), D⟩
  d_is_event := by
    obtain ⟨fd, D⟩ := c.def_ 15 (d := dd_is_event) rfl
    exact ⟨_, fd, He.glo_ok X G (c.fact 43 (f := .glo "is_event") rfl), D⟩
  d_is_day := by
    obtain ⟨fd, D⟩ := c.def_ 16 (d := dd_is_day) rfl
    exact ⟨_, fd, He.glo_ok X G (c.fact 44 (f := .glo "is_day") rfl), D⟩
  d_check_day := by
    obtain ⟨fd, D⟩ := c.def_ 17 (d := dd_check_day) rfl
    exact ⟨_, fd, He.glo_ok X G (c.fact 45 (f := .glo "check_day") rfl), D⟩
  d_inside_by := by
    obtain ⟨fd, D⟩ := c.def_ 18 (d := dd_inside_by) rfl
    exact ⟨_, fd, He.glo_ok X G (c.fact 46 (f := .glo "inside_by") rfl), D⟩
  d_check_car := by
    obtain ⟨fd, D⟩ := c.def_ 19 (d := dd_check_car) rfl
    exact ⟨_, fd, He.glo_ok X G (c.fact 47 (f := .glo "check_car") rfl), D⟩
  d_levels_of := by
    obtain ⟨fd, D⟩ := c.def_ 20 (d := dd_levels_of) rfl
    exact ⟨_, fd, He.glo_ok X G (c.fact 48 (f := .glo "levels_of") rfl), D⟩
  d_way_to := by
    obtain ⟨fd, D⟩ := c.def_ 21 (d := dd_way_to) rfl
    exact ⟨_, fd, He.glo_ok X G (c.fact 49 (f := .glo "way_to") rfl), D⟩
  d_way_in := by
    obtain ⟨fd, D⟩ := c.def_ 22 (d := dd_way_in) rfl
    exact ⟨_, fd, He.glo_ok X G (c.fact 50 (f := .glo "way_in") rfl), D⟩
  d_way_out := by
    obtain ⟨fd, D⟩ := c.def_ 23 (d := dd_way_out) rfl
    exact ⟨_, fd, He.glo_ok X G (c.fact 51 (f := .glo "way_out") rfl), D⟩
  d__law_are_ways_right := by
    obtain ⟨fd, D⟩ := c.def_ 24 (d := dd__law_are_ways_right) rfl
    exact ⟨_, fd, He.glo_ok X G (c.fact 52 (f := .glo "_law_are_ways_right") rfl), D⟩
  d__law_of := by
    obtain ⟨fd, D⟩ := c.def_ 25 (d := dd__law_of) rfl
    exact ⟨_, fd, He.glo_ok X G (c.fact 53 (f := .glo "_law_of") rfl), D⟩
  d__law_day := by
    obtain ⟨fd, D⟩ := c.def_ 26 (d := dd__law_day) rfl
    exact ⟨_, fd, He.glo_ok X G (c.fact 54 (f := .glo "_law_day") rfl), D⟩
  d__law_levels := by
    obtain ⟨fd, D⟩ := c.def_ 27 (d := dd__law_levels) rfl
    exact ⟨_, fd, He.glo_ok X G (c.fact 55 (f := .glo "_law_levels") rfl), D⟩
  d_all_inside := by
    obtain ⟨fd, D⟩ := c.def_ 28 (d := dd_all_inside) rfl
    exact ⟨_, fd, He.glo_ok X G (c.fact 56 (f := .glo "all_inside") rfl), D⟩
  d_can_be := by
    obtain ⟨fd, D⟩ := c.def_ 29 (d := dd_can_be) rfl
    exact ⟨_, fd, He.glo_ok X G (c.fact 57 (f := .glo "can_be") rfl), D⟩
  d_kept_of := by
    obtain ⟨fd, D⟩ := c.def_ 30 (d := dd_kept_of) rfl
    exact ⟨_, fd, He.glo_ok X G (c.fact 58 (f := .glo "kept_of") rfl), D⟩
  d_cars_of := by
    obtain ⟨fd, D⟩ := c.def_ 31 (d := dd_cars_of) rfl
    exact ⟨_, fd, He.glo_ok X G (c.fact 59 (f := .glo "cars_of") rfl), D⟩
  d_first_wrong := by
    obtain ⟨fd, D⟩ := c.def_ 32 (d := dd_first_wrong) rfl
    exact ⟨_, fd, He.glo_ok X G (c.fact 60 (f := .glo "first_wrong") rfl), D⟩
  d_how_many_ways := by
    obtain ⟨fd, D⟩ := c.def_ 33 (d := dd_how_many_ways) rfl
    exact ⟨_, fd, He.glo_ok X G (c.fact 61 (f := .glo "how_many_ways") rfl), D⟩
  d_told := by
    obtain ⟨fd, D⟩ := c.def_ 34 (d := dd_told) rfl
    exact ⟨_, fd, He.glo_ok X G (c.fact 62 (f := .glo "told") rfl), D⟩
  d__law_right := by
    obtain ⟨fd, D⟩ := c.def_ 35 (d := dd__law_right) rfl
    exact ⟨_, fd, He.glo_ok X G (c.fact 63 (f := .glo "_law_right") rfl), D⟩
  d_law := by
    obtain ⟨fd, D⟩ := c.def_ 36 (d := dd_law) rfl
    exact ⟨_, fd, He.glo_ok X G (c.fact 64 (f := .glo "law") rfl), D⟩
end K80
end

open PySem PySem.W PySem.Calls PyProof.Rows
set_option maxHeartbeats 0
theorem PySem.Challenge.cw_nevermisread_k80_whole_yards_by_own_leve_holds : PySem.Challenge.rw_nevermisread_k80_whole_yards_by_own_leve.Holds := by
  w_on; o_law
  refine HandSHeadRun.head_any (r := OpenLaw.row PySem.Challenge.rw_nevermisread_k80_whole_yards_by_own_leve) (q := view (OpenLaw.row PySem.Challenge.rw_nevermisread_k80_whole_yards_by_own_leve).prog [51]) (H := K80.hk) (ob := K80.ob) (M := 3000) (loose := K80.lo) (d := HandSHeadRun.topDef (OpenLaw.row PySem.Challenge.rw_nevermisread_k80_whole_yards_by_own_leve).prog 51) (kwd := []) K80.ob_eq
    (by kernel_rfl) (fun s => by kernel_rfl) K80.run (by kernel_rfl) (by kernel_rfl) (by kernel_rfl) (by rfl) (by first | assumption | decide +kernel) (by decide +kernel) ⟨rfl, rfl, rfl, rfl, rfl, by decide +kernel⟩ ?hw ?hc
  case hw => w_witness2
  case hc =>
    refine PL.walk_ofG (l := PySem.Challenge.rw_nevermisread_k80_whole_yards_by_own_leve) (n := 63) (k := 10) (g := K80.o_law) rfl (by decide) (by kernel_rfl) ⟨rfl, by decide, by decide⟩ ?F K80.law_pure
    intro w mg fa h Y G hmg0
    obtain ⟨K, KX, c⟩ := Y
    have hmg : mg ("law" : PySem.Str) = some (.ref fa) := by
      have e : (HandSHeadRun.topDef (OpenLaw.row PySem.Challenge.rw_nevermisread_k80_whole_yards_by_own_leve).prog 51).name = ("law" : PySem.Str) := by kernel_rfl
      rw [← e]
      exact hmg0
    obtain ⟨f, hm, hk, F⟩ := K80.g_law (P := (PySem.Challenge.rw_nevermisread_k80_whole_yards_by_own_leve).prog) (w := w) (K80.fs_of KX G c)
    rw [hm] at hmg; cases hmg
    exact ⟨K, KX, fun base _ _ => F base⟩
