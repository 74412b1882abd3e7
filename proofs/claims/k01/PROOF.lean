import PyProof.Rows.All
import Wide.All
import OpenK.AllK
import Wide.FinOn
import HandS.ForMost
import HandS.Exc
import HandS.WordsExc
import HandS.FStr
import HandS.Sort
import KE.KDictKeyed
import KE.KDictLaw
import KE.KDictWalk
import KE.KDictDisplayH
import KE.SortData
import KE.SortLaws
import KE.LtData
import KE.GoesDict
import KE.GoesEnum
import KE.GoesMore
import PyProof.Rows.EqDataRows
import PyProof.Rows.InDataRows
import HandS.TupAny
import HandS.TupLe
import HandS.Text
import HandS.Strs
import HandS.Style
import KE.KDictSum
import KE.KDictCopyH
import HandS.DictComp
import KE.KDictPairs
import HandS.IsInst
import HandS.More
import HandS.Iter
import HandS.Zip
import HandS.Defaults
import HandS.MakeKwOnly
import HandS.TryMany
import HandS.ExcOwn
import HandS.TupSets
import HandS.SetFor
import KE.DataMinMax
import HandS.DictTup
import PyProof.DictMoreH
import PyProof.FactsAll.dict_3
import PyProof.SliceList
import PySem.Challenge.RW_layerbody_k01_what_are_bodies
set_option Elab.async false
set_option linter.all false
set_option maxRecDepth 100000
set_option maxHeartbeats 4000000
/-! Values, stores, and how they stand for the heap. -/
namespace Lb
open PySem PySem.Spec PyProof.Rows L2

/-- a value: tuples and settled lists are told by what they hold; an object that may change is told by its number -/
inductive D where
  | non | bl (b : Bool) | int (i : Int) | str (x : Str)
  | tup (xs : List D) | lst (xs : List D) | ref (n : Nat) | scr (ns : List Int)
/-- an object that may change -/
inductive Ob where
  | lst (xs : List D)
  | dict (kvs : List (D × D))
  | fdict (kvs : List (D × D))
  | dks (kvs : List (Str × D))
  | ins (C : Str) (fs : List (Str × D))
abbrev Hs := List Ob
abbrev En := List (Option D)
structure Exc where
  cls : Str
  fld : Option (Str × D) := none
inductive R (α : Type) where
  | ok (a : α) (h : Hs)
  | exc (c : Exc) (h : Hs)
  | bad
@[simp] def R.bind {α β : Type} (r : R α) (f : α → Hs → R β) : R β := match r with
  | .ok a h => f a h
  | .exc c h => .exc c h
  | .bad => .bad
/-- a statement's end -/
inductive Fl where
  | nx (e : En) (h : Hs) | rt (d : D) (h : Hs) | bk (e : En) (h : Hs) | ct (e : En) (h : Hs) | exc (c : Exc) (e : En) (h : Hs) | bad
@[simp] def R.st {α : Type} (r : R α) (e : En) (k : α → Hs → Fl) : Fl := match r with
  | .ok a h => k a h
  | .exc c h => .exc c e h
  | .bad => .bad
abbrev Ev := En → Hs → R D
abbrev Ts := En → Hs → R Bool
abbrev Es := En → Hs → R (List D)
abbrev Sv := En → Hs → Fl
abbrev Tg := D → En → Option En

/-! ### keys -/
mutual
def D.key : D → NestedKey
  | .non => .none
  | .bl b => .num (if b then 1 else 0)
  | .int i => .num i
  | .str x => .text x
  | .tup xs => .tup (D.keys xs)
  | .lst _ => .none
  | .ref _ => .none
  | .scr _ => .none
def D.keys : List D → List NestedKey
  | [] => []
  | x :: xs => D.key x :: D.keys xs
end
mutual
def D.keyOk : D → Bool
  | .non => true
  | .bl _ => true
  | .int _ => true
  | .str _ => true
  | .tup xs => D.keysOk xs
  | .lst _ => false
  | .ref _ => false
  | .scr _ => false
def D.keysOk : List D → Bool
  | [] => true
  | x :: xs => D.keyOk x && D.keysOk xs
end
/-- a tuple that may be a key -/
def D.isKey (d : D) : Bool := (match d with | .tup _ => true | _ => false) && d.keyOk && decide (d.key.depth ≤ 8)
def dget (kvs : List (D × D)) (k : D) : Option D := (kvs.find? fun p => decide (p.1.key = k.key)).map (·.2)
def dset (kvs : List (D × D)) (k v : D) : List (D × D) :=
  if (dget kvs k).isSome then kvs.map (fun p => if p.1.key = k.key then (p.1, v) else p) else kvs ++ [(k, v)]
def ddel (kvs : List (D × D)) (k : D) : List (D × D) := kvs.filter fun p => decide (p.1.key ≠ k.key)

/-! ### how they stand for the heap -/
/-- a list, a tuple of the written part -/
def KList (K : PySem.W.Frag) (a : Addr) (xs : List V) : Prop :=
  ∃ (o : Obj) (its : Array Value) (n : Nat), K.lookup a = some o ∧ o.cls = .type "list" ∧ o.dict = none ∧ o.data = .seq its n ∧ its.size ≤ sizeLine ∧ Vals xs its.toList
def KTup (K : PySem.W.Frag) (a : Addr) (xs : List V) : Prop :=
  ∃ (o : Obj) (its : Array Value) (n : Nat), K.lookup a = some o ∧ o.cls = .type "tuple" ∧ o.data = .seq its n ∧ its.size ≤ sizeLine ∧ Vals xs its.toList
def LAt (K : PySem.W.Frag) (ρ : List Addr) (H : Hp) (a : Addr) (xs : List V) : Prop := (Rd H a (.lst xs) ∧ a ∉ ρ) ∨ KList K a xs
def TAt (K : PySem.W.Frag) (ρ : List Addr) (H : Hp) (a : Addr) (xs : List V) : Prop := (Rd H a (.tup xs) ∧ a ∉ ρ) ∨ KTup K a xs
theorem LAt.seq {K ρ H a xs} (h : LAt K ρ H a xs) : SqL K H a xs := h.imp (fun x => x.1) fun x => x
theorem TAt.seq {K ρ H a xs} (h : TAt K ρ H a xs) : SqT K H a xs := h.imp (fun x => x.1) fun x => x

mutual
def RD (K : PySem.W.Frag) (ρ : List Addr) (H : Hp) : D → V → Prop
  | .non, v => v = .non
  | .bl b, v => v = .bl b
  | .int i, v => v = .int i
  | .str x, v => v = .str x
  | .tup ds, v => ∃ a vs, v = .ref a ∧ TAt K ρ H a vs ∧ RDs K ρ H ds vs
  | .lst ds, v => ∃ a vs, v = .ref a ∧ (H a = some (.lst vs) ∧ a ∉ ρ) ∧ RDs K ρ H ds vs
  | .ref n, v => ∃ a, v = .ref a ∧ ρ[n]? = some a
  | .scr ns, v => ∃ a, v = .ref a ∧ LAt K ρ H a (ns.map V.int)
def RDs (K : PySem.W.Frag) (ρ : List Addr) (H : Hp) : List D → List V → Prop
  | [], vs => vs = []
  | d :: ds, vs => ∃ v r, vs = v :: r ∧ RD K ρ H d v ∧ RDs K ρ H ds r
end
/-- the heap has grown; what is no object of ours stands -/
structure Ext (ρ ρ' : List Addr) (H H' : Hp) : Prop where
  pre : ∃ t, ρ' = ρ ++ t ∧ ∀ a ∈ t, H a = none
  stb : ∀ a o, a ∉ ρ → H a = some o → H' a = some o
  trk : ∀ a o, H a = some o → ∃ o', H' a = some o'
  frz : ∀ a o u, H a = some (.frz o u) → H' a = some (.frz o u)
section
variable {K : PySem.W.Frag} {ρ ρ1 ρ2 ρ' : List Addr} {H H1 H2 H' : Hp}
theorem Ext.refl : Ext ρ ρ H H := ⟨⟨[], by simp, by simp⟩, fun _ _ _ h => h, fun _ o h => ⟨o, h⟩, fun _ _ _ h => h⟩
theorem Ext.trans (x : Ext ρ ρ1 H H1) (y : Ext ρ1 ρ2 H1 H2) : Ext ρ ρ2 H H2 := by
  obtain ⟨⟨t, rfl, ht⟩, s1, k1, z1⟩ := x
  obtain ⟨⟨t', rfl, ht'⟩, s2, k2, z2⟩ := y
  have nn : ∀ a, H1 a = none → H a = none := fun a h => by
    cases e : H a with
    | none => rfl
    | some o =>
      obtain ⟨o', e'⟩ := k1 a o e
      rw [h] at e'; cases e'
  refine ⟨⟨t ++ t', by simp, fun a ha => ?_⟩, fun a o ha e => ?_, fun a o e => ?_, fun a o u e => z2 a o u (z1 a o u e)⟩
  · rcases List.mem_append.mp ha with h | h
    · exact ht a h
    · exact nn a (ht' a h)
  · have e1 := s1 a o ha e
    refine s2 a o (fun hm => ?_) e1
    rcases List.mem_append.mp hm with h | h
    · exact ha h
    · rw [ht a h] at e; cases e
  · obtain ⟨o', e'⟩ := k1 a o e
    exact k2 a o' e'
theorem Ext.out (x : Ext ρ ρ' H H') {a : Addr} {o : HO} (ha : a ∉ ρ) (h : H a = some o) : a ∉ ρ' := by
  obtain ⟨⟨t, rfl, ht⟩, _, _, _⟩ := x
  intro hm
  rcases List.mem_append.mp hm with z | z
  · exact ha z
  · rw [ht a z] at h; cases h
theorem Ext.rd (x : Ext ρ ρ' H H') {a : Addr} {u : HO} (ha : a ∉ ρ) (h : Rd H a u) : Rd H' a u ∧ a ∉ ρ' := by
  rcases h with h | ⟨o, h⟩
  · exact ⟨.inl (x.stb a _ ha h), x.out ha h⟩
  · exact ⟨.inr ⟨o, x.stb a _ ha h⟩, x.out ha h⟩
theorem Ext.get (x : Ext ρ ρ' H H') {n : Nat} {a : Addr} (h : ρ[n]? = some a) : ρ'[n]? = some a := by
  obtain ⟨⟨t, rfl, _⟩, _, _, _⟩ := x
  rw [List.getElem?_append_left (List.getElem?_eq_some_iff.mp h).1]; exact h
theorem LAt.ext (x : Ext ρ ρ' H H') {a xs} (h : LAt K ρ H a xs) : LAt K ρ' H' a xs := by
  rcases h with ⟨h1, h2⟩ | h
  · exact .inl (x.rd h2 h1)
  · exact .inr h
theorem TAt.ext (x : Ext ρ ρ' H H') {a xs} (h : TAt K ρ H a xs) : TAt K ρ' H' a xs := by
  rcases h with ⟨h1, h2⟩ | h
  · exact .inl (x.rd h2 h1)
  · exact .inr h
mutual
theorem RD.ext (x : Ext ρ ρ' H H') : ∀ (d : D) (v : V), RD K ρ H d v → RD K ρ' H' d v
  | .non, _, h => h
  | .bl _, _, h => h
  | .int _, _, h => h
  | .str _, _, h => h
  | .tup ds, _, ⟨a, vs, e, t, r⟩ => ⟨a, vs, e, t.ext x, RDs.ext x ds vs r⟩
  | .lst ds, _, ⟨a, vs, e, t, r⟩ => ⟨a, vs, e, ⟨x.stb a _ t.2 t.1, x.out t.2 t.1⟩, RDs.ext x ds vs r⟩
  | .ref _, _, ⟨a, e, t⟩ => ⟨a, e, x.get t⟩
  | .scr _, _, ⟨a, e, t⟩ => ⟨a, e, t.ext x⟩
theorem RDs.ext (x : Ext ρ ρ' H H') : ∀ (ds : List D) (vs : List V), RDs K ρ H ds vs → RDs K ρ' H' ds vs
  | [], _, h => h
  | d :: ds, _, ⟨v, r, e, h1, h2⟩ => ⟨v, r, e, RD.ext x d v h1, RDs.ext x ds r h2⟩
end
theorem RDs.length : ∀ {ds : List D} {vs : List V}, RDs K ρ H ds vs → ds.length = vs.length
  | [], _, h => by cases h; rfl
  | d :: ds, _, ⟨v, r, e, _, h2⟩ => by subst e; simp [RDs.length h2]
theorem RDs.get : ∀ {ds : List D} {vs : List V} {i : Nat} {d : D}, RDs K ρ H ds vs → ds[i]? = some d → ∃ v, vs[i]? = some v ∧ RD K ρ H d v
  | [], _, _, _, h, e => by simp at e
  | d :: ds, _, 0, _, ⟨v, r, e, h1, _⟩, q => by subst e; simp at q; subst q; exact ⟨v, rfl, h1⟩
  | d :: ds, _, i + 1, _, ⟨v, r, e, _, h2⟩, q => by subst e; obtain ⟨u, a, b⟩ := RDs.get (i := i) h2 (by simpa using q); exact ⟨u, by simpa using a, b⟩
theorem RDs.append : ∀ {ds es : List D} {vs us : List V}, RDs K ρ H ds vs → RDs K ρ H es us → RDs K ρ H (ds ++ es) (vs ++ us)
  | [], _, _, _, h, g => by cases h; exact g
  | d :: ds, _, _, _, ⟨v, r, e, h1, h2⟩, g => by subst e; exact ⟨v, r ++ _, rfl, h1, RDs.append h2 g⟩
theorem RDs.take : ∀ {ds : List D} {vs : List V} (n : Nat), RDs K ρ H ds vs → RDs K ρ H (ds.take n) (vs.take n)
  | _, _, 0, _ => by simp [RDs]
  | [], _, n + 1, h => by cases h; simp [RDs]
  | d :: ds, _, n + 1, ⟨v, r, e, h1, h2⟩ => by subst e; exact ⟨v, _, rfl, h1, RDs.take n h2⟩
theorem RDs.drop : ∀ {ds : List D} {vs : List V} (n : Nat), RDs K ρ H ds vs → RDs K ρ H (ds.drop n) (vs.drop n)
  | _, _, 0, h => h
  | [], _, n + 1, h => by cases h; simp [RDs]
  | d :: ds, _, n + 1, ⟨v, r, e, h1, h2⟩ => by subst e; exact RDs.drop n h2
theorem RDs.set : ∀ {ds : List D} {vs : List V} (n : Nat) {d : D} {v : V}, RDs K ρ H ds vs → RD K ρ H d v → RDs K ρ H (ds.set n d) (vs.set n v)
  | [], _, _, _, _, h, _ => by cases h; simp [RDs]
  | d :: ds, _, 0, _, _, ⟨v, r, e, h1, h2⟩, g => by subst e; exact ⟨_, _, rfl, g, h2⟩
  | d :: ds, _, n + 1, _, _, ⟨v, r, e, h1, h2⟩, g => by subst e; exact ⟨_, _, rfl, h1, RDs.set n h2 g⟩
theorem RDs.one {d : D} {v : V} (h : RD K ρ H d v) : RDs K ρ H [d] [v] := ⟨v, [], rfl, h, rfl⟩
theorem RDs.cons {d : D} {v : V} {ds vs} (h : RD K ρ H d v) (g : RDs K ρ H ds vs) : RDs K ρ H (d :: ds) (v :: vs) := ⟨v, vs, rfl, h, g⟩
end

/-! ### a dict whose keys are tuples, told by its one object -/
def DictPhi (P : Program) (w : World) (a : Addr) (kvs : List (NestedKey × Addr × V)) : Heap → Prop := fun h =>
  kvs.length ≤ sizeLine ∧ (a == sysModules) = false ∧ ∃ xs : List (NestedKey × Addr × Value),
    Paired (fun (p : NestedKey × Addr × V) (q : NestedKey × Addr × Value) => p.1 = q.1 ∧ p.2.1 = q.2.1 ∧ RelV p.2.2 q.2.2) kvs xs ∧
    ∃ o es ep, h.get? a = some o ∧ o.ExactDict ∧ o.data = .dict es ep ∧ es.toList = xs.map (entryOfKey (nestedKind P w)) ∧ (xs.map (·.1)).Nodup

section
variable (P : Program) (w : World) (K : PySem.W.Frag) (mg : Str → Option Value)
/-- an object of ours at its address -/
def RO (ρ : List Addr) (H : Hp) (a : Addr) : Ob → Prop
  | .lst xs => ∃ vs, H a = some (.lst vs) ∧ RDs K ρ H xs vs
  | .dict kvs => ∃ kvh : List (NestedKey × Addr × V), H a = some (.ext (DictPhi P w a kvh)) ∧
      Paired (fun (p : D × D) (q : NestedKey × Addr × V) => q.1 = p.1.key ∧ p.1.isKey = true ∧ RD K ρ H p.1 (.ref q.2.1) ∧ RD K ρ H p.2 q.2.2) kvs kvh
  | .fdict kvs => ∃ (kvh : List (NestedKey × Addr × V)) (od : Obj), H a = some (.frz od (.ext (DictPhi P w a kvh))) ∧
      Paired (fun (p : D × D) (q : NestedKey × Addr × V) => q.1 = p.1.key ∧ p.1.isKey = true ∧ RD K ρ H p.1 (.ref q.2.1) ∧ RD K ρ H p.2 q.2.2) kvs kvh
  | .dks kvs => ∃ kvh : List (Key × V), H a = some (.dK kvh) ∧ Paired (fun (p : Str × D) (q : Key × V) => q.1 = .inr p.1 ∧ RD K ρ H p.2 q.2) kvs kvh
  | .ins C fs => ∃ (c dx : Addr) (vs : List (Str × V)), mg C = some (.ref c) ∧ H a = some (.ins c dx vs) ∧ Paired (fun (p : Str × D) (q : Str × V) => q.1 = p.1 ∧ RD K ρ H p.2 q.2) fs vs
structure RS (ρ : List Addr) (σ : Hs) (H : Hp) : Prop where
  len : ρ.length = σ.length
  nd : ρ.Nodup
  at_ : ∀ (n : Nat) a o, ρ[n]? = some a → σ[n]? = some o → RO P w K mg ρ H a o
end
end Lb

set_option Elab.async false
set_option linter.all false
set_option maxRecDepth 100000
set_option maxHeartbeats 4000000
namespace Lb
open PySem PySem.Spec PyProof.Rows L2

section
variable {P : Program} {w : World} {K : PySem.W.Frag} {mg : Str → Option Value} {ρ ρ' ρ1 : List Addr} {H H' H1 : Hp} {σ : Hs}
/-- env stands for the slots -/
def RE (K : PySem.W.Frag) (ρ : List Addr) (H : Hp) (e : En) (σ : L2.St) : Prop := e.length = σ.length ∧ ∀ (i : Nat) d, e[i]? = some (some d) → ∃ v, σ[i]? = some (some v) ∧ RD K ρ H d v
theorem RE.ext {e : En} {σ : L2.St} (h : RE K ρ H e σ) (x : Ext ρ ρ' H H') : RE K ρ' H' e σ := ⟨h.1, fun i d q => let ⟨v, a, b⟩ := h.2 i d q; ⟨v, a, RD.ext x d v b⟩⟩
theorem RE.set {e : En} {σ : L2.St} (h : RE K ρ H e σ) (i : Nat) {d : D} {v : V} (r : RD K ρ H d v) : RE K ρ H (e.set i (some d)) (σ.set i (some v)) := by
  refine ⟨by simp [h.1], fun j d' q => ?_⟩
  by_cases hj : i = j
  · subst hj
    by_cases hl : i < e.length
    · rw [List.getElem?_set_self hl] at q
      cases q
      exact ⟨v, by rw [List.getElem?_set_self (by rw [← h.1]; exact hl)], r⟩
    · rw [List.getElem?_eq_none (by simp; omega)] at q; cases q
  · rw [List.getElem?_set_ne hj] at q
    obtain ⟨u, a, b⟩ := h.2 j d' q
    exact ⟨u, by rw [List.getElem?_set_ne hj]; exact a, b⟩
theorem RS.free (r : RS P w K mg ρ σ H) {a : Addr} (h : H a = none) : a ∉ ρ := fun hm => by
  obtain ⟨n, hn⟩ := List.getElem?_of_mem hm
  have hl : n < σ.length := by rw [← r.len]; exact (List.getElem?_eq_some_iff.mp hn).1
  have q := r.at_ n a σ[n] hn (by simp [hl])
  cases e : σ[n] with
  | lst xs => rw [e] at q; obtain ⟨vs, q, _⟩ := q; rw [h] at q; cases q
  | dict xs => rw [e] at q; obtain ⟨vs, q, _⟩ := q; rw [h] at q; cases q
  | fdict xs => rw [e] at q; obtain ⟨vs, _, q, _⟩ := q; rw [h] at q; cases q
  | dks xs => rw [e] at q; obtain ⟨vs, q, _⟩ := q; rw [h] at q; cases q
  | ins c xs => rw [e] at q; obtain ⟨_, _, vs, _, q, _⟩ := q; rw [h] at q; cases q
theorem pimp0 {α β : Type} {F G : α → β → Prop} (f : ∀ a b, F a b → G a b) : ∀ {xs : List α} {ys : List β}, Paired F xs ys → Paired G xs ys
  | _, _, .nil => .nil
  | _, _, .cons h t => .cons (f _ _ h) (pimp0 f t)
theorem pimp {α β : Type} {F G : α → β → Prop} {xs : List α} {ys : List β} (r : Paired F xs ys) (f : ∀ a b, F a b → G a b) : Paired G xs ys := pimp0 f r
theorem RO.ext (x : Ext ρ ρ' H H') {a : Addr} {o : Ob} (he : H' a = H a) (h : RO P w K mg ρ H a o) : RO P w K mg ρ' H' a o := by
  cases o with
  | lst xs => obtain ⟨vs, q, r⟩ := h; exact ⟨vs, he.trans q, RDs.ext x _ _ r⟩
  | dict xs => obtain ⟨vs, q, r⟩ := h; exact ⟨vs, he.trans q, pimp (r := r) fun p u ⟨h1, h2, h3, h4⟩ => ⟨h1, h2, RD.ext x _ _ h3, RD.ext x _ _ h4⟩⟩
  | fdict xs => obtain ⟨vs, od, q, r⟩ := h; exact ⟨vs, od, he.trans q, pimp (r := r) fun p u ⟨h1, h2, h3, h4⟩ => ⟨h1, h2, RD.ext x _ _ h3, RD.ext x _ _ h4⟩⟩
  | dks xs => obtain ⟨vs, q, r⟩ := h; exact ⟨vs, he.trans q, pimp (r := r) fun p u ⟨h1, h3⟩ => ⟨h1, RD.ext x _ _ h3⟩⟩
  | ins c xs => obtain ⟨c', dx, vs, m, q, r⟩ := h; exact ⟨c', dx, vs, m, he.trans q, pimp (r := r) fun p u ⟨h1, h3⟩ => ⟨h1, RD.ext x _ _ h3⟩⟩
/-- a new thing at a new address, not one of ours -/
theorem Ext.laid {p : Addr} {o : HO} (hp : H p = none) : Ext ρ ρ H (upd H p o) :=
  ⟨⟨[], by simp, by simp⟩, fun a u _ e => by rw [upd_ne (ne_of_none e hp)]; exact e, fun a u e => ⟨u, by rw [upd_ne (ne_of_none e hp)]; exact e⟩, fun a o u e => by rw [upd_ne (ne_of_none e hp)]; exact e⟩
theorem RS.laid (r : RS P w K mg ρ σ H) {p : Addr} {o : HO} (hp : H p = none) : RS P w K mg ρ σ (upd H p o) :=
  ⟨r.len, r.nd, fun n a u h1 h2 => RO.ext (Ext.laid hp) (upd_ne (fun e => r.free hp (e ▸ List.mem_of_getElem? h1))) (r.at_ n a u h1 h2)⟩
/-- a new object of ours -/
theorem Ext.new {p : Addr} {o : HO} (hp : H p = none) : Ext ρ (ρ ++ [p]) H (upd H p o) :=
  ⟨⟨[p], rfl, by simpa using hp⟩, fun a u _ e => by rw [upd_ne (ne_of_none e hp)]; exact e, fun a u e => ⟨u, by rw [upd_ne (ne_of_none e hp)]; exact e⟩, fun a o u e => by rw [upd_ne (ne_of_none e hp)]; exact e⟩
theorem RS.new (r : RS P w K mg ρ σ H) {p : Addr} {o : HO} {ob : Ob} (hp : H p = none) (h : RO P w K mg (ρ ++ [p]) (upd H p o) p ob) : RS P w K mg (ρ ++ [p]) (σ ++ [ob]) (upd H p o) := by
  refine ⟨by simp [r.len], List.nodup_append.mpr ⟨r.nd, by simp, fun a ha b hb => ?_⟩, fun n a u h1 h2 => ?_⟩
  · have e : b = p := by simpa using hb
    subst e
    exact fun e => r.free hp (e ▸ ha)
  · by_cases hn : n < ρ.length
    · rw [List.getElem?_append_left hn] at h1
      rw [List.getElem?_append_left (by rw [← r.len]; exact hn)] at h2
      exact RO.ext (Ext.new hp) (upd_ne (fun e => r.free hp (e ▸ List.mem_of_getElem? h1))) (r.at_ n a u h1 h2)
    · rw [List.getElem?_append_right (by omega)] at h1
      rw [List.getElem?_append_right (by rw [← r.len]; omega), ← r.len] at h2
      have e : n - ρ.length = 0 := by
        have := (List.getElem?_eq_some_iff.mp h1).1
        simp at this; omega
      rw [e] at h1 h2
      simp at h1 h2
      subst h1 h2
      exact h
/-- what stands there is not locked -/
def Nfz (H : Hp) (a : Addr) : Prop := ∀ o u, H a ≠ some (.frz o u)
theorem nfL {H : Hp} {a : Addr} {vs : List V} (h : H a = some (.lst vs)) : Nfz H a := fun o u z => by rw [h] at z; cases z
theorem nfE {H : Hp} {a : Addr} {φ : Heap → Prop} (h : H a = some (.ext φ)) : Nfz H a := fun o u z => by rw [h] at z; cases z
theorem nfI {H : Hp} {a : Addr} {c dx : Addr} {fs : List (Str × V)} (h : H a = some (.ins c dx fs)) : Nfz H a := fun o u z => by rw [h] at z; cases z
theorem nfK {H : Hp} {a : Addr} {kvs : List (Key × V)} (h : H a = some (.dK kvs)) : Nfz H a := fun o u z => by rw [h] at z; cases z
/-- an object of ours is written -/
theorem Ext.put {a : Addr} {o : HO} (ha : a ∈ ρ) (nf : Nfz H a := by first | exact nfL (by assumption) | exact nfE (by assumption) | exact nfI (by assumption) | exact nfK (by assumption) | assumption) : Ext ρ ρ H (upd H a o) :=
  ⟨⟨[], by simp, by simp⟩, fun b u hb e => by rw [upd_ne (fun z => hb (by rw [z]; exact ha))]; exact e, fun b u e => by
    by_cases z : b = a
    · exact ⟨o, by rw [z, upd_same]⟩
    · exact ⟨u, by rw [upd_ne z]; exact e⟩, fun b o u e => by rw [upd_ne (fun z => nf o u (by rw [← z]; exact e))]; exact e⟩
theorem RS.put (r : RS P w K mg ρ σ H) {n : Nat} {a : Addr} {o : HO} {ob : Ob} (ha : ρ[n]? = some a) (h : RO P w K mg ρ (upd H a o) a ob) (nf : Nfz H a := by first | exact nfL (by assumption) | exact nfE (by assumption) | exact nfI (by assumption) | exact nfK (by assumption) | assumption) : RS P w K mg ρ (σ.set n ob) (upd H a o) := by
  refine ⟨by simp [r.len], r.nd, fun m b u h1 h2 => ?_⟩
  by_cases e : n = m
  · subst e
    rw [ha] at h1; cases h1
    have hl : n < σ.length := by rw [← r.len]; exact (List.getElem?_eq_some_iff.mp ha).1
    rw [List.getElem?_set_self hl] at h2
    cases h2
    exact h
  · rw [List.getElem?_set_ne e] at h2
    have hb : b ≠ a := fun z => by
      subst z
      obtain ⟨l1, e1⟩ := List.getElem?_eq_some_iff.mp h1
      obtain ⟨l2, e2⟩ := List.getElem?_eq_some_iff.mp ha
      exact e ((List.getElem_inj r.nd).mp (e2.trans e1.symm))
    exact RO.ext (Ext.put (List.mem_of_getElem? ha)) (upd_ne hb) (r.at_ m b u h1 h2)
end

/-! ### the judgements -/
/-- the exception c is of the class cls, its own dict at d -/
def ExcIs (K : PySem.W.Frag) (mg : Str → Option Value) (ρ : List Addr) (H : Hp) (c : Exc) (cls : Value) (d : Option Addr) : Prop :=
  mg c.cls = some cls ∧ match c.fld with
    | none => d = none
    | some (f, x) => ∃ dx v, d = some dx ∧ H dx = some (.xd [(f, v)]) ∧ RD K ρ H x v
structure SR (X : Cx) (pins : List (Addr × Obj)) (ρ : List Addr) (e : En) (σ : Hs) (τ : L2.St) (H : Hp) (s : Shared) : Prop where
  inv : Inv X pins τ H s
  rs : RS X.prog X.w X.K X.mg ρ σ H
  re : RE X.K ρ H e τ
section
variable (X : Cx) (ρ : List Addr) (H : Hp)
def WD {α : Type} (τ : L2.St) (r : R α) : WX := fun cls d τ' H' => ∃ c σ' ρ', r = .exc c σ' ∧ τ' = τ ∧ Ext ρ ρ' H H' ∧ RS X.prog X.w X.K X.mg ρ' σ' H' ∧ ExcIs X.K X.mg ρ' H' c cls d
/-- the end is known, and its exception is wanted -/
structure Safe {α : Type} (τ : L2.St) (r : R α) : Prop where
  nb : r ≠ .bad
  tk : Takes X (WD X ρ H τ r)
def GD (r : R D) : VK := fun v H' => ∃ d σ' ρ', r = .ok d σ' ∧ Ext ρ ρ' H H' ∧ RS X.prog X.w X.K X.mg ρ' σ' H' ∧ RD X.K ρ' H' d v
def GB (r : R Bool) : Bool → Hp → Prop := fun b H' => ∃ σ' ρ', r = .ok b σ' ∧ Ext ρ ρ' H H' ∧ RS X.prog X.w X.K X.mg ρ' σ' H'
def GA (r : R (List D)) : List V → Hp → Prop := fun vs H' => ∃ ds σ' ρ', r = .ok ds σ' ∧ Ext ρ ρ' H H' ∧ RS X.prog X.w X.K X.mg ρ' σ' H' ∧ RDs X.K ρ' H' ds vs
def WF (r : Fl) : WX := fun cls d τ' H' => ∃ c e' σ' ρ', r = .exc c e' σ' ∧ Ext ρ ρ' H H' ∧ RS X.prog X.w X.K X.mg ρ' σ' H' ∧ RE X.K ρ' H' e' τ' ∧ ExcIs X.K X.mg ρ' H' c cls d
structure SafeF (r : Fl) : Prop where
  nb : r ≠ .bad
  tk : Takes X (WF X ρ H r)
def EF (r : Fl) : Ends where
  nx := fun τ' H' => ∃ e' σ' ρ', r = .nx e' σ' ∧ Ext ρ ρ' H H' ∧ RS X.prog X.w X.K X.mg ρ' σ' H' ∧ RE X.K ρ' H' e' τ'
  rt := fun v H' => ∃ d σ' ρ', r = .rt d σ' ∧ Ext ρ ρ' H H' ∧ RS X.prog X.w X.K X.mg ρ' σ' H' ∧ RD X.K ρ' H' d v
  bk := fun τ' H' => ∃ e' σ' ρ', r = .bk e' σ' ∧ Ext ρ ρ' H H' ∧ RS X.prog X.w X.K X.mg ρ' σ' H' ∧ RE X.K ρ' H' e' τ'
  ct := fun τ' H' => ∃ e' σ' ρ', r = .ct e' σ' ∧ Ext ρ ρ' H H' ∧ RS X.prog X.w X.K X.mg ρ' σ' H' ∧ RE X.K ρ' H' e' τ'
end
structure DE (X : Cx) (x : Expr) (E : Ev) : Prop where
  run : ∀ {pins s τ H ρ e σ}, SR X pins ρ e σ τ H s → Safe X ρ H τ (E e σ) → wpAny (model X.prog X.w) X.A (eval x X.env) (EP X pins τ (GD X ρ H (E e σ))) X.xe s
structure DT (X : Cx) (x : Expr) (E : Ts) : Prop where
  run : ∀ {pins s τ H ρ e σ}, SR X pins ρ e σ τ H s → Safe X ρ H τ (E e σ) → wpAny (model X.prog X.w) X.A (isTrue x X.env (eval x X.env)) (TP X pins τ (GB X ρ H (E e σ))) X.xe s
/-- whatever the whole is -/
structure DW (X : Cx) (x : Expr) (E : Ts) : Prop where
  run : ∀ (wh : Sem Value) {pins s τ H ρ e σ}, SR X pins ρ e σ τ H s → Safe X ρ H τ (E e σ) → wpAny (model X.prog X.w) X.A (isTrue x X.env wh) (TP X pins τ (GB X ρ H (E e σ))) X.xe s
theorem DW.dt {X : Cx} {x : Expr} {E : Ts} (h : DW X x E) : DT X x E := ⟨h.run _⟩
structure DA (X : Cx) (es : List Expr) (E : Es) : Prop where
  run : ∀ (pos : Pos) {pins s τ H ρ e σ}, SR X pins ρ e σ τ H s → Safe X ρ H τ (E e σ) → wpAny (model X.prog X.w) X.A (spliced (backTo pos (starEach es X.env))) (AP X pins τ (GA X ρ H (E e σ))) X.xe s
structure DS (X : Cx) (st : Stmt) (S : Sv) : Prop where
  run : ∀ {pins s τ H ρ e σ}, SR X pins ρ e σ τ H s → SafeF X ρ H (S e σ) → wpAny (model X.prog X.w) X.A (exec st X.env) (SP X pins (EF X ρ H (S e σ))) X.xe s
structure DSs (X : Cx) (st : List Stmt) (S : Sv) : Prop where
  run : ∀ {pins s τ H ρ e σ}, SR X pins ρ e σ τ H s → SafeF X ρ H (S e σ) → wpAny (model X.prog X.w) X.A (execs st X.env) (SP X pins (EF X ρ H (S e σ))) X.xe s

section
variable {X : Cx} {pins : List (Addr × Obj)} {ρ ρ1 : List Addr} {e : En} {σ σ1 : Hs} {τ : L2.St} {H H1 : Hp} {s s1 : Shared}
theorem SR.next (I : SR X pins ρ e σ τ H s) (i : Inv X pins τ H1 s1) (x : Ext ρ ρ1 H H1) (r : RS X.prog X.w X.K X.mg ρ1 σ1 H1) : SR X pins ρ1 e σ1 τ H1 s1 := ⟨i, r, I.re.ext x⟩
theorem Safe.left {α β : Type} {r : R α} {f : α → Hs → R β} (h : Safe X ρ H τ (r.bind f)) : Safe X ρ H τ r := by
  refine ⟨fun z => h.nb (by rw [z]; rfl), h.tk.imp fun c d τ' H' ⟨x, σ', ρ', e1, q⟩ => ⟨x, σ', ρ', by rw [e1]; rfl, q⟩⟩
theorem Safe.right {α β : Type} {r : R α} {f : α → Hs → R β} (h : Safe X ρ H τ (r.bind f)) {a : α} (er : r = .ok a σ1) (x : Ext ρ ρ1 H H1) : Safe X ρ1 H1 τ (f a σ1) := by
  rw [er] at h
  exact ⟨h.nb, h.tk.imp fun c d τ' H' ⟨y, σ', ρ', e1, e2, x', q⟩ => ⟨y, σ', ρ', e1, e2, x.trans x', q⟩⟩
theorem GD.right {α : Type} {r : R α} {f : α → Hs → R D} {a : α} (er : r = .ok a σ1) (x : Ext ρ ρ1 H H1) {v H'} (h : GD X ρ1 H1 (f a σ1) v H') : GD X ρ H (r.bind f) v H' := by
  obtain ⟨d, σ', ρ', e1, x', q⟩ := h
  exact ⟨d, σ', ρ', by rw [er]; exact e1, x.trans x', q⟩
theorem GB.right {α : Type} {r : R α} {f : α → Hs → R Bool} {a : α} (er : r = .ok a σ1) (x : Ext ρ ρ1 H H1) {v H'} (h : GB X ρ1 H1 (f a σ1) v H') : GB X ρ H (r.bind f) v H' := by
  obtain ⟨σ', ρ', e1, x', q⟩ := h
  exact ⟨σ', ρ', by rw [er]; exact e1, x.trans x', q⟩
theorem GA.right {α : Type} {r : R α} {f : α → Hs → R (List D)} {a : α} (er : r = .ok a σ1) (x : Ext ρ ρ1 H H1) {v H'} (h : GA X ρ1 H1 (f a σ1) v H') : GA X ρ H (r.bind f) v H' := by
  obtain ⟨d, σ', ρ', e1, x', q⟩ := h
  exact ⟨d, σ', ρ', by rw [er]; exact e1, x.trans x', q⟩
theorem epi {Q Q' : VK} {u : Value} (h : EP X pins τ Q u s) (f : ∀ v H', Q v H' → Q' v H') : EP X pins τ Q' u s := by
  obtain ⟨v, H', a, b, c⟩ := h
  exact ⟨v, H', a, b, f _ _ c⟩
theorem tpi {Q Q' : Bool → Hp → Prop} {u : Bool} (h : TP X pins τ Q u s) (f : ∀ v H', Q v H' → Q' v H') : TP X pins τ Q' u s := by
  obtain ⟨H', a, c⟩ := h
  exact ⟨H', a, f _ _ c⟩
theorem api {Q Q' : List V → Hp → Prop} {u : List Value} (h : AP X pins τ Q u s) (f : ∀ v H', Q v H' → Q' v H') : AP X pins τ Q' u s := by
  obtain ⟨v, H', a, b, c⟩ := h
  exact ⟨v, H', a, b, f _ _ c⟩
/-- first x, then the rest: for a value -/
theorem DE.thenD {x : Expr} {A : Ev} (hx : DE X x A) {α : Type} {F : D → Hs → R α} {f : Value → Shared → Prop} (I : SR X pins ρ e σ τ H s) (h : Safe X ρ H τ ((A e σ).bind F))
    (k : ∀ d σ1 ρ1 v u H1 s1, A e σ = .ok d σ1 → SR X pins ρ1 e σ1 τ H1 s1 → Ext ρ ρ1 H H1 → RD X.K ρ1 H1 d v → RelV v u → Safe X ρ1 H1 τ (F d σ1) → f u s1) :
    wpAny (model X.prog X.w) X.A (eval x X.env) f X.xe s := by
  refine thn (hx.run I h.left) fun u s1 ⟨v, H1, i, rv, d, σ1, ρ1, e1, x1, rs, rd⟩ => ?_
  exact k d σ1 ρ1 v u H1 s1 e1 (I.next i x1 rs) x1 rd rv (h.right e1 x1)
theorem DT.thenT {x : Expr} {A : Ts} (hx : DT X x A) {α : Type} {F : Bool → Hs → R α} {f : Bool → Shared → Prop} (I : SR X pins ρ e σ τ H s) (h : Safe X ρ H τ ((A e σ).bind F))
    (k : ∀ d σ1 ρ1 H1 s1, A e σ = .ok d σ1 → SR X pins ρ1 e σ1 τ H1 s1 → Ext ρ ρ1 H H1 → Safe X ρ1 H1 τ (F d σ1) → f d s1) :
    wpAny (model X.prog X.w) X.A (isTrue x X.env (eval x X.env)) f X.xe s := by
  refine thn (hx.run I h.left) fun u s1 ⟨H1, i, σ1, ρ1, e1, x1, rs⟩ => ?_
  exact k u σ1 ρ1 H1 s1 e1 (I.next i x1 rs) x1 (h.right e1 x1)
theorem DA.thenA {x : List Expr} {A : Es} (hx : DA X x A) (pos : Pos) {α : Type} {F : List D → Hs → R α} {f : List Value → Shared → Prop} (I : SR X pins ρ e σ τ H s) (h : Safe X ρ H τ ((A e σ).bind F))
    (k : ∀ d σ1 ρ1 v u H1 s1, A e σ = .ok d σ1 → SR X pins ρ1 e σ1 τ H1 s1 → Ext ρ ρ1 H H1 → RDs X.K ρ1 H1 d v → Vals v u → Safe X ρ1 H1 τ (F d σ1) → f u s1) :
    wpAny (model X.prog X.w) X.A (spliced (backTo pos (starEach x X.env))) f X.xe s := by
  refine thn (hx.run pos I h.left) fun u s1 ⟨v, H1, i, rv, d, σ1, ρ1, e1, x1, rs, rd⟩ => ?_
  exact k d σ1 ρ1 v u H1 s1 e1 (I.next i x1 rs) x1 rd rv (h.right e1 x1)
end

/-! ### operations by values -/
/-- f of two values -/
def Op2 (X : Cx) (f : Value → Value → Sem Value) (F : D → D → Hs → R D) : Prop :=
  ∀ {pins s τ H ρ e σ x y vx vy ux uy}, SR X pins ρ e σ τ H s → RD X.K ρ H x vx → RelV vx ux → RD X.K ρ H y vy → RelV vy uy → Safe X ρ H τ (F x y σ) →
    wpAny (model X.prog X.w) X.A (f ux uy) (EP X pins τ (GD X ρ H (F x y σ))) X.xe s
def Op1 (X : Cx) (f : Value → Sem Value) (F : D → Hs → R D) : Prop :=
  ∀ {pins s τ H ρ e σ x vx ux}, SR X pins ρ e σ τ H s → RD X.K ρ H x vx → RelV vx ux → Safe X ρ H τ (F x σ) →
    wpAny (model X.prog X.w) X.A (f ux) (EP X pins τ (GD X ρ H (F x σ))) X.xe s
def OpN (X : Cx) (f : Value) (F : List D → Hs → R D) : Prop :=
  ∀ {pins s τ H ρ e σ xs vs us}, SR X pins ρ e σ τ H s → RDs X.K ρ H xs vs → Vals vs us → Safe X ρ H τ (F xs σ) →
    wpAny (model X.prog X.w) X.A (call f us) (EP X pins τ (GD X ρ H (F xs σ))) X.xe s

/-! ### expressions: names, constants, operators -/
def eVar (i : Nat) : Ev := fun e h => match e[i]? with
  | some (some d) => .ok d h
  | _ => .bad
def eC (d : D) : Ev := fun _ h => .ok d h
def e2 (F : D → D → Hs → R D) (A B : Ev) : Ev := fun e h => (A e h).bind fun x h1 => (B e h1).bind fun y h2 => F x y h2
def e1 (F : D → Hs → R D) (A : Ev) : Ev := fun e h => (A e h).bind fun x h1 => F x h1
section
variable {X : Cx} {pos : Pos} {a b : Expr} {A B : Ev}
theorem de_var {i : Nat} {x : Str} (hN : X.N[i]? = some x) (hv : Vis X.env.scope x) (hd : (x == ("__debug__" : Str)) = false := by decide) (hcd : (x == ("__classdict__" : Str)) = false := by decide) : DE X (.Name x pos) (eVar i) := by
  refine ⟨fun {pins s τ H ρ e σ} I h => ?_⟩
  cases q : e[i]? with
  | none => exact absurd (by simp [eVar, q]) h.nb
  | some o =>
    cases o with
    | none => exact absurd (by simp [eVar, q]) h.nb
    | some d =>
      obtain ⟨v, hv', rd⟩ := I.re.2 i d q
      exact (pe_var hN hv hd hcd).run pins s τ H _ I.inv ⟨v, hv', d, σ, ρ, by simp [eVar, q], Ext.refl, I.rs, rd⟩
theorem de_of {x : Expr} {v : V} {d : D} (h : PE X x (tC v)) (r : ∀ ρ H, RD X.K ρ H d v) : DE X x (eC d) :=
  ⟨fun {pins s τ H ρ e σ} I _ => h.run pins s τ H _ I.inv ⟨d, σ, ρ, rfl, Ext.refl, I.rs, r ρ H⟩⟩
theorem de_int {i j} : DE X (.Constant (.int i) j pos) (eC (.int i)) := de_of pe_int fun _ _ => rfl
theorem de_bl {i j} : DE X (.Constant (.bool i) j pos) (eC (.bl i)) := de_of pe_bl fun _ _ => rfl
theorem de_non {j} : DE X (.Constant .none j pos) (eC .non) := de_of pe_non fun _ _ => rfl
theorem de_str {i j} : DE X (.Constant (.str i) j pos) (eC (.str i)) := de_of pe_str fun _ _ => rfl
theorem op2 {f : Value → Value → Sem Value} {F : D → D → Hs → R D} (ho : Op2 X f F) (ha : DE X a A) (hb : DE X b B) {pins s τ H ρ e σ} (I : SR X pins ρ e σ τ H s) (h : Safe X ρ H τ (e2 F A B e σ)) :
    wpAny (model X.prog X.w) X.A (eval a X.env) (fun v s₁ => wpAny (model X.prog X.w) X.A (eval b X.env) (fun u s₂ => wpAny (model X.prog X.w) X.A (f v u) (EP X pins τ (GD X ρ H (e2 F A B e σ))) X.xe s₂) X.xe s₁) X.xe s := by
  refine ha.thenD I h fun x σ1 ρ1 v u H1 s1 q1 I1 x1 rd1 rv1 h1 => ?_
  refine hb.thenD I1 h1 fun y σ2 ρ2 v' u' H2 s2 q2 I2 x2 rd2 rv2 h2 => ?_
  refine thn (ho I2 (RD.ext x2 _ _ rd1) rv1 rd2 rv2 h2) fun z s3 g => epi g fun v H' gd => ?_
  exact GD.right (f := fun x h1 => (B e h1).bind fun y h2 => F x y h2) q1 x1 (GD.right (f := fun y h2 => F x y h2) q2 x2 gd)
theorem de_bin {op : Operator} {F : D → D → Hs → R D} (ho : Op2 X (binaryOp op) F) (ha : DE X a A) (hb : DE X b B) : DE X (.BinOp a op b pos) (e2 F A B) :=
  ⟨fun I h => wpAny_BinOp (op2 ho ha hb I h)⟩
theorem de_cmp {op : CmpOp} {F : D → D → Hs → R D} (ho : Op2 X (compareOp op) F) (ha : DE X a A) (hb : DE X b B) (hm : behindInMarks op b = false) : DE X (.Compare a [op] [b] pos) (e2 F A B) :=
  ⟨fun I h => wpAny_Compare1 (op2 ho ha hb I h) hm⟩
theorem de_un {op : UnaryOp} {F : D → Hs → R D} (ho : Op1 X (unaryOp op) F) (ha : DE X a A) : DE X (.UnaryOp op a pos) (e1 F A) := by
  refine ⟨fun {pins s τ H ρ e σ} I h => UnaryOp_ ?_⟩
  refine ha.thenD I h fun x σ1 ρ1 v u H1 s1 q1 I1 x1 rd1 rv1 h1 => ?_
  exact thn (ho I1 rd1 rv1 h1) fun z s3 g => epi g fun v H' gd => GD.right (f := fun x h1 => F x h1) q1 x1 gd
end
end Lb

set_option Elab.async false
set_option linter.all false
set_option maxRecDepth 100000
set_option maxHeartbeats 4000000
namespace Lb
open PySem PySem.Spec PyProof.Rows L2

/-- what every context of ours bears -/
structure Good (X : Cx) : Prop where
  calm : X.calm = true
  nd : X.N.Nodup
  un : X.A.units + 200 < cLine
  own : PassesOwn (model X.prog X.w) X.A X.env X.xe

/-! ### as data -/
mutual
def D.data : D → PyData
  | .non => .none
  | .bl b => .bool b
  | .int i => .int i
  | .str x => .str x
  | .tup xs => .tuple (D.datas xs)
  | .lst xs => .list (D.datas xs)
  | .ref _ => .none
  | .scr _ => .none
def D.datas : List D → List PyData
  | [] => []
  | x :: xs => D.data x :: D.datas xs
end
theorem datas_map : ∀ xs : List D, D.datas xs = xs.map D.data
  | [] => rfl
  | x :: xs => by rw [D.datas, datas_map xs]; rfl
/-- nested at most so deep, no object that changes within -/
def D.fit : Nat → D → Bool
  | _, .non => true
  | _, .bl _ => true
  | _, .int _ => true
  | _, .str x => PyData.strOk x
  | n + 1, .tup xs => xs.all (D.fit n)
  | n + 1, .lst xs => xs.all (D.fit n)
  | _, _ => false
theorem fits_spec {n : Nat} (f : ∀ d : D, d.fit n = true → PyData.canLay0 d.data = true ∧ d.data.depth ≤ n) : ∀ xs : List D, xs.all (D.fit n) = true → PyData.canLayAll0 (D.datas xs) = true ∧ PyData.depthAll (D.datas xs) ≤ n
  | [], _ => ⟨by simp [D.datas, PyData.canLayAll0], by simp [D.datas, PyData.depthAll]⟩
  | x :: xs, h => by
    simp only [List.all_cons, Bool.and_eq_true] at h
    obtain ⟨a1, a2⟩ := f x h.1
    obtain ⟨b1, b2⟩ := fits_spec f xs h.2
    exact ⟨by simp [D.datas, PyData.canLayAll0, a1, b1], by simp only [D.datas, PyData.depthAll]; omega⟩
theorem fit_spec : ∀ (n : Nat) (d : D), d.fit n = true → PyData.canLay0 d.data = true ∧ d.data.depth ≤ n
  | n, .non, _ => ⟨by simp [D.data, PyData.canLay0], by simp [D.data, PyData.depth]⟩
  | n, .bl _, _ => ⟨by simp [D.data, PyData.canLay0], by simp [D.data, PyData.depth]⟩
  | n, .int _, _ => ⟨by simp [D.data, PyData.canLay0], by simp [D.data, PyData.depth]⟩
  | n, .str x, h => ⟨by simpa [D.data, PyData.canLay0, D.fit] using h, by simp [D.data, PyData.depth]⟩
  | 0, .tup xs, h => by simp [D.fit] at h
  | 0, .lst xs, h => by simp [D.fit] at h
  | n, .ref _, h => by cases n <;> simp [D.fit] at h
  | n, .scr _, h => by cases n <;> simp [D.fit] at h
  | n + 1, .tup xs, h => by
    have q := fits_spec (fit_spec n) xs (by simpa [D.fit] using h)
    exact ⟨by simp [D.data, PyData.canLay0, q.1], by simp only [D.data, PyData.depth]; omega⟩
  | n + 1, .lst xs, h => by
    have q := fits_spec (fit_spec n) xs (by simpa [D.fit] using h)
    exact ⟨by simp [D.data, PyData.canLay0, q.1], by simp only [D.data, PyData.depth]; omega⟩
section
variable {P : Program} {w : World} {K : PySem.W.Frag} {mg : Str → Option Value} {ρ : List Addr} {H : Hp} {σ : Hs}
theorem dps_of0 {n : Nat} (f : ∀ (d : D) (v : V), d.fit n = true → RD K ρ H d v → Dp K H v d.data) : ∀ (xs : List D) (vs : List V), xs.all (D.fit n) = true → RDs K ρ H xs vs → DpAll K H vs (D.datas xs)
  | [], _, _, r => by cases r; rw [D.datas]; exact .nil
  | x :: xs, _, h, ⟨v, r', e, r1, r2⟩ => by
    subst e
    simp only [List.all_cons, Bool.and_eq_true] at h
    rw [D.datas]
    exact .cons (f x v h.1 r1) (dps_of0 f xs r' h.2 r2)
theorem dp_of : ∀ (n : Nat) (d : D) (v : V), d.fit n = true → RD K ρ H d v → Dp K H v d.data
  | n, .non, _, _, r => by cases r; rw [D.data]; exact .non
  | n, .bl _, _, _, r => by cases r; rw [D.data]; exact .bl _
  | n, .int _, _, _, r => by cases r; rw [D.data]; exact .int _
  | n, .str x, _, h, r => by cases r; rw [D.data]; exact .str _
  | 0, .tup xs, _, h, _ => by simp [D.fit] at h
  | 0, .lst xs, _, h, _ => by simp [D.fit] at h
  | n, .ref _, _, h, _ => by cases n <;> simp [D.fit] at h
  | n, .scr _, _, h, _ => by cases n <;> simp [D.fit] at h
  | n + 1, .tup xs, _, h, ⟨a, vs, e, t, r⟩ => by
    subst e
    rw [D.data]
    exact .tup t.seq (dps_of0 (dp_of n) xs vs (by simpa [D.fit] using h) r)
  | n + 1, .lst xs, _, h, ⟨a, vs, e, t, r⟩ => by
    subst e
    rw [D.data]
    exact .lst (SqL.of t.1) (dps_of0 (dp_of n) xs vs (by simpa [D.fit] using h) r)
theorem dps_of (n : Nat) (xs : List D) (vs : List V) (h : xs.all (D.fit n) = true) (r : RDs K ρ H xs vs) : DpAll K H vs (D.datas xs) := dps_of0 (dp_of n) xs vs h r
end

/-! ### lists and tuples -/
def listOf (h : Hs) : D → Option (List D)
  | .lst xs => some xs
  | .scr ns => some (ns.map .int)
  | .ref n => match h[n]? with
    | some (.lst xs) => some xs
    | _ => none
  | _ => none
def seqOf (h : Hs) : D → Option (List D)
  | .tup xs => some xs
  | .lst xs => some xs
  | .scr ns => some (ns.map .int)
  | .ref n => match h[n]? with
    | some (.lst xs) => some xs
    | _ => none
  | _ => none
/-- a list of ours read as it stands -/
def viewD (h : Hs) : D → D
  | .ref n => match h[n]? with
    | some (.lst xs) => .lst xs
    | _ => .ref n
  | d => d
section
variable {P : Program} {w : World} {K : PySem.W.Frag} {mg : Str → Option Value} {ρ : List Addr} {H : Hp} {σ : Hs}
theorem RS.lst (r : RS P w K mg ρ σ H) {n : Nat} {v : V} {xs : List D} (h : RD K ρ H (.ref n) v) (e : σ[n]? = some (.lst xs)) : ∃ a vs, v = .ref a ∧ ρ[n]? = some a ∧ H a = some (.lst vs) ∧ RDs K ρ H xs vs := by
  obtain ⟨a, rfl, ha⟩ := h
  obtain ⟨vs, q, rd⟩ := r.at_ n a _ ha e
  exact ⟨a, vs, rfl, ha, q, rd⟩
theorem rds_ints {ρ : List Addr} {K : PySem.W.Frag} {H : Hp} : ∀ ns : List Int, RDs K ρ H (ns.map D.int) (ns.map V.int)
  | [] => rfl
  | n :: ns => ⟨_, _, rfl, rfl, rds_ints ns⟩
theorem list_at (r : RS P w K mg ρ σ H) {d : D} {v : V} {xs : List D} (h : RD K ρ H d v) (e : listOf σ d = some xs) : ∃ a vs, v = .ref a ∧ SqL K H a vs ∧ RDs K ρ H xs vs := by
  cases d with
  | lst ys =>
    obtain ⟨a, vs, e1, t, rd⟩ := h
    have e' : ys = xs := by simpa [listOf] using e
    subst e'
    exact ⟨a, vs, e1, SqL.of t.1, rd⟩
  | scr ns =>
    obtain ⟨a, e1, t⟩ := h
    have e' : ns.map D.int = xs := by simpa [listOf] using e
    subst e'
    exact ⟨a, _, e1, t.seq, rds_ints ns⟩
  | ref n =>
    cases q : σ[n]? with
    | none => simp [listOf, q] at e
    | some o =>
      cases o with
      | lst ys =>
        have e' : ys = xs := by simpa [listOf, q] using e
        subst e'
        obtain ⟨a, vs, e1, _, t, rd⟩ := r.lst h q
        exact ⟨a, vs, e1, SqL.of t, rd⟩
      | _ => simp [listOf, q] at e
  | _ => simp [listOf] at e
theorem seq_at (r : RS P w K mg ρ σ H) {d : D} {v : V} {xs : List D} (h : RD K ρ H d v) (e : seqOf σ d = some xs) : ∃ a vs, v = .ref a ∧ (SqL K H a vs ∨ SqT K H a vs) ∧ RDs K ρ H xs vs := by
  cases d with
  | tup ys =>
    obtain ⟨a, vs, e1, t, rd⟩ := h
    have e' : ys = xs := by simpa [seqOf] using e
    subst e'
    exact ⟨a, vs, e1, .inr t.seq, rd⟩
  | lst ys =>
    obtain ⟨a, vs, e1, t, rd⟩ := h
    have e' : ys = xs := by simpa [seqOf] using e
    subst e'
    exact ⟨a, vs, e1, .inl (SqL.of t.1), rd⟩
  | scr ns =>
    have e' : listOf σ (.scr ns) = some xs := by simpa [seqOf, listOf] using e
    obtain ⟨a, vs, e1, t, rd⟩ := list_at r h e'
    exact ⟨a, vs, e1, .inl t, rd⟩
  | ref n =>
    have e' : listOf σ (.ref n) = some xs := by simpa [seqOf, listOf] using e
    obtain ⟨a, vs, e1, t, rd⟩ := list_at r h e'
    exact ⟨a, vs, e1, .inl t, rd⟩
  | _ => simp [seqOf] at e
theorem view_dp (r : RS P w K mg ρ σ H) {d : D} {v : V} {n : Nat} (h : RD K ρ H d v) (f : (viewD σ d).fit n = true) : Dp K H v (viewD σ d).data := by
  cases d with
  | ref k =>
    cases q : σ[k]? with
    | none => simp [viewD, q] at f; cases n <;> simp [D.fit] at f
    | some o =>
      cases o with
      | lst ys =>
        obtain ⟨a, vs, e1, _, t, rd⟩ := r.lst h q
        subst e1
        have ev : viewD σ (.ref k) = .lst ys := by simp [viewD, q]
        rw [ev] at f ⊢
        cases n with
        | zero => simp [D.fit] at f
        | succ n =>
          rw [D.data]
          exact .lst (SqL.of t) (dps_of n ys vs (by simpa [D.fit] using f) rd)
      | _ => simp [viewD, q] at f; cases n <;> simp [D.fit] at f
  | _ => exact dp_of n _ v f h
end
section
variable {X : Cx} {pins : List (Addr × Obj)} {ρ : List Addr} {e : En} {σ : Hs} {τ : L2.St} {H : Hp} {s : Shared}
theorem gd_ok (I : SR X pins ρ e σ τ H s) {d : D} {v : V} (r : RD X.K ρ H d v) : GD X ρ H (.ok d σ) v H := ⟨d, σ, ρ, rfl, Ext.refl, I.rs, r⟩
theorem gd_tup (I : SR X pins ρ e σ τ H s) {ds : List D} {vs : List V} {p : Addr} (hp : H p = none) (r : RDs X.K ρ H ds vs) : GD X ρ H (.ok (.tup ds) σ) (.ref p) (upd H p (.tup vs)) :=
  ⟨_, σ, ρ, rfl, Ext.laid hp, I.rs.laid hp, p, vs, rfl, .inl ⟨.inl upd_same, I.rs.free hp⟩, RDs.ext (Ext.laid hp) _ _ r⟩
theorem gd_lst (I : SR X pins ρ e σ τ H s) {ds : List D} {vs : List V} {p : Addr} (hp : H p = none) (r : RDs X.K ρ H ds vs) : GD X ρ H (.ok (.lst ds) σ) (.ref p) (upd H p (.lst vs)) :=
  ⟨_, σ, ρ, rfl, Ext.laid hp, I.rs.laid hp, p, vs, rfl, ⟨upd_same, I.rs.free hp⟩, RDs.ext (Ext.laid hp) _ _ r⟩
end

/-! ### operators -/
def catD (x y : D) (h : Hs) : R D := match listOf h x, listOf h y with
  | some xs, some ys => if xs.length + ys.length ≤ sizeLine then .ok (.lst (xs ++ ys)) h else .bad
  | _, _ => .bad
theorem catD_some {x y : D} {h : Hs} {xs ys : List D} (hx : listOf h x = some xs) (hy : listOf h y = some ys) : catD x y h = if xs.length + ys.length ≤ sizeLine then .ok (.lst (xs ++ ys)) h else .bad := by
  unfold catD; rw [hx, hy]
theorem catD_nb {x y : D} {h : Hs} (e : catD x y h ≠ .bad) : ∃ xs ys, listOf h x = some xs ∧ listOf h y = some ys ∧ xs.length + ys.length ≤ sizeLine ∧ catD x y h = .ok (.lst (xs ++ ys)) h := by
  cases hx : listOf h x with
  | none => exact absurd (by unfold catD; rw [hx]) e
  | some xs =>
    cases hy : listOf h y with
    | none => exact absurd (by unfold catD; rw [hx, hy]) e
    | some ys =>
      rw [catD_some hx hy] at e ⊢
      by_cases q : xs.length + ys.length ≤ sizeLine
      · exact ⟨xs, ys, rfl, rfl, q, if_pos q⟩
      · rw [if_neg q] at e; exact absurd rfl e
def addD (x y : D) (h : Hs) : R D := match x, y with
  | .int i, .int j => .ok (.int (i + j)) h
  | .str a, .str b => if a.length + b.length ≤ sizeLine then .ok (.str (a ++ b)) h else .bad
  | .tup xs, .tup ys => if xs.length + ys.length ≤ sizeLine then .ok (.tup (xs ++ ys)) h else .bad
  | x, y => catD x y h
def subD (x y : D) (h : Hs) : R D := match x, y with
  | .int i, .int j => .ok (.int (i - j)) h
  | .bl i, .bl j => .ok (.int ((if i then 1 else 0) - (if j then 1 else 0))) h
  | _, _ => .bad
def small64b (i : Int) : Bool := decide (-(2 ^ 64) < i) && decide (i < 2 ^ 64)
def mulD (x y : D) (h : Hs) : R D := match x, y with
  | .int i, .int j => if small64b i || small64b j then .ok (.int (i * j)) h else .bad
  | .scr _, _ => .bad
  | x, .int k => match listOf h x with
    | some xs => if decide (-(2 ^ 63) ≤ k) && decide (k < 2 ^ 63) && decide (xs.length * k.toNat ≤ sizeLine) then .ok (.lst (List.replicate k.toNat xs).flatten) h else .bad
    | _ => .bad
  | _, _ => .bad
def modD (x y : D) (h : Hs) : R D := match x, y with
  | .int i, .int j => if 0 < j then .ok (.int (i % j)) h else .bad
  | _, _ => .bad
def divD (x y : D) (h : Hs) : R D := match x, y with
  | .int i, .int j => if 0 < j ∧ j < 1073741824 then .ok (.int (i / j)) h else .bad
  | _, _ => .bad
def powD (x y : D) (h : Hs) : R D := match x, y with
  | .int i, .int j => if 0 ≤ j ∧ j ≤ 1000000 ∧ i.natAbs < 2 ^ 64 then .ok (.int (i ^ j.toNat)) h else .bad
  | _, _ => .bad
def shlD (x y : D) (h : Hs) : R D := match x, y with
  | .int i, .int j => if 0 ≤ j ∧ j ≤ 1000000 ∧ i.natAbs < 2 ^ 64 then .ok (.int (i * 2 ^ j.toNat)) h else .bad
  | _, _ => .bad
def shrD (x y : D) (h : Hs) : R D := match x, y with
  | .int i, .int j => if 0 ≤ j then .ok (.int (i / 2 ^ j.toNat)) h else .bad
  | _, _ => .bad
def andD (x y : D) (h : Hs) : R D := match x, y with
  | .int i, .int j => .ok (.int (Builtin.bitAnd i j)) h
  | _, _ => .bad
def orD (x y : D) (h : Hs) : R D := match x, y with
  | .int i, .int j => .ok (.int (Builtin.bitOr i j)) h
  | _, _ => .bad
def negD (x : D) (h : Hs) : R D := match x with
  | .int i => .ok (.int (-i)) h
  | _ => .bad
/-- a list plus a list, where the first stands as it was made -/
theorem cat_lists {X : Cx} {pins : List (Addr × Obj)} {s : Shared} {τ : L2.St} {H : Hp} {a b : Addr} {xs ys : List V} {Q : VK} (I : Inv X pins τ H s) (ha : SqL X.K H a xs) (hb : SqL X.K H b ys)
    (hz : xs.length + ys.length ≤ sizeLine) (q : ∀ p, H p = none → Q (.ref p) (upd H p (.lst (xs ++ ys)))) : wpAny (model X.prog X.w) X.A (binaryOp .Add (.ref a) (.ref b)) (EP X pins τ Q) X.xe s := by
  obtain ⟨its, r, ⟨⟨cls, dd, data, sl⟩, n, ho, hc, _, hd⟩, z⟩ := I.list ha
  obtain ⟨its2, r2, ⟨⟨cls2, dd2, data2, sl2⟩, n2, ho2, hc2, _, hd2⟩, z2⟩ := I.list hb
  simp only at hc hd hc2 hd2
  subst hc hd hc2 hd2
  have hsz : its.length + its2.length ≤ sizeLine := by rw [← r.length, ← r2.length]; exact hz
  refine concat_meets ⟨_, ho, rfl⟩ ⟨_, ho2, rfl⟩ noFill_list_add seq_list_add PySem.F.slot_list_add PySem.F.entry_list_add (PySem.F.args_list_add_2 _ _) (PyProof.Rows.list_addW a b its.toArray its2.toArray n n2 dd dd2 sl sl2 (by simpa using hsz)) ⟨ho, ho2, ?_⟩
  have e : its.toArray ++ its2.toArray = (its ++ its2).toArray := by simp
  rw [e]
  exact ⟨.ref _, _, I.lnew (t' := s.toks) (r.append r2) (by rw [List.length_append]; omega), rfl, q _ I.fresh⟩
section
variable {X : Cx}
theorem nbad {α : Type} {x : α} {p : Prop} [Decidable p] {h : Hs} (e : (if p then R.ok x h else R.bad) ≠ .bad) : p := by
  by_cases q : p
  · exact q
  · rw [if_neg q] at e; exact absurd rfl e
theorem op_addD : Op2 X (binaryOp .Add) addD := by
  intro pins s τ H ρ e σ x y vx vy ux uy I rx rvx ry rvy h
  have lists : addD x y σ = catD x y σ → wpAny (model X.prog X.w) X.A (binaryOp .Add ux uy) (EP X pins τ (GD X ρ H (addD x y σ))) X.xe s := by
    intro e1
    rw [e1] at h ⊢
    obtain ⟨xs, ys, hx, hy, hz, e2⟩ := catD_nb h.nb
    rw [e2]
    obtain ⟨a, vs, rfl, ha, ra⟩ := list_at I.rs rx hx
    obtain ⟨b, ws, rfl, hb, rb⟩ := list_at I.rs ry hy
    cases rvx
    cases rvy
    exact cat_lists I.inv ha hb (by rw [← ra.length, ← rb.length]; exact hz) fun p hp => gd_lst I hp (ra.append rb)
  cases x with
  | int i =>
    cases y with
    | int j =>
      cases rx
      cases ry
      exact L2.op_add pins s τ H _ _ ux uy _ I.inv rvx rvy ⟨i, j, rfl, rfl, gd_ok I rfl⟩
    | _ => exact lists rfl
  | str a =>
    cases y with
    | str b =>
      cases rx
      cases ry
      have hz : a.length + b.length ≤ sizeLine := nbad (x := D.str (a ++ b)) (h := σ) (by simpa only [addD] using h.nb)
      have e1 : addD (.str a) (.str b) σ = .ok (.str (a ++ b)) σ := by simp only [addD, if_pos hz]
      rw [e1]
      exact op_add_str pins s τ H _ _ ux uy _ I.inv rvx rvy ⟨a, b, rfl, rfl, hz, gd_ok I rfl⟩
    | _ => exact lists rfl
  | tup xs =>
    cases y with
    | tup ys =>
      have hz : xs.length + ys.length ≤ sizeLine := nbad (x := D.tup (xs ++ ys)) (h := σ) (by simpa only [addD] using h.nb)
      have e1 : addD (.tup xs) (.tup ys) σ = .ok (.tup (xs ++ ys)) σ := by simp only [addD, if_pos hz]
      rw [e1]
      obtain ⟨a, vs, rfl, ha, ra⟩ := id rx
      obtain ⟨b, ws, rfl, hb, rb⟩ := id ry
      refine op_catA pins s τ H _ _ ux uy _ I.inv rvx rvy ⟨a, b, vs, ws, rfl, rfl, ha.seq, hb.seq, by rw [← ra.length, ← rb.length]; exact hz, fun z => ?_, fun _ z => ?_, fun _ _ p hp => gd_tup I hp (ra.append rb)⟩
      · subst z
        have : xs = [] := by have := ra.length; simpa using this
        subst this
        exact gd_ok I ry
      · subst z
        have : ys = [] := by have := rb.length; simpa using this
        subst this
        rw [List.append_nil]
        exact gd_ok I rx
    | _ => exact lists rfl
  | lst xs => exact lists rfl
  | ref n => exact lists rfl
  | _ => exact lists rfl
end
end Lb

set_option Elab.async false
set_option linter.all false
set_option maxRecDepth 100000
set_option maxHeartbeats 4000000
namespace Lb
open PySem PySem.Spec PyProof.Rows L2
section
variable {X : Cx}
/-- two ints, under a condition -/
theorem op_ii {f : Value → Value → Sem Value} {F : D → D → Hs → R D} {C : Int → Int → Prop} {g : Int → Int → Int} (ho : OpR X f (rI C fun i j => .int (g i j)))
    (h1 : ∀ x y h, F x y h ≠ .bad → ∃ i j, x = .int i ∧ y = .int j ∧ C i j ∧ F x y h = .ok (.int (g i j)) h) : Op2 X f F := by
  intro pins s τ H ρ e σ x y vx vy ux uy I rx rvx ry rvy h
  obtain ⟨i, j, rfl, rfl, hc, e1⟩ := h1 x y σ h.nb
  rw [e1]
  cases rx
  cases ry
  exact ho pins s τ H _ _ ux uy _ I.inv rvx rvy ⟨i, j, rfl, rfl, hc, gd_ok I rfl⟩
theorem op_subD : Op2 X (binaryOp .Sub) subD := by
  intro pins s τ H ρ e σ x y vx vy ux uy I rx rvx ry rvy h
  cases x with
  | int i =>
    cases y with
    | int j =>
      cases rx
      cases ry
      exact L2.op_sub pins s τ H _ _ ux uy _ I.inv rvx rvy ⟨i, j, rfl, rfl, gd_ok I rfl⟩
    | _ => exact absurd rfl h.nb
  | bl i =>
    cases y with
    | bl j =>
      cases rx
      cases ry
      cases rvx
      cases rvy
      exact sub_bool ⟨.int _, H, I.inv.tok _, ⟨_, rfl⟩, gd_ok I (by cases i <;> cases j <;> rfl)⟩
    | _ => exact absurd rfl h.nb
  | _ => exact absurd (by cases y <;> rfl) h.nb
theorem op_mulD : Op2 X (binaryOp .Mult) mulD := by
  intro pins s τ H ρ e σ x y vx vy ux uy I rx rvx ry rvy h
  have rep : ∀ n k, x = .ref n → y = .int k → wpAny (model X.prog X.w) X.A (binaryOp .Mult ux uy) (EP X pins τ (GD X ρ H (mulD x y σ))) X.xe s := by
    intro n k e1 e2
    subst e1 e2
    cases hx : σ[n]? with
    | none => exact absurd (by simp [mulD, listOf, hx]) h.nb
    | some o =>
      cases o with
      | lst xs =>
        have hb : (decide (-(2 ^ 63) ≤ k) && decide (k < 2 ^ 63) && decide (xs.length * k.toNat ≤ sizeLine)) = true := by
          have := h.nb
          simp only [mulD, listOf, hx] at this
          exact nbad this
        have e1 : mulD (.ref n) (.int k) σ = .ok (.lst (List.replicate k.toNat xs).flatten) σ := by simp only [mulD, listOf, hx]; rw [if_pos hb]
        rw [e1]
        simp only [Bool.and_eq_true, decide_eq_true_eq] at hb
        obtain ⟨⟨h1, h2⟩, h3⟩ := hb
        obtain ⟨a, vs, rfl, _, ha, ra⟩ := I.rs.lst rx hx
        cases ry
        refine L2.op_rep pins s τ H _ _ ux uy _ I.inv rvx rvy ⟨a, k, vs, rfl, rfl, ha, h1, h2, by rw [← ra.length]; exact h3, fun p hp => gd_lst I hp ?_⟩
        have rr : ∀ m : Nat, RDs X.K ρ H (List.replicate m xs).flatten (List.replicate m vs).flatten := fun m => by
          induction m with
          | zero => exact rfl
          | succ m ih => rw [List.replicate_succ, List.replicate_succ, List.flatten_cons, List.flatten_cons]; exact ra.append ih
        exact rr _
      | _ => exact absurd (by simp [mulD, listOf, hx]) h.nb
  have repl : ∀ xs k, x = .lst xs → y = .int k → wpAny (model X.prog X.w) X.A (binaryOp .Mult ux uy) (EP X pins τ (GD X ρ H (mulD x y σ))) X.xe s := by
    intro xs k e1 e2
    subst e1 e2
    have hb : (decide (-(2 ^ 63) ≤ k) && decide (k < 2 ^ 63) && decide (xs.length * k.toNat ≤ sizeLine)) = true := by
      have := h.nb
      simp only [mulD, listOf] at this
      exact nbad this
    have e1 : mulD (.lst xs) (.int k) σ = .ok (.lst (List.replicate k.toNat xs).flatten) σ := by simp only [mulD, listOf]; rw [if_pos hb]
    rw [e1]
    simp only [Bool.and_eq_true, decide_eq_true_eq] at hb
    obtain ⟨⟨h1, h2⟩, h3⟩ := hb
    obtain ⟨a, vs, rfl, hL, ra⟩ := rx
    cases ry
    have rr : ∀ m : Nat, RDs X.K ρ H (List.replicate m xs).flatten (List.replicate m vs).flatten := fun m => by
      induction m with
      | zero => exact rfl
      | succ m ih => rw [List.replicate_succ, List.replicate_succ, List.flatten_cons, List.flatten_cons]; exact ra.append ih
    exact L2.op_rep pins s τ H _ _ ux uy _ I.inv rvx rvy ⟨a, k, vs, rfl, rfl, hL.1, h1, h2, by rw [← ra.length]; exact h3, fun p hp => gd_lst I hp (rr _)⟩
  cases x with
  | int i =>
    cases y with
    | int j =>
      have hb : (small64b i || small64b j) = true := nbad (x := D.int (i * j)) (h := σ) (by simpa only [mulD] using h.nb)
      have e1 : mulD (.int i) (.int j) σ = .ok (.int (i * j)) σ := by simp only [mulD, if_pos hb]
      rw [e1]
      cases rx
      cases ry
      refine L2.op_mul pins s τ H _ _ ux uy _ I.inv rvx rvy ⟨i, j, rfl, rfl, ?_, gd_ok I rfl⟩
      simp only [small64b, Bool.or_eq_true, Bool.and_eq_true, decide_eq_true_eq] at hb
      exact hb
    | _ => exact absurd rfl h.nb
  | ref n =>
    cases y with
    | int k => exact rep n k rfl rfl
    | _ => exact absurd rfl h.nb
  | lst xs =>
    cases y with
    | int k => exact repl xs k rfl rfl
    | _ => exact absurd rfl h.nb
  | scr xs => exact absurd (by cases y <;> rfl) h.nb
  | _ => exact absurd (by cases y <;> rfl) h.nb
end
end Lb

set_option Elab.async false
set_option linter.all false
set_option maxRecDepth 100000
set_option maxHeartbeats 4000000
namespace Lb
open PySem PySem.Spec PyProof.Rows L2

/-! ### comparisons by values -/
def eqB (h : Hs) (x y : D) : Option Bool :=
  if (viewD h x).fit 40 && (viewD h y).fit 40 then some (PyData.eqv (viewD h x).data (viewD h y).data) else none
def ltB (h : Hs) (x y : D) : Option Bool := match x, y with
  | .int i, .int j => some (decide (i < j))
  | x, y => if (viewD h x).fit 40 && (viewD h y).fit 40 && PySem.W.alike (viewD h x).data (viewD h y).data && (match viewD h x with | .tup _ => true | .lst _ => true | .str _ => true | _ => false) then some (PySem.W.dataLt (viewD h x).data (viewD h y).data) else none
def inB (h : Hs) (x y : D) : Option Bool := match y with
  | .str b => match x with
    | .str a => some (!(Builtin.Str.occurrences b a 0 b.length 1).isEmpty)
    | _ => none
  | .ref n => match h[n]? with
    | some (.lst ys) => if (viewD h x).fit 40 && ys.all (D.fit 40) then some (ys.any fun y => PyData.eqv y.data (viewD h x).data) else none
    | some (.dict kvs) => if x.isKey then some (dget kvs x).isSome else none
    | some (.fdict kvs) => if x.isKey then some (dget kvs x).isSome else none
    | some (.dks kvs) => match x with
      | .str a => some (kvs.any fun p => p.1 == a)
      | _ => none
    | _ => none
  | .lst ys => if (viewD h x).fit 40 && ys.all (D.fit 40) then some (ys.any fun y => PyData.eqv y.data (viewD h x).data) else none
  | .tup ys => if (viewD h x).fit 40 && ys.all (D.fit 40) then some (ys.any fun y => PyData.eqv y.data (viewD h x).data) else none
  | _ => none
def bD (f : Hs → D → D → Option Bool) (x y : D) (h : Hs) : R D := match f h x y with
  | some b => .ok (.bl b) h
  | none => .bad
def nbD (f : Hs → D → D → Option Bool) (x y : D) (h : Hs) : R D := match f h x y with
  | some b => .ok (.bl (!b)) h
  | none => .bad
abbrev eqD := bD eqB
abbrev neD := nbD eqB
abbrev ltD := bD ltB
abbrev inD := bD inB
abbrev ninD := nbD inB
def gtD (x y : D) (h : Hs) : R D := match x, y with
  | .int i, .int j => .ok (.bl (decide (j < i))) h
  | _, _ => .bad
def leD (x y : D) (h : Hs) : R D := match x, y with
  | .int i, .int j => .ok (.bl (decide (i ≤ j))) h
  | _, _ => .bad
def geD (x y : D) (h : Hs) : R D := match x, y with
  | .int i, .int j => .ok (.bl (decide (j ≤ i))) h
  | _, _ => .bad
def isNon : D → Bool
  | .non => true
  | _ => false
def isD (x y : D) (h : Hs) : R D := match x, y with
  | x, .non => .ok (.bl (isNon x)) h
  | .bl a, .bl b => .ok (.bl (decide (a = b))) h
  | _, _ => .bad
def isntD (x y : D) (h : Hs) : R D := match x, y with
  | x, .non => .ok (.bl (!isNon x)) h
  | .bl a, .bl b => .ok (.bl (!decide (a = b))) h
  | _, _ => .bad

theorem bD_nb {f : Hs → D → D → Option Bool} {x y : D} {h : Hs} (e : bD f x y h ≠ .bad) : ∃ b, f h x y = some b ∧ bD f x y h = .ok (.bl b) h := by
  unfold bD at e ⊢
  cases q : f h x y with
  | none => rw [q] at e; exact absurd rfl e
  | some b => exact ⟨b, rfl, rfl⟩
theorem nbD_nb {f : Hs → D → D → Option Bool} {x y : D} {h : Hs} (e : nbD f x y h ≠ .bad) : ∃ b, f h x y = some b ∧ nbD f x y h = .ok (.bl (!b)) h := by
  unfold nbD at e ⊢
  cases q : f h x y with
  | none => rw [q] at e; exact absurd rfl e
  | some b => exact ⟨b, rfl, rfl⟩
theorem some_if {α : Type} {c : Bool} {a b : α} (h : (if c = true then some a else none) = some b) : c = true ∧ a = b := by
  by_cases q : c = true
  · rw [if_pos q] at h; exact ⟨q, Option.some.inj h⟩
  · rw [if_neg q] at h; cases h

section
variable {P : Program} {w : World} {K : PySem.W.Frag} {ρ : List Addr} {H : Hp} {h : Heap}
theorem nested_is (hk : HOk P w H h) (kin : K.In h) : ∀ (d : D) (v : V) (u : Value), d.keyOk = true → RD K ρ H d v → RelV v u → NestedIs h d.key u := by
  have seqT : ∀ {a vs}, TAt K ρ H a vs → ∃ (its : List Value) (o : Obj) (n : Nat), Vals vs its ∧ h.get? a = some o ∧ o.cls = .type "tuple" ∧ o.data = .seq its.toArray n := by
    intro a vs t
    rcases t with ⟨t, _⟩ | ⟨o, its, n, hl, hc, hd, _, r⟩
    · obtain ⟨_, its, r, o, e, c, n, d⟩ := t.ok hk
      exact ⟨its, o, n, r, e, c, d⟩
    · exact ⟨its.toList, o, n, r, kin a o hl, hc, by simpa using hd⟩
  intro d
  induction d using D.rec (motive_2 := fun ds => ∀ (vs : List V) (us : List Value), D.keysOk ds = true → RDs K ρ H ds vs → Vals vs us → NestedAll h (D.keys ds) us) with
  | non => intro v u _ r rv; cases r; cases rv; rw [D.key]; exact .none
  | bl b => intro v u _ r rv; cases r; cases rv; rw [D.key]; exact .bool rfl
  | int i => intro v u _ r rv; cases r; obtain ⟨t, rfl⟩ := rv; rw [D.key]; exact .int _ _
  | str x => intro v u _ r rv; cases r; obtain ⟨t, rfl⟩ := rv; rw [D.key]; exact .text _ _
  | tup ds ih =>
    intro v u hk' r rv
    obtain ⟨a, vs, rfl, t, rd⟩ := r
    cases rv
    obtain ⟨its, o, n, rvs, e, c, d⟩ := seqT t
    rw [D.key]
    exact .tup e c d (by simpa using ih vs its (by simpa [D.keyOk] using hk') rd rvs)
  | lst _ _ => intro v u hk'; simp [D.keyOk] at hk'
  | ref _ => intro v u hk'; simp [D.keyOk] at hk'
  | scr _ => intro v u hk'; simp [D.keyOk] at hk'
  | nil => rename_i r rv; cases r; cases rv; rw [D.keys]; exact .nil
  | cons d ds h1 h2 =>
    rename_i hk' r rv
    obtain ⟨v, r', rfl, r1, r2⟩ := r
    simp only [D.keysOk, Bool.and_eq_true] at hk'
    cases rv with
    | cons q1 q2 => rw [D.keys]; exact .cons (h1 v _ hk'.1 r1 q1) (h2 r' _ hk'.2 r2 q2)
end
theorem isKey_spec {d : D} (h : d.isKey = true) : ∃ xs, d = .tup xs ∧ d.keyOk = true ∧ d.key.depth ≤ 8 := by
  cases d with
  | tup xs => simp only [D.isKey, Bool.true_and, Bool.and_eq_true, decide_eq_true_eq] at h; exact ⟨xs, rfl, h.1, h.2⟩
  | _ => simp [D.isKey] at h
section
variable {X : Cx} {pins : List (Addr × Obj)} {ρ : List Addr} {e : En} {σ : Hs} {τ : L2.St} {H : Hp} {s : Shared}
theorem SR.key (I : SR X pins ρ e σ τ H s) {d : D} {a : Addr} (hk : d.isKey = true) (r : RD X.K ρ H d (.ref a)) : (nestedKind X.prog X.w).is s.heap d.key a := by
  obtain ⟨xs, e1, h1, h2⟩ := isKey_spec hk
  exact ⟨nested_is I.inv.hok I.inv.kIn d _ _ h1 r rfl, h2⟩
theorem SR.keys (I : SR X pins ρ e σ τ H s) : ∀ {kvs : List (D × D)} {kvh : List (NestedKey × Addr × V)} {xs : List (NestedKey × Addr × Value)},
    Paired (fun (p : D × D) (q : NestedKey × Addr × V) => q.1 = p.1.key ∧ p.1.isKey = true ∧ RD X.K ρ H p.1 (.ref q.2.1) ∧ RD X.K ρ H p.2 q.2.2) kvs kvh →
    Paired (fun (p : NestedKey × Addr × V) (q : NestedKey × Addr × Value) => p.1 = q.1 ∧ p.2.1 = q.2.1 ∧ RelV p.2.2 q.2.2) kvh xs → ∀ x ∈ xs, (nestedKind X.prog X.w).is s.heap x.1 x.2.1
  | _, _, _, .nil, .nil, x, hx => by simp at hx
  | _, _, _, .cons p1 p2, .cons q1 q2, x, hx => by
    rcases List.mem_cons.mp hx with e | hx
    · subst e
      rw [← q1.1, p1.1, ← q1.2.1]
      exact I.key p1.2.1 p1.2.2.1
    · exact I.keys p2 q2 x hx
/-- the dict as the library tells it -/
theorem SR.dict (I : SR X pins ρ e σ τ H s) {n : Nat} {kvs : List (D × D)} {v : V} (r : RD X.K ρ H (.ref n) v) (q : σ[n]? = some (.dict kvs)) :
    ∃ (a : Addr) (kvh : List (NestedKey × Addr × V)) (xs : List (NestedKey × Addr × Value)), v = .ref a ∧ ρ[n]? = some a ∧ H a = some (.ext (DictPhi X.prog X.w a kvh)) ∧ kvh.length ≤ sizeLine ∧ (a == sysModules) = false ∧
      Paired (fun (p : D × D) (q : NestedKey × Addr × V) => q.1 = p.1.key ∧ p.1.isKey = true ∧ RD X.K ρ H p.1 (.ref q.2.1) ∧ RD X.K ρ H p.2 q.2.2) kvs kvh ∧
      Paired (fun (p : NestedKey × Addr × V) (q : NestedKey × Addr × Value) => p.1 = q.1 ∧ p.2.1 = q.2.1 ∧ RelV p.2.2 q.2.2) kvh xs ∧ s.heap.DictOfH (nestedKind X.prog X.w) a xs := by
  obtain ⟨a, rfl, ha⟩ := r
  obtain ⟨kvh, hH, hp⟩ := I.rs.at_ n a _ ha q
  obtain ⟨hz, hs, xs, hx, o, es, ep, e1, e2, e3, e4, e5⟩ := (I.inv.hok a _ hH).1
  refine ⟨a, kvh, xs, rfl, ha, hH, hz, hs, hp, hx, o, es, ep, e1, e2, e3, e4, ?_, e5⟩
  exact I.keys hp hx
/-- .. to be read, locked or not -/
theorem SR.dictR (I : SR X pins ρ e σ τ H s) {n : Nat} {kvs : List (D × D)} {v : V} (r : RD X.K ρ H (.ref n) v) (q : σ[n]? = some (.dict kvs) ∨ σ[n]? = some (.fdict kvs)) :
    ∃ (a : Addr) (kvh : List (NestedKey × Addr × V)) (xs : List (NestedKey × Addr × Value)), v = .ref a ∧ ρ[n]? = some a ∧ kvh.length ≤ sizeLine ∧ (a == sysModules) = false ∧
      Paired (fun (p : D × D) (q : NestedKey × Addr × V) => q.1 = p.1.key ∧ p.1.isKey = true ∧ RD X.K ρ H p.1 (.ref q.2.1) ∧ RD X.K ρ H p.2 q.2.2) kvs kvh ∧
      Paired (fun (p : NestedKey × Addr × V) (q : NestedKey × Addr × Value) => p.1 = q.1 ∧ p.2.1 = q.2.1 ∧ RelV p.2.2 q.2.2) kvh xs ∧ s.heap.DictOfH (nestedKind X.prog X.w) a xs := by
  rcases q with q | q
  · obtain ⟨a, kvh, xs, h1, h2, _, h4⟩ := I.dict r q
    exact ⟨a, kvh, xs, h1, h2, h4⟩
  · obtain ⟨a, rfl, ha⟩ := r
    obtain ⟨kvh, od, hH, hp⟩ := I.rs.at_ n a _ ha q
    obtain ⟨hz, hs, xs, hx, o, es, ep, e1, e2, e3, e4, e5⟩ := (I.inv.hok a _ hH).2.1
    refine ⟨a, kvh, xs, rfl, ha, hz, hs, hp, hx, o, es, ep, e1, e2, e3, e4, ?_, e5⟩
    exact I.keys hp hx
theorem paired_find {kvs : List (D × D)} {kvh : List (NestedKey × Addr × V)} {xs : List (NestedKey × Addr × Value)} {K : PySem.W.Frag} {ρ : List Addr} {H : Hp}
    (hp : Paired (fun (p : D × D) (q : NestedKey × Addr × V) => q.1 = p.1.key ∧ p.1.isKey = true ∧ RD K ρ H p.1 (.ref q.2.1) ∧ RD K ρ H p.2 q.2.2) kvs kvh)
    (hx : Paired (fun (p : NestedKey × Addr × V) (q : NestedKey × Addr × Value) => p.1 = q.1 ∧ p.2.1 = q.2.1 ∧ RelV p.2.2 q.2.2) kvh xs) (k : D) :
    (dget kvs k = none ∧ atKey xs k.key = none) ∨ ∃ d v a u, dget kvs k = some d ∧ atKey xs k.key = some (a, u) ∧ RD K ρ H d v ∧ RelV v u := by
  induction hp generalizing xs with
  | nil => cases hx; exact .inl ⟨rfl, rfl⟩
  | @cons p q ps qs p1 p2 ih =>
    cases hx with
    | @cons _ x _ xs q1 q2 =>
      have ek : x.1 = p.1.key := by rw [← q1.1, p1.1]
      by_cases hk : p.1.key = k.key
      · refine .inr ⟨p.2, q.2.2, x.2.1, x.2.2, ?_, ?_, p1.2.2.2, q1.2.2⟩
        · simp [dget, List.find?_cons, hk]
        · simp [atKey, List.find?_cons, ek, hk]
      · rcases ih q2 with ⟨h1, h2⟩ | ⟨d, v, a, u, h1, h2, h3⟩
        · refine .inl ⟨?_, ?_⟩
          · simpa [dget, List.find?_cons, hk] using h1
          · simpa [atKey, List.find?_cons, ek, hk] using h2
        · refine .inr ⟨d, v, a, u, ?_, ?_, h3⟩
          · simpa [dget, List.find?_cons, hk] using h1
          · simpa [atKey, List.find?_cons, ek, hk] using h2
end
section
variable {X : Cx}
theorem op_modD : Op2 X (binaryOp .Mod) modD := op_ii L2.op_mod fun x y h e => by
  cases x with
  | int i =>
    cases y with
    | int j =>
      have hb : 0 < j := nbad (x := D.int (i % j)) (h := h) (by simpa only [modD] using e)
      exact ⟨i, j, rfl, rfl, hb, by simp only [modD, if_pos hb]⟩
    | _ => exact absurd rfl e
  | _ => exact absurd (by cases y <;> rfl) e
theorem op_divD : Op2 X (binaryOp .FloorDiv) divD := op_ii L2.op_fdiv fun x y h e => by
  cases x with
  | int i =>
    cases y with
    | int j =>
      have hb : 0 < j ∧ j < 1073741824 := nbad (x := D.int (i / j)) (h := h) (by simpa only [divD] using e)
      exact ⟨i, j, rfl, rfl, hb, by simp only [divD, if_pos hb]⟩
    | _ => exact absurd rfl e
  | _ => exact absurd (by cases y <;> rfl) e
theorem op_powD : Op2 X (binaryOp .Pow) powD := op_ii L2.op_pow fun x y h e => by
  cases x with
  | int i =>
    cases y with
    | int j =>
      have hb : 0 ≤ j ∧ j ≤ 1000000 ∧ i.natAbs < 2 ^ 64 := nbad (x := D.int (i ^ j.toNat)) (h := h) (by simpa only [powD] using e)
      exact ⟨i, j, rfl, rfl, hb, by simp only [powD, if_pos hb]⟩
    | _ => exact absurd rfl e
  | _ => exact absurd (by cases y <;> rfl) e
theorem op_shlD : Op2 X (binaryOp .LShift) shlD := op_ii L2.op_shl fun x y h e => by
  cases x with
  | int i =>
    cases y with
    | int j =>
      have hb : 0 ≤ j ∧ j ≤ 1000000 ∧ i.natAbs < 2 ^ 64 := nbad (x := D.int (i * 2 ^ j.toNat)) (h := h) (by simpa only [shlD] using e)
      exact ⟨i, j, rfl, rfl, hb, by simp only [shlD, if_pos hb]⟩
    | _ => exact absurd rfl e
  | _ => exact absurd (by cases y <;> rfl) e
theorem op_shrD : Op2 X (binaryOp .RShift) shrD := op_ii L2.op_shr fun x y h e => by
  cases x with
  | int i =>
    cases y with
    | int j =>
      have hb : 0 ≤ j := nbad (x := D.int (i / 2 ^ j.toNat)) (h := h) (by simpa only [shrD] using e)
      exact ⟨i, j, rfl, rfl, hb, by simp only [shrD, if_pos hb]⟩
    | _ => exact absurd rfl e
  | _ => exact absurd (by cases y <;> rfl) e
theorem op_i0 {f : Value → Value → Sem Value} {F : D → D → Hs → R D} {g : Int → Int → V} {g' : Int → Int → D} (ho : OpR X f (rI0 g)) (hr : ∀ i j K ρ H, RD K ρ H (g' i j) (g i j))
    (h1 : ∀ x y h, F x y h ≠ .bad → ∃ i j, x = .int i ∧ y = .int j ∧ F x y h = .ok (g' i j) h) : Op2 X f F := by
  intro pins s τ H ρ e σ x y vx vy ux uy I rx rvx ry rvy h
  obtain ⟨i, j, rfl, rfl, e1⟩ := h1 x y σ h.nb
  rw [e1]
  cases rx
  cases ry
  exact ho pins s τ H _ _ ux uy _ I.inv rvx rvy ⟨i, j, rfl, rfl, gd_ok I (hr _ _ _ _ _)⟩
theorem op_andD : Op2 X (binaryOp .BitAnd) andD := op_i0 (g' := fun i j => .int (Builtin.bitAnd i j)) L2.op_and (fun _ _ _ _ _ => rfl) fun x y h e => by
  cases x with
  | int i => cases y with
    | int j => exact ⟨i, j, rfl, rfl, rfl⟩
    | _ => exact absurd rfl e
  | _ => exact absurd (by cases y <;> rfl) e
theorem op_orD : Op2 X (binaryOp .BitOr) orD := op_i0 (g' := fun i j => .int (Builtin.bitOr i j)) L2.op_or (fun _ _ _ _ _ => rfl) fun x y h e => by
  cases x with
  | int i => cases y with
    | int j => exact ⟨i, j, rfl, rfl, rfl⟩
    | _ => exact absurd rfl e
  | _ => exact absurd (by cases y <;> rfl) e
theorem op_gtD : Op2 X (compareOp .Gt) gtD := op_i0 (g' := fun i j => .bl (decide (j < i))) L2.op_gt (fun _ _ _ _ _ => rfl) fun x y h e => by
  cases x with
  | int i => cases y with
    | int j => exact ⟨i, j, rfl, rfl, rfl⟩
    | _ => exact absurd rfl e
  | _ => exact absurd (by cases y <;> rfl) e
theorem op_leD : Op2 X (compareOp .LtE) leD := op_i0 (g' := fun i j => .bl (decide (i ≤ j))) L2.op_le (fun _ _ _ _ _ => rfl) fun x y h e => by
  cases x with
  | int i => cases y with
    | int j => exact ⟨i, j, rfl, rfl, rfl⟩
    | _ => exact absurd rfl e
  | _ => exact absurd (by cases y <;> rfl) e
theorem op_geD : Op2 X (compareOp .GtE) geD := op_i0 (g' := fun i j => .bl (decide (j ≤ i))) L2.op_ge (fun _ _ _ _ _ => rfl) fun x y h e => by
  cases x with
  | int i => cases y with
    | int j => exact ⟨i, j, rfl, rfl, rfl⟩
    | _ => exact absurd rfl e
  | _ => exact absurd (by cases y <;> rfl) e
theorem op_negD : Op1 X (unaryOp .USub) negD := by
  intro pins s τ H ρ e σ x vx ux I rx rvx h
  cases x with
  | int i =>
    cases rx
    exact L2.un_neg pins s τ H _ ux _ I.inv rvx ⟨i, rfl, gd_ok I rfl⟩
  | _ => exact absurd rfl h.nb
theorem shaped_of {d : D} (h : d.fit 40 = true) : SeqAt.shaped d.data = true := by
  obtain ⟨h1, h2⟩ := fit_spec 40 d h
  unfold SeqAt.shaped
  rw [h1, decide_eq_true (show d.data.depth ≤ 64 by omega)]
  rfl
theorem op_eqD' (g : Good X) : Op2 X (compareOp .Eq) eqD := by
  intro pins s τ H ρ e σ x y vx vy ux uy I rx rvx ry rvy h
  obtain ⟨b, hb, e1⟩ := bD_nb h.nb
  show wpAny _ _ _ (EP X pins τ (GD X ρ H (bD eqB x y σ))) _ _
  rw [e1]
  obtain ⟨hf, e2⟩ := some_if hb
  simp only [Bool.and_eq_true] at hf
  exact L2.op_eqD (by have := g.un; omega) pins s τ H _ _ ux uy _ I.inv rvx rvy ⟨_, _, view_dp I.rs rx hf.1, view_dp I.rs ry hf.2, shaped_of hf.1, shaped_of hf.2, by rw [e2]; exact gd_ok I rfl⟩
theorem op_neD' (g : Good X) : Op2 X (compareOp .NotEq) neD := by
  intro pins s τ H ρ e σ x y vx vy ux uy I rx rvx ry rvy h
  obtain ⟨b, hb, e1⟩ := nbD_nb h.nb
  show wpAny _ _ _ (EP X pins τ (GD X ρ H (nbD eqB x y σ))) _ _
  rw [e1]
  obtain ⟨hf, e2⟩ := some_if hb
  simp only [Bool.and_eq_true] at hf
  exact L2.op_neD (by have := g.un; omega) pins s τ H _ _ ux uy _ I.inv rvx rvy ⟨_, _, view_dp I.rs rx hf.1, view_dp I.rs ry hf.2, shaped_of hf.1, shaped_of hf.2, by rw [e2]; exact gd_ok I rfl⟩
theorem op_ltD' (g : Good X) : Op2 X (compareOp .Lt) ltD := by
  intro pins s τ H ρ e σ x y vx vy ux uy I rx rvx ry rvy h
  obtain ⟨b, hb, e1⟩ := bD_nb h.nb
  show wpAny _ _ _ (EP X pins τ (GD X ρ H (bD ltB x y σ))) _ _
  rw [e1]
  have gen : (if (viewD σ x).fit 40 && (viewD σ y).fit 40 && PySem.W.alike (viewD σ x).data (viewD σ y).data && (match viewD σ x with | .tup _ => true | .lst _ => true | .str _ => true | _ => false) then some (PySem.W.dataLt (viewD σ x).data (viewD σ y).data) else none) = some b →
      wpAny (model X.prog X.w) X.A (compareOp .Lt ux uy) (EP X pins τ (GD X ρ H (.ok (.bl b) σ))) X.xe s := fun q => by
    obtain ⟨hf, e2⟩ := some_if q
    simp only [Bool.and_eq_true] at hf
    obtain ⟨⟨⟨f1, f2⟩, f3⟩, f4⟩ := hf
    obtain ⟨as, r1⟩ := Dp.reads I.inv _ _ ux (view_dp I.rs rx f1) rvx
    obtain ⟨bs, r2⟩ := Dp.reads I.inv _ _ uy (view_dp I.rs ry f2) rvy
    have nn : (viewD σ x).data ≠ .none := fun z => by
      cases q : viewD σ x <;> rw [q] at f4 z <;> first | (simp at f4; done) | (simp [D.data] at z; done)
    have hu : X.A.units + min (viewD σ x).data.depth (viewD σ y).data.depth < cLine := by
      have h1 := (fit_spec 40 _ f1).2
      have h2 := Nat.min_le_left (viewD σ x).data.depth (viewD σ y).data.depth
      have := g.un
      omega
    show wpAny _ _ (richCompare .Lt ux uy) _ _ _
    refine PySem.W.rcLt_alike _ _ _ _ _ _ _ _ r1 r2 f3 nn hu _ _ _ _ ⟨.bl b, H, I.inv, by rw [← e2]; rfl, gd_ok I rfl⟩
  cases x with
  | int i =>
    cases y with
    | int j =>
      have e2 : decide (i < j) = b := Option.some.inj hb
      cases rx
      cases ry
      exact L2.op_lt pins s τ H _ _ ux uy _ I.inv rvx rvy ⟨i, j, rfl, rfl, by show GD X ρ H _ (V.bl (decide (i < j))) H; rw [e2]; exact gd_ok I rfl⟩
    | _ => exact gen hb
  | _ => exact gen hb
theorem isNon_rd {K ρ H d v} (r : RD K ρ H d v) : decide (v = V.non) = isNon d := by
  cases d with
  | non => cases r; rfl
  | bl _ => cases r; rfl
  | int _ => cases r; rfl
  | str _ => cases r; rfl
  | tup _ => obtain ⟨_, _, rfl, _⟩ := r; rfl
  | lst _ => obtain ⟨_, _, rfl, _⟩ := r; rfl
  | ref _ => obtain ⟨_, rfl, _⟩ := r; rfl
  | scr _ => obtain ⟨_, rfl, _⟩ := r; rfl
theorem op_isD : Op2 X (compareOp .Is) isD := by
  intro pins s τ H ρ e σ x y vx vy ux uy I rx rvx ry rvy h
  cases y with
  | non =>
    have e1 : isD x .non σ = .ok (.bl (isNon x)) σ := by cases x <;> rfl
    rw [e1]
    cases ry
    exact op_isN pins s τ H _ _ ux uy _ I.inv rvx rvy ⟨rfl, by rw [isNon_rd rx]; exact gd_ok I rfl⟩
  | bl b =>
    cases x with
    | bl a =>
      cases rx
      cases ry
      exact op_is_bl pins s τ H _ _ ux uy _ I.inv rvx rvy ⟨a, b, rfl, rfl, gd_ok I rfl⟩
    | _ => exact absurd rfl h.nb
  | _ => exact absurd (by cases x <;> rfl) h.nb
theorem op_isntD : Op2 X (compareOp .IsNot) isntD := by
  intro pins s τ H ρ e σ x y vx vy ux uy I rx rvx ry rvy h
  cases y with
  | non =>
    have e1 : isntD x .non σ = .ok (.bl (!isNon x)) σ := by cases x <;> rfl
    rw [e1]
    cases ry
    exact op_notN pins s τ H _ _ ux uy _ I.inv rvx rvy ⟨rfl, by rw [isNon_rd rx]; exact gd_ok I rfl⟩
  | bl b =>
    cases x with
    | bl a =>
      cases rx
      cases ry
      exact op_isnot_bl pins s τ H _ _ ux uy _ I.inv rvx rvy ⟨a, b, rfl, rfl, gd_ok I rfl⟩
    | _ => exact absurd rfl h.nb
  | _ => exact absurd (by cases x <;> rfl) h.nb
end
end Lb

set_option Elab.async false
set_option linter.all false
set_option maxRecDepth 100000
set_option maxHeartbeats 4000000
namespace Lb
open PySem PySem.Spec PyProof.Rows L2

/-! ### in -/
theorem inB_list {x y : D} {h : Hs} {b : Bool} (e : inB h x y = some b) {ys : List D} (hy : y = .lst ys ∨ y = .tup ys ∨ ∃ n, y = .ref n ∧ h[n]? = some (.lst ys)) :
    (viewD h x).fit 40 = true ∧ ys.all (D.fit 40) = true ∧ (ys.any fun y => PyData.eqv y.data (viewD h x).data) = b := by
  have e' : (if (viewD h x).fit 40 && ys.all (D.fit 40) then some (ys.any fun y => PyData.eqv y.data (viewD h x).data) else none) = some b := by
    rcases hy with rfl | rfl | ⟨n, rfl, hn⟩
    · exact e
    · exact e
    · simp only [inB, hn] at e; exact e
  obtain ⟨h1, h2⟩ := some_if e'
  simp only [Bool.and_eq_true] at h1
  exact ⟨h1.1, h1.2, h2⟩
theorem any_data (ys : List D) (d : PyData) : ((D.datas ys).any fun y => PyData.eqv y d) = ys.any fun y => PyData.eqv y.data d := by
  rw [datas_map, List.any_map]; rfl
section
variable {X : Cx}
theorem in_seq_ok (g : Good X) {pins s τ H ρ} {e : En} {σ : Hs} {x : D} {ys : List D} {vx : V} {a : Addr} {vs : List V} {ux : Value} {b : Bool} {neg : Bool} {Q : VK} (I : SR X pins ρ e σ τ H s) (rx : RD X.K ρ H x vx) (rvx : RelV vx ux)
    (ha : SqL X.K H a vs ∨ SqT X.K H a vs) (ra : RDs X.K ρ H ys vs) (f1 : (viewD σ x).fit 40 = true) (f2 : ys.all (D.fit 40) = true) (eb : (ys.any fun y => PyData.eqv y.data (viewD σ x).data) = b)
    (q : Q (.bl (if neg then !b else b)) H) : wpAny (model X.prog X.w) X.A (compareOp (if neg then .NotIn else .In) ux (.ref a)) (EP X pins τ Q) X.xe s := by
  obtain ⟨as, r1⟩ := Dp.reads I.inv _ _ ux (view_dp I.rs rx f1) rvx
  have sh := shaped_of f1
  have c1 := SeqAt.canLay_of_shaped sh
  obtain ⟨c2, d2⟩ := fits_spec (fit_spec 40) ys f2
  have d1 := (fit_spec 40 _ f1).2
  have hu : X.A.units + 1 + min (PyData.depthAll (D.datas ys)) (viewD σ x).data.depth < cLine := by
    have h2 := Nat.min_le_right (PyData.depthAll (D.datas ys)) (viewD σ x).data.depth
    have := g.un
    omega
  have dps := dps_of 40 ys vs f2 ra
  rcases ha with ha | ha
  · obtain ⟨bs, r2⟩ := Dp.reads I.inv (.list (D.datas ys)) (.ref a) (.ref a) (.lst ha dps) rfl
    cases neg with
    | false => exact SeqAt.in_list_reads r2 r1 c2 c1 hu ⟨.bl b, H, I.inv, by rw [any_data, eb]; rfl, q⟩
    | true => exact SeqAt.notIn_list_reads r2 r1 c2 c1 hu ⟨.bl (!b), H, I.inv, by rw [any_data, eb]; rfl, q⟩
  · obtain ⟨bs, r2⟩ := Dp.reads I.inv (.tuple (D.datas ys)) (.ref a) (.ref a) (.tup ha dps) rfl
    cases neg with
    | false => exact SeqAt.in_tuple_reads r2 r1 c2 c1 hu ⟨.bl b, H, I.inv, by rw [any_data, eb]; rfl, q⟩
    | true => exact SeqAt.notIn_tuple_reads r2 r1 c2 c1 hu ⟨.bl (!b), H, I.inv, by rw [any_data, eb]; rfl, q⟩
theorem find_dks {K : PySem.W.Frag} {ρ : List Addr} {H : Hp} {kvs : List (Str × D)} {kvh : List (Key × V)} (h : Paired (fun (p : Str × D) (q : Key × V) => q.1 = .inr p.1 ∧ RD K ρ H p.2 q.2) kvs kvh) (a : Str) :
    (kvs.lookup a = none ∧ valV kvh (.inr a) = none) ∨ ∃ d v, kvs.lookup a = some d ∧ valV kvh (.inr a) = some v ∧ RD K ρ H d v := by
  induction h with
  | nil => exact .inl ⟨rfl, rfl⟩
  | @cons p q ps qs h1 h2 ih =>
    obtain ⟨k, d⟩ := p
    obtain ⟨e1, r1⟩ := h1
    by_cases hk : k = a
    · subst hk
      refine .inr ⟨d, q.2, by simp [List.lookup], valV_pos e1, r1⟩
    · have hk' : (a == k) = false := beq_eq_false_iff_ne.mpr fun z => hk z.symm
      have hq : ¬ q.1 = Sum.inr a := fun z => hk (by rw [e1] at z; exact Sum.inr.inj z)
      rw [valV_neg hq]
      simp only [List.lookup, hk']
      exact ih
theorem any_lookup (a : Str) : ∀ kvs : List (Str × D), (kvs.any fun p => p.1 == a) = (kvs.lookup a).isSome
  | [] => rfl
  | (k, d) :: r => by
    by_cases hk : k = a
    · subst hk; simp [List.lookup]
    · have h1 : (k == a) = false := beq_eq_false_iff_ne.mpr hk
      have h2 : (a == k) = false := beq_eq_false_iff_ne.mpr fun z => hk z.symm
      simp only [List.any_cons, h1, Bool.false_or, List.lookup, h2]
      exact any_lookup a r
theorem in_ok (g : Good X) (neg : Bool) {pins s τ H ρ} {e : En} {σ : Hs} {x y : D} {vx vy : V} {ux uy : Value} {b : Bool} {Q : VK} (I : SR X pins ρ e σ τ H s) (rx : RD X.K ρ H x vx) (rvx : RelV vx ux) (ry : RD X.K ρ H y vy) (rvy : RelV vy uy)
    (eb : inB σ x y = some b) (q : Q (.bl (if neg then !b else b)) H) : wpAny (model X.prog X.w) X.A (compareOp (if neg then .NotIn else .In) ux uy) (EP X pins τ Q) X.xe s := by
  cases y with
  | str z =>
    cases x with
    | str c =>
      have e1 : (!(Builtin.Str.occurrences z c 0 z.length 1).isEmpty) = b := Option.some.inj eb
      cases rx
      cases ry
      cases neg with
      | false => exact op_in_str pins s τ H _ _ ux uy _ I.inv rvx rvy ⟨c, z, rfl, rfl, by rw [e1]; exact q⟩
      | true => exact L2.op_notin_str pins s τ H _ _ ux uy _ I.inv rvx rvy ⟨c, z, rfl, rfl, by rw [e1]; exact q⟩
    | _ => cases eb
  | lst ys =>
    obtain ⟨f1, f2, f3⟩ := inB_list eb (.inl rfl)
    obtain ⟨a, vs, rfl, t, r⟩ := ry
    cases rvy
    exact in_seq_ok g I rx rvx (.inl (SqL.of t.1)) r f1 f2 f3 q
  | tup ys =>
    obtain ⟨f1, f2, f3⟩ := inB_list eb (.inr (.inl rfl))
    obtain ⟨a, vs, rfl, t, r⟩ := ry
    cases rvy
    exact in_seq_ok g I rx rvx (.inr t.seq) r f1 f2 f3 q
  | ref n =>
    cases hn : σ[n]? with
    | none => simp [inB, hn] at eb
    | some o =>
      cases o with
      | lst ys =>
        obtain ⟨f1, f2, f3⟩ := inB_list eb (.inr (.inr ⟨n, rfl, hn⟩))
        obtain ⟨a, vs, rfl, _, t, r⟩ := I.rs.lst ry hn
        cases rvy
        exact in_seq_ok g I rx rvx (.inl (SqL.of t)) r f1 f2 f3 q
      | dict kvs =>
        simp only [inB, hn] at eb
        obtain ⟨hk, e1⟩ := some_if eb
        obtain ⟨a, kvh, xs, rfl, ha, hH, hz, hs, hp, hx, hd⟩ := I.dict ry hn
        cases rvy
        obtain ⟨ks, ek, _⟩ := isKey_spec hk
        subst ek
        obtain ⟨c, vs, rfl, _⟩ := id rx
        cases rvx
        have key := I.key hk rx
        have hm : s.heap.DictKeyed (nestedKind X.prog X.w) a (pairsH xs) := ⟨xs, hd, rfl⟩
        have hroom : (nestedKind X.prog X.w).room X.A.in1 := by show X.A.units + 1 + 8 < cLine; have := g.un; omega
        have e2 : (valueAt (pairsH xs) (D.tup ks).key).isSome = b := by
          rw [valueAt_pairsH, ← e1]
          rcases paired_find hp hx (.tup ks) with ⟨h1, h2⟩ | ⟨d, v, a', u, h1, h2, _⟩ <;> rw [h1, h2] <;> rfl
        cases neg with
        | false => exact in_keyed (knd := nestedKind X.prog X.w) hroom key hs hm ⟨.bl b, H, I.inv.tok _, by rw [e2]; rfl, q⟩
        | true => exact notIn_keyed (knd := nestedKind X.prog X.w) hroom key hs hm ⟨.bl (!b), H, I.inv.tok _, by rw [e2]; rfl, q⟩
      | fdict kvs =>
        simp only [inB, hn] at eb
        obtain ⟨hk, e1⟩ := some_if eb
        obtain ⟨a, kvh, xs, rfl, ha, hz, hs, hp, hx, hd⟩ := I.dictR ry (.inr hn)
        cases rvy
        obtain ⟨ks, ek, _⟩ := isKey_spec hk
        subst ek
        obtain ⟨c, vs, rfl, _⟩ := id rx
        cases rvx
        have key := I.key hk rx
        have hm : s.heap.DictKeyed (nestedKind X.prog X.w) a (pairsH xs) := ⟨xs, hd, rfl⟩
        have hroom : (nestedKind X.prog X.w).room X.A.in1 := by show X.A.units + 1 + 8 < cLine; have := g.un; omega
        have e2 : (valueAt (pairsH xs) (D.tup ks).key).isSome = b := by
          rw [valueAt_pairsH, ← e1]
          rcases paired_find hp hx (.tup ks) with ⟨h1, h2⟩ | ⟨d, v, a', u, h1, h2, _⟩ <;> rw [h1, h2] <;> rfl
        cases neg with
        | false => exact in_keyed (knd := nestedKind X.prog X.w) hroom key hs hm ⟨.bl b, H, I.inv.tok _, by rw [e2]; rfl, q⟩
        | true => exact notIn_keyed (knd := nestedKind X.prog X.w) hroom key hs hm ⟨.bl (!b), H, I.inv.tok _, by rw [e2]; rfl, q⟩
      | dks kvs =>
        cases x with
        | str c =>
          simp only [inB, hn] at eb
          have e1 : (kvs.any fun p => p.1 == c) = b := Option.some.inj eb
          obtain ⟨a, rfl, ha⟩ := ry
          obtain ⟨kvh, hH, hp⟩ := I.rs.at_ n a _ ha hn
          cases rx
          cases rvy
          have hu : X.A.units + 1 < cLine := by have := g.un; omega
          have e2 : (valV kvh (.inr c)).isSome = b := by
            rw [← e1, any_lookup]
            rcases find_dks hp c with ⟨h1, h2⟩ | ⟨d, v, h1, h2, _⟩ <;> rw [h1, h2] <;> rfl
          cases neg with
          | false => exact d_in hu I.inv (DGet.k (k := Sum.inr c) hH) rvx fun s' I' => ⟨.bl b, H, I', by rw [e2]; rfl, q⟩
          | true => exact d_notIn hu I.inv (DGet.k (k := Sum.inr c) hH) rvx fun s' I' => ⟨.bl (!b), H, I', by rw [e2]; rfl, q⟩
        | _ => simp [inB, hn] at eb
      | ins _ _ => simp [inB, hn] at eb
  | _ => cases eb
theorem op_inD' (g : Good X) : Op2 X (compareOp .In) inD := by
  intro pins s τ H ρ e σ x y vx vy ux uy I rx rvx ry rvy h
  obtain ⟨b, hb, e1⟩ := bD_nb h.nb
  show wpAny _ _ _ (EP X pins τ (GD X ρ H (bD inB x y σ))) _ _
  rw [e1]
  exact in_ok g false I rx rvx ry rvy hb (gd_ok I rfl)
theorem op_ninD' (g : Good X) : Op2 X (compareOp .NotIn) ninD := by
  intro pins s τ H ρ e σ x y vx vy ux uy I rx rvx ry rvy h
  obtain ⟨b, hb, e1⟩ := nbD_nb h.nb
  show wpAny _ _ _ (EP X pins τ (GD X ρ H (nbD inB x y σ))) _ _
  rw [e1]
  exact in_ok g true I rx rvx ry rvy hb (gd_ok I rfl)
end

/-! ### truth, tests -/
def truB (h : Hs) (d : D) : Option Bool := match d with
  | .non => some false
  | .bl b => some b
  | .int i => some (i != 0)
  | .str x => if x.length ≤ sizeLine then some ((x.length : Int) != 0) else none
  | .tup xs => some (!xs.isEmpty)
  | .lst xs => some (!xs.isEmpty)
  | .scr xs => some (!xs.isEmpty)
  | .ref n => match h[n]? with
    | some (.lst xs) => some (!xs.isEmpty)
    | some (.dks xs) => some (!xs.isEmpty)
    | _ => none
def tru (d : D) (h : Hs) : R Bool := match truB h d with
  | some b => .ok b h
  | none => .bad
/-- the test of an expression: its value's truth -/
def tE (A : Ev) : Ts := fun e h => (A e h).bind tru
def tNot (A : Ts) : Ts := fun e h => (A e h).bind fun b h1 => .ok (!b) h1
def tAnd (A B : Ts) : Ts := fun e h => (A e h).bind fun b h1 => if b then B e h1 else .ok false h1
def tOr (A B : Ts) : Ts := fun e h => (A e h).bind fun b h1 => if b then .ok true h1 else B e h1
/-- and, or, not as values -/
def eAnd (A B : Ev) : Ev := fun e h => (A e h).bind fun x h1 => (tru x h1).bind fun b h2 => if b then B e h2 else .ok x h2
def eOr (A B : Ev) : Ev := fun e h => (A e h).bind fun x h1 => (tru x h1).bind fun b h2 => if b then .ok x h2 else B e h2
def eNot (A : Ev) : Ev := fun e h => (A e h).bind fun x h1 => (tru x h1).bind fun b h2 => .ok (.bl (!b)) h2
def eIf (T : Ts) (A B : Ev) : Ev := fun e h => (T e h).bind fun b h1 => if b then A e h1 else B e h1
section
variable {X : Cx} {pos : Pos} {a b c : Expr} {A B : Ev} {TA TB : Ts} {rest : List Expr}
theorem isEmpty_rds {K ρ H} {xs : List D} {vs : List V} (r : RDs K ρ H xs vs) : vs.isEmpty = xs.isEmpty := by
  cases xs with
  | nil => cases r; rfl
  | cons x xs => obtain ⟨v, r', rfl, _⟩ := r; rfl
theorem tru_ok' {pins s τ H ρ} {e : En} {σ : Hs} {d : D} {v : V} {u : Value} {Q : Bool → Hp → Prop} (I : SR X pins ρ e σ τ H s) (r : RD X.K ρ H d v) (rv : RelV v u) (nb : tru d σ ≠ .bad)
    (q : ∀ b, tru d σ = .ok b σ → Q b H) : wpAny (model X.prog X.w) X.A (truthy u) (TP X pins τ Q) X.xe s := by
  cases hb : truB σ d with
  | none => exact absurd (by unfold tru; rw [hb]) nb
  | some k =>
    have q' : Q k H := q k (by unfold tru; rw [hb])
    refine L2.tru_ok pins s τ H v u Q I.inv rv ⟨k, ?_, q'⟩
    cases d with
    | non => cases r; exact (Option.some.inj hb).symm
    | bl _ => cases r; exact (Option.some.inj hb).symm
    | int _ => cases r; exact (Option.some.inj hb).symm
    | str x =>
      cases r
      by_cases hx : x.length ≤ sizeLine
      · simp only [truB, if_pos hx] at hb
        exact ⟨hx, (Option.some.inj hb).symm⟩
      · simp only [truB, if_neg hx] at hb; cases hb
    | tup xs =>
      obtain ⟨a, vs, rfl, t, rd⟩ := r
      exact .inr (.inl ⟨vs, t.seq, by rw [isEmpty_rds rd]; exact (Option.some.inj hb).symm⟩)
    | lst xs =>
      obtain ⟨a, vs, rfl, t, rd⟩ := r
      exact .inl ⟨vs, SqL.of t.1, by rw [isEmpty_rds rd]; exact (Option.some.inj hb).symm⟩
    | scr xs =>
      obtain ⟨a, rfl, t⟩ := r
      exact .inl ⟨_, t.seq, by have := (Option.some.inj hb).symm; rw [this]; simp⟩
    | ref n =>
      cases hn : σ[n]? with
      | none => simp [truB, hn] at hb
      | some o =>
        cases o with
        | lst ys =>
          simp only [truB, hn] at hb
          obtain ⟨a, vs, rfl, _, t, rd⟩ := I.rs.lst r hn
          exact .inl ⟨vs, SqL.of t, by rw [isEmpty_rds rd]; exact (Option.some.inj hb).symm⟩
        | dks ys =>
          simp only [truB, hn] at hb
          obtain ⟨a, rfl, ha⟩ := r
          obtain ⟨kvh, hH, hp⟩ := I.rs.at_ n a _ ha hn
          refine .inr (.inr ⟨kvh, hH, ?_⟩)
          rw [← Option.some.inj hb]
          cases hp <;> rfl
        | _ => simp [truB, hn] at hb
theorem dt_plain (ha : DE X a A) (he : ∀ whole, isTrue a X.env whole = (do let v ← whole; standAt a.pos; holding [v] (truthy v)) := by intro _; rfl) : DT X a (tE A) := by
  refine ⟨fun {pins s τ H ρ e σ} I h => isTrue_plain ?_ (he _)⟩
  refine ha.thenD I h fun d σ1 ρ1 v u H1 s1 q1 I1 x1 rd rv h1 => ?_
  exact tru_ok' I1 rd rv h1.nb fun b eb => GB.right (f := tru) q1 x1 ⟨σ1, ρ1, eb, Ext.refl, I1.rs⟩
theorem dt_cmp {op : CmpOp} {F : D → D → Hs → R D} (ho : Op2 X (compareOp op) F) (ha : DE X a A) (hb : DE X b B) (hm : behindInMarks op b = false) : DT X (.Compare a [op] [b] pos) (tE (e2 F A B)) := by
  refine ⟨fun {pins s τ H ρ e σ} I h => wpAny_isTrue_Compare1 ?_ hm⟩
  have hs : Safe X ρ H τ ((A e σ).bind fun x h1 => ((B e h1).bind fun y h2 => F x y h2).bind tru) := by
    have e1 : tE (e2 F A B) e σ = ((A e σ).bind fun x h1 => ((B e h1).bind fun y h2 => F x y h2).bind tru) := by
      unfold tE e2; cases A e σ <;> rfl
    rw [← e1]; exact h
  refine ha.thenD I hs fun x σ1 ρ1 v u H1 s1 q1 I1 x1 rd1 rv1 h1 => ?_
  refine hb.thenD I1 h1.left fun y σ2 ρ2 v' u' H2 s2 q2 I2 x2 rd2 rv2 h2 => ?_
  refine thn (ho I2 (RD.ext x2 _ _ rd1) rv1 rd2 rv2 h2) fun z s3 ⟨w, H3, i3, rw3, d3, σ3, ρ3, q3, x3, rs3, rd3⟩ => ?_
  have q12 : e2 F A B e σ = .ok d3 σ3 := by unfold e2; rw [q1]; show ((B e σ1).bind fun y h2 => F x y h2) = _; rw [q2]; exact q3
  have h3 : tru d3 σ3 ≠ .bad := fun z => h.nb (by unfold tE; rw [q12]; exact z)
  have xx := x1.trans (x2.trans x3)
  refine tru_ok' (I2.next i3 x3 rs3) rd3 rw3 h3 fun b eb => ⟨σ3, ρ3, ?_, xx, rs3⟩
  unfold tE; rw [q12]; exact eb
theorem dt_not (ha : DT X a TA) : DT X (.UnaryOp .Not a pos) (tNot TA) := by
  refine ⟨fun {pins s τ H ρ e σ} I h => isTrue_not ?_⟩
  refine ha.thenT I h fun d σ1 ρ1 H1 s1 q1 I1 x1 h1 => ⟨H1, I1.inv, GB.right (f := fun b h1 => .ok (!b) h1) q1 x1 ⟨σ1, ρ1, rfl, Ext.refl, I1.rs⟩⟩
theorem dw_and1 (ha : DT X a TA) : DW X (.BoolOp .And [a] pos) TA := by
  refine ⟨fun wh {pins s τ H ρ e σ} I h => isTrue_and (thn (ha.run I h) fun c s1 z => ?_)⟩
  cases c with
  | true => exact isTrue_and_nil z
  | false => exact z
theorem dw_or1 (ha : DT X a TA) : DW X (.BoolOp .Or [a] pos) TA := by
  refine ⟨fun wh {pins s τ H ρ e σ} I h => isTrue_or (thn (ha.run I h) fun c s1 z => ?_)⟩
  cases c with
  | false => exact isTrue_or_nil z
  | true => exact z
theorem dw_and (ha : DT X a TA) (hb : DW X (.BoolOp .And (b :: rest) pos) TB) : DW X (.BoolOp .And (a :: b :: rest) pos) (tAnd TA TB) := by
  refine ⟨fun wh {pins s τ H ρ e σ} I h => isTrue_and (ha.thenT I h fun c σ1 ρ1 H1 s1 q1 I1 x1 h1 => ?_)⟩
  cases c with
  | true => exact thn (hb.run wh I1 h1) fun z s2 t => tpi t fun v H' gb => GB.right (f := fun b h1 => if b then TB e h1 else .ok false h1) q1 x1 gb
  | false =>
    have z : GB X ρ1 H1 ((fun (b : Bool) h1 => if b = true then TB e h1 else R.ok false h1) false σ1) false H1 := ⟨σ1, ρ1, rfl, Ext.refl, I1.rs⟩
    exact ⟨H1, I1.inv, GB.right q1 x1 z⟩
theorem dw_or (ha : DT X a TA) (hb : DW X (.BoolOp .Or (b :: rest) pos) TB) : DW X (.BoolOp .Or (a :: b :: rest) pos) (tOr TA TB) := by
  refine ⟨fun wh {pins s τ H ρ e σ} I h => isTrue_or (ha.thenT I h fun c σ1 ρ1 H1 s1 q1 I1 x1 h1 => ?_)⟩
  cases c with
  | true =>
    have z : GB X ρ1 H1 ((fun (b : Bool) h1 => if b = true then R.ok true h1 else TB e h1) true σ1) true H1 := ⟨σ1, ρ1, rfl, Ext.refl, I1.rs⟩
    exact ⟨H1, I1.inv, GB.right q1 x1 z⟩
  | false => exact thn (hb.run wh I1 h1) fun z s2 t => tpi t fun v H' gb => GB.right (f := fun b h1 => if b then .ok true h1 else TB e h1) q1 x1 gb
theorem de_ifExp (hc : DT X c TA) (ha : DE X a A) (hb : DE X b B) : DE X (.IfExp c a b pos) (eIf TA A B) := by
  refine ⟨fun {pins s τ H ρ e σ} I h => wpAny_IfExp (hc.thenT I h fun k σ1 ρ1 H1 s1 q1 I1 x1 h1 => ?_)⟩
  cases k with
  | true => exact thn (ha.run I1 h1) fun z s2 t => epi t fun v H' gb => GD.right (f := fun b h1 => if b then A e h1 else B e h1) q1 x1 gb
  | false => exact thn (hb.run I1 h1) fun z s2 t => epi t fun v H' gb => GD.right (f := fun b h1 => if b then A e h1 else B e h1) q1 x1 gb
theorem de_one {op} (ha : DE X a A) : DE X (.BoolOp op [a] pos) A := ⟨fun I h => BoolOp_one (ha.run I h)⟩
theorem bad_tru {d : D} {σ : Hs} {α : Type} {f : Bool → Hs → R α} (h : ((tru d σ).bind f) ≠ .bad) : tru d σ ≠ .bad := fun z => h (by rw [z]; rfl)
theorem tru_same {d : D} {σ σ' : Hs} {b : Bool} (h : tru d σ = .ok b σ') : σ' = σ := by
  unfold tru at h
  cases q : truB σ d with
  | none => rw [q] at h; cases h
  | some k => rw [q] at h; cases h; rfl
theorem de_and (ha : DE X a A) (hb : DE X (.BoolOp .And (b :: rest) pos) B) : DE X (.BoolOp .And (a :: b :: rest) pos) (eAnd A B) := by
  refine ⟨fun {pins s τ H ρ e σ} I h => BoolOp_and (ha.thenD I h fun d σ1 ρ1 v u H1 s1 q1 I1 x1 rd rv h1 => ?_)⟩
  refine thn (tru_ok' (Q := fun k H' => H' = H1 ∧ tru d σ1 = .ok k σ1) I1 rd rv (bad_tru h1.nb) fun k ek => ⟨rfl, ek⟩) fun k s2 ⟨H2, i2, e2, ek⟩ => ?_
  subst e2
  have I2 : SR X pins ρ1 e σ1 τ H2 s2 := ⟨i2, I1.rs, I1.re⟩
  have h2 := h1.right ek Ext.refl
  cases k with
  | true => exact thn (hb.run I2 h2) fun z s2 t => epi t fun v H' gb => GD.right (f := fun x h1 => (tru x h1).bind fun b h2 => if b then B e h2 else .ok x h2) q1 x1 (GD.right (f := fun b h2 => if b then B e h2 else .ok d h2) ek Ext.refl gb)
  | false => exact ⟨v, H2, i2, rv, GD.right (f := fun x h1 => (tru x h1).bind fun b h2 => if b then B e h2 else .ok x h2) q1 x1 (GD.right (f := fun b h2 => if b then B e h2 else .ok d h2) ek Ext.refl (gd_ok I2 rd))⟩
theorem de_or (ha : DE X a A) (hb : DE X (.BoolOp .Or (b :: rest) pos) B) : DE X (.BoolOp .Or (a :: b :: rest) pos) (eOr A B) := by
  refine ⟨fun {pins s τ H ρ e σ} I h => BoolOp_or (ha.thenD I h fun d σ1 ρ1 v u H1 s1 q1 I1 x1 rd rv h1 => ?_)⟩
  refine thn (tru_ok' (Q := fun k H' => H' = H1 ∧ tru d σ1 = .ok k σ1) I1 rd rv (bad_tru h1.nb) fun k ek => ⟨rfl, ek⟩) fun k s2 ⟨H2, i2, e2, ek⟩ => ?_
  subst e2
  have I2 : SR X pins ρ1 e σ1 τ H2 s2 := ⟨i2, I1.rs, I1.re⟩
  have h2 := h1.right ek Ext.refl
  cases k with
  | false => exact thn (hb.run I2 h2) fun z s2 t => epi t fun v H' gb => GD.right (f := fun x h1 => (tru x h1).bind fun b h2 => if b then .ok x h2 else B e h2) q1 x1 (GD.right (f := fun b h2 => if b then .ok d h2 else B e h2) ek Ext.refl gb)
  | true => exact ⟨v, H2, i2, rv, GD.right (f := fun x h1 => (tru x h1).bind fun b h2 => if b then .ok x h2 else B e h2) q1 x1 (GD.right (f := fun b h2 => if b then .ok d h2 else B e h2) ek Ext.refl (gd_ok I2 rd))⟩
theorem de_not (ha : DE X a A) : DE X (.UnaryOp .Not a pos) (eNot A) := by
  refine ⟨fun {pins s τ H ρ e σ} I h => UnaryOp_ (ha.thenD I h fun d σ1 ρ1 v u H1 s1 q1 I1 x1 rd rv h1 => not_of ?_)⟩
  refine thn (tru_ok' (Q := fun k H' => H' = H1 ∧ tru d σ1 = .ok k σ1) I1 rd rv (bad_tru h1.nb) fun k ek => ⟨rfl, ek⟩) fun k s2 ⟨H2, i2, e2, ek⟩ => ?_
  subst e2
  have I2 : SR X pins ρ1 e σ1 τ H2 s2 := ⟨i2, I1.rs, I1.re⟩
  exact ⟨.bl (!k), H2, i2, rfl, GD.right (f := fun x h1 => (tru x h1).bind fun b h2 => .ok (.bl (!b)) h2) q1 x1 (GD.right (f := fun b h2 => .ok (.bl (!b)) h2) ek Ext.refl (gd_ok I2 rfl))⟩
end
end Lb

set_option Elab.async false
set_option linter.all false
set_option maxRecDepth 100000
set_option maxHeartbeats 4000000
namespace Lb
open PySem PySem.Spec PyProof.Rows L2

/-! ### argument lists, tuples, lists -/
def aNil : Es := fun _ h => .ok [] h
def aCons (A : Ev) (B : Es) : Es := fun e h => (A e h).bind fun x h1 => (B e h1).bind fun xs h2 => .ok (x :: xs) h2
def eTup (A : Es) : Ev := fun e h => (A e h).bind fun xs h1 => if xs.length ≤ sizeLine then .ok (.tup xs) h1 else .bad
/-- a list that is settled at once; one that may change -/
abbrev Ln := En → Hs → R (List D)
def eFroz (A : Ln) : Ev := fun e h => (A e h).bind fun xs h1 => .ok (.lst xs) h1
def eMut (A : Ln) : Ev := fun e h => (A e h).bind fun xs h1 => .ok (.ref h1.length) (h1 ++ [.lst xs])
def lDisp (A : Es) : Ln := fun e h => (A e h).bind fun xs h1 => if xs.length ≤ sizeLine then .ok xs h1 else .bad
/-- a new list comes -/
def GN (X : Cx) (ρ : List Addr) (H : Hp) (r : R (List D)) : VK := fun v H' => ∃ ds σ' ρ' H1 p vs, r = .ok ds σ' ∧ Ext ρ ρ' H H1 ∧ RS X.prog X.w X.K X.mg ρ' σ' H1 ∧ RDs X.K ρ' H1 ds vs ∧ H1 p = none ∧ v = .ref p ∧ H' = upd H1 p (.lst vs)
structure DN (X : Cx) (x : Expr) (E : Ln) : Prop where
  run : ∀ {pins s τ H ρ e σ}, SR X pins ρ e σ τ H s → Safe X ρ H τ (E e σ) → wpAny (model X.prog X.w) X.A (eval x X.env) (EP X pins τ (GN X ρ H (E e σ))) X.xe s
section
variable {X : Cx} {pos : Pos} {a b : Expr} {A B : Ev} {es : List Expr} {AS : Es} {L : Ln}
theorem da_nil : DA X [] aNil := ⟨fun pos {pins s τ H ρ e σ} I _ => Calls.spliced_nil ⟨[], H, I.inv, .nil, [], σ, ρ, rfl, Ext.refl, I.rs, rfl⟩⟩
theorem da_cons (ha : DE X a A) (hr : DA X es AS) (hs : starEach (a :: es) X.env = (false, eval a X.env) :: starEach es X.env := by rfl) : DA X (a :: es) (aCons A AS) := by
  refine ⟨fun pos {pins s τ H ρ e σ} I h => ?_⟩
  rw [hs]
  show wpAny _ _ (spliced ((false, eval a X.env) :: backTo pos (starEach es X.env))) _ _ s
  refine Calls.spliced_cons (ha.thenD I h fun d σ1 ρ1 v u H1 s1 q1 I1 x1 rd rv h1 => ?_)
  refine hr.thenA pos I1 h1 fun ds σ2 ρ2 vs us H2 s2 q2 I2 x2 rds rvs h2 => ?_
  exact ⟨v :: vs, H2, I2.inv, .cons rv rvs, GA.right (f := fun x h1 => (AS e h1).bind fun xs h2 => .ok (x :: xs) h2) q1 x1 (GA.right (f := fun xs h2 => .ok (d :: xs) h2) q2 x2 ⟨_, σ2, ρ2, rfl, Ext.refl, I2.rs, v, vs, rfl, RD.ext x2 _ _ rd, rds⟩)⟩
theorem de_tup {x1} (ha : DA X es AS) : DE X (.Tuple es x1 pos) (eTup AS) := by
  refine ⟨fun {pins s τ H ρ e σ} I h => wpAny_Tuple_spliced (ha.thenA pos I h fun ds σ1 ρ1 vs us H1 s1 q1 I1 x1 rds rvs h1 => ?_)⟩
  have hz := nbad h1.nb
  have hl : us.length = ds.length := by rw [← rvs.length, rds.length]
  refine ⟨by rw [hl]; exact hz, ?_⟩
  have hf : H1 s1.heap.objs.size = none := I1.inv.hok.fresh (Nat.le_refl _)
  refine ⟨.ref s1.heap.objs.size, upd H1 s1.heap.objs.size (.tup vs), I1.inv.laid (t' := s1.toks) (fun b u e => Heap.get?_push_of_some _ e) (Nat.le_refl _) ?_, rfl, ?_⟩
  · exact ⟨by rw [← rds.length]; exact hz, us, rvs, ⟨_, Heap.get?_push_size _ rfl, rfl, _, rfl⟩⟩
  · refine GD.right (f := fun xs h1 => if xs.length ≤ sizeLine then .ok (.tup xs) h1 else .bad) q1 x1 ?_
    show GD X ρ1 H1 (if ds.length ≤ sizeLine then .ok (.tup ds) σ1 else .bad) _ _
    rw [if_pos hz]
    exact gd_tup I1 hf rds
theorem dn_disp (ha : DA X es AS) : DN X (.List es pos) (lDisp AS) := by
  refine ⟨fun {pins s τ H ρ e σ} I h => wpAny_List_spliced (ha.thenA pos I h fun ds σ1 ρ1 vs us H1 s1 q1 I1 x1 rds rvs h1 => ?_)⟩
  have hz := nbad h1.nb
  have hl : us.length = ds.length := by rw [← rvs.length, rds.length]
  refine ⟨by rw [hl]; exact hz, ?_⟩
  have hf : H1 s1.heap.objs.size = none := I1.inv.hok.fresh (Nat.le_refl _)
  refine ⟨.ref s1.heap.objs.size, upd H1 s1.heap.objs.size (.lst vs), I1.inv.laid (t' := s1.toks) (fun b u e => Heap.get?_push_of_some _ e) (Nat.le_refl _) ?_, rfl, ?_⟩
  · exact ⟨by rw [← rds.length]; exact hz, us, 0, rvs, Heap.get?_push_size _ rfl⟩
  · refine ⟨ds, σ1, ρ1, H1, _, vs, ?_, x1, I1.rs, rds, hf, rfl, rfl⟩
    unfold lDisp
    rw [q1]
    exact if_pos hz
theorem safe_froz {ρ H τ} {r : R (List D)} (h : Safe X ρ H τ (r.bind fun xs h1 => R.ok (D.lst xs) h1)) : Safe X ρ H τ r := h.left
theorem de_froz (hx : DN X a L) : DE X a (eFroz L) := by
  refine ⟨fun {pins s τ H ρ e σ} I h => ?_⟩
  refine thn (hx.run I h.left) fun u s1 t => epi t fun v H' ⟨ds, σ', ρ', H1, p, vs, q, x, rs, rd, hp, ev, eH⟩ => ?_
  subst ev eH
  refine GD.right (f := fun xs h1 => .ok (.lst xs) h1) q x ?_
  exact ⟨_, σ', ρ', rfl, Ext.laid hp, rs.laid hp, p, vs, rfl, ⟨upd_same, rs.free hp⟩, RDs.ext (Ext.laid hp) _ _ rd⟩
theorem de_mut (hx : DN X a L) : DE X a (eMut L) := by
  refine ⟨fun {pins s τ H ρ e σ} I h => ?_⟩
  refine thn (hx.run I h.left) fun u s1 t => epi t fun v H' ⟨ds, σ', ρ', H1, p, vs, q, x, rs, rd, hp, ev, eH⟩ => ?_
  subst ev eH
  refine GD.right (f := fun xs h1 => .ok (.ref h1.length) (h1 ++ [.lst xs])) q x ?_
  refine ⟨_, _, ρ' ++ [p], rfl, Ext.new hp, rs.new hp ⟨vs, upd_same, RDs.ext (Ext.new hp) _ _ rd⟩, p, rfl, ?_⟩
  show (ρ' ++ [p])[σ'.length]? = some p
  rw [← rs.len, List.getElem?_append_right (Nat.le_refl _)]
  simp
end

/-! ### items and slices -/
def ixD (x y : D) (h : Hs) : R D := match x, y with
  | .str z, .int i => if z.length ≤ sizeLine then (match atI z.cps.toList i with | some c => .ok (.str ⟨#[c]⟩) h | none => .bad) else .bad
  | x, .int i => match seqOf h x with
    | some xs => (match atI xs i with | some d => .ok d h | none => .bad)
    | none => .bad
  | .ref n, y => match h[n]? with
    | some (.dict kvs) => if y.isKey then (match dget kvs y with | some d => .ok d h | none => .bad) else .bad
    | some (.fdict kvs) => if y.isKey then (match dget kvs y with | some d => .ok d h | none => .bad) else .bad
    | some (.dks kvs) => (match y with
      | .str a => (match kvs.lookup a with | some d => .ok d h | none => .bad)
      | _ => .bad)
    | _ => .bad
  | _, _ => .bad
theorem RDs.atI {K : PySem.W.Frag} {ρ : List Addr} {H : Hp} {xs : List D} {vs : List V} {i : Int} {d : D} (r : RDs K ρ H xs vs) (e : L2.atI xs i = some d) : ∃ v, L2.atI vs i = some v ∧ RD K ρ H d v := by
  unfold L2.atI at e ⊢
  rw [← r.length]
  cases q : ixN xs.length i with
  | none => rw [q] at e; cases e
  | some j =>
    rw [q] at e
    exact r.get e
/-- a subscript by values -/
def IxD (X : Cx) (F : D → D → Hs → R D) : Prop :=
  ∀ (value slice : Expr) {pins s τ H ρ e σ x y vx vy ux uy}, SR X pins ρ e σ τ H s → RD X.K ρ H x vx → RelV vx ux → RD X.K ρ H y vy → RelV vy uy → Safe X ρ H τ (F x y σ) →
    (subscripted slice false ux uy = operate [ux, uy] (getItem ux uy)) → wpAny (model X.prog X.w) X.A (subscriptTail value slice ux uy) (EP X pins τ (GD X ρ H (F x y σ))) X.xe s
section
variable {X : Cx} {pos : Pos} {a b : Expr} {A B : Ev}
theorem ixD_ok (g : Good X) : IxD X ixD := by
  intro value slice pins s τ H ρ e σ x y vx vy ux uy I rx rvx ry rvy h hs
  have seqs : ∀ i, y = .int i → ixD x y σ = (match seqOf σ x with | some xs => (match atI xs i with | some d => .ok d σ | none => .bad) | none => .bad) → wpAny (model X.prog X.w) X.A (subscriptTail value slice ux uy) (EP X pins τ (GD X ρ H (ixD x y σ))) X.xe s := by
    intro i ey e1
    subst ey
    rw [e1] at h ⊢
    cases hx : seqOf σ x with
    | none => rw [hx] at h; exact absurd rfl h.nb
    | some xs =>
      rw [hx] at h
      dsimp only at h ⊢
      cases ha : atI xs i with
      | none => rw [ha] at h; exact absurd rfl h.nb
      | some d =>
        dsimp only
        obtain ⟨p, vs, rfl, hq, rds⟩ := seq_at I.rs rx hx
        obtain ⟨v, hv, rd⟩ := rds.atI ha
        cases ry
        rcases hq with hq | hq
        · exact ix_list value slice pins s τ H _ _ ux uy _ I.inv rvx rvy ⟨p, vs, i, v, rfl, rfl, hq, hv, gd_ok I rd⟩ hs
        · exact ix_tup value slice pins s τ H _ _ ux uy _ I.inv rvx rvy ⟨p, vs, i, v, rfl, rfl, hq, hv, gd_ok I rd⟩ hs
  cases y with
  | int i =>
    cases x with
    | str z =>
      by_cases hz : z.length ≤ sizeLine
      · cases ha : atI z.cps.toList i with
        | none => exact absurd (by simp only [ixD, if_pos hz, ha]) h.nb
        | some c =>
          have e1 : ixD (.str z) (.int i) σ = .ok (.str ⟨#[c]⟩) σ := by simp only [ixD, if_pos hz, ha]
          rw [e1]
          cases rx
          cases ry
          exact ix_str value slice pins s τ H _ _ ux uy _ I.inv rvx rvy ⟨z, i, c, rfl, rfl, hz, ha, gd_ok I rfl⟩ hs
      · exact absurd (by simp only [ixD, if_neg hz]) h.nb
    | _ => exact seqs i rfl rfl
  | tup ks =>
    cases x with
    | ref n =>
      cases hn : σ[n]? with
      | none => exact absurd (by simp only [ixD, hn]) h.nb
      | some o =>
        cases o with
        | dict kvs =>
          by_cases hk : (D.tup ks).isKey = true
          · cases hg : dget kvs (.tup ks) with
            | none => exact absurd (by simp only [ixD, hn, if_pos hk, hg]) h.nb
            | some d =>
              have e1 : ixD (.ref n) (.tup ks) σ = .ok d σ := by simp only [ixD, hn, if_pos hk, hg]
              rw [e1]
              obtain ⟨p, kvh, xs, rfl, ha, hH, hz, hsm, hp, hx, hd⟩ := I.dict rx hn
              obtain ⟨c, vs, rfl, _⟩ := id ry
              cases rvx
              cases rvy
              have key := I.key hk ry
              have hroom : (nestedKind X.prog X.w).room X.A.in1 := by show X.A.units + 1 + 8 < cLine; have := g.un; omega
              rcases paired_find hp hx (.tup ks) with ⟨h1, _⟩ | ⟨d', v, a', u, h1, h2, rd, rv⟩
              · rw [h1] at hg; cases hg
              · rw [h1] at hg; cases hg
                obtain ⟨o, es, ep, e1, e2, e3, _⟩ := id hd
                refine tail_any (T := "dict") (id := "dict.__getitem__") hd.typeIs (by first | exact F.slot_dict_getitem.lookup | exact PySem.F.slot_dict_getitem.lookup) (wpAny_getItem_heap (knd := nestedKind X.prog X.w) hroom key hd h2 ?_) hs
                exact ⟨v, H, I.inv.tok _, rv, gd_ok I rd⟩
          · exact absurd (by simp only [ixD, hn, if_neg hk]) h.nb
        | fdict kvs =>
          by_cases hk : (D.tup ks).isKey = true
          · cases hg : dget kvs (.tup ks) with
            | none => exact absurd (by simp only [ixD, hn, if_pos hk, hg]) h.nb
            | some d =>
              have e1 : ixD (.ref n) (.tup ks) σ = .ok d σ := by simp only [ixD, hn, if_pos hk, hg]
              rw [e1]
              obtain ⟨p, kvh, xs, rfl, ha, hz, hsm, hp, hx, hd⟩ := I.dictR rx (.inr hn)
              obtain ⟨c, vs, rfl, _⟩ := id ry
              cases rvx
              cases rvy
              have key := I.key hk ry
              have hroom : (nestedKind X.prog X.w).room X.A.in1 := by show X.A.units + 1 + 8 < cLine; have := g.un; omega
              rcases paired_find hp hx (.tup ks) with ⟨h1, _⟩ | ⟨d', v, a', u, h1, h2, rd, rv⟩
              · rw [h1] at hg; cases hg
              · rw [h1] at hg; cases hg
                obtain ⟨o, es, ep, e1, e2, e3, _⟩ := id hd
                refine tail_any (T := "dict") (id := "dict.__getitem__") hd.typeIs (by first | exact F.slot_dict_getitem.lookup | exact PySem.F.slot_dict_getitem.lookup) (wpAny_getItem_heap (knd := nestedKind X.prog X.w) hroom key hd h2 ?_) hs
                exact ⟨v, H, I.inv.tok _, rv, gd_ok I rd⟩
          · exact absurd (by simp only [ixD, hn, if_neg hk]) h.nb
        | _ => exact absurd (by simp only [ixD, hn]) h.nb
    | _ => exact absurd rfl h.nb
  | str z =>
    cases x with
    | ref n =>
      cases hn : σ[n]? with
      | none => exact absurd (by simp only [ixD, hn]) h.nb
      | some o =>
        cases o with
        | dks kvs =>
          cases hg : kvs.lookup z with
          | none => exact absurd (by simp only [ixD, hn, hg]) h.nb
          | some d =>
            have e1 : ixD (.ref n) (.str z) σ = .ok d σ := by simp only [ixD, hn, hg]
            rw [e1]
            obtain ⟨p, rfl, ha⟩ := rx
            obtain ⟨kvh, hH, hp⟩ := I.rs.at_ n p _ ha hn
            cases rvx
            cases ry
            have hu : X.A.units + 1 < cLine := by have := g.un; omega
            rcases find_dks hp z with ⟨h1, _⟩ | ⟨d', v, h1, h2, rd⟩
            · rw [h1] at hg; cases hg
            · rw [h1] at hg; cases hg
              have gk : DGet H p (kV (.inr z)) (some v) := by have := DGet.k (k := Sum.inr z) hH; rw [h2] at this; exact this
              exact tail_any (T := "dict") (id := "dict.__getitem__") (dict_typeIs I.inv gk) (by first | exact F.slot_dict_getitem.lookup | exact PySem.F.slot_dict_getitem.lookup) (d_getItem hu I.inv gk rvy fun w' s' I' rw' => ⟨v, H, I', rw', gd_ok I rd⟩) hs
        | dict kvs => exact absurd (by simp [ixD, hn, D.isKey]) h.nb
        | fdict kvs => exact absurd (by simp [ixD, hn, D.isKey]) h.nb
        | _ => exact absurd (by simp only [ixD, hn]) h.nb
    | _ => exact absurd rfl h.nb
  | _ =>
    cases x with
    | ref n =>
      cases hn : σ[n]? with
      | none => exact absurd (by simp only [ixD, hn]) h.nb
      | some o => cases o <;> exact absurd (by simp [ixD, hn, D.isKey]) h.nb
    | _ => exact absurd rfl h.nb
theorem de_ix {F : D → D → Hs → R D} (hF : IxD X F) (ha : DE X a A) (hb : DE X b B) (hs : PlainIx b) : DE X (.Subscript a b pos) (e2 F A B) := by
  refine ⟨fun {pins s τ H ρ e σ} I h => Subscript_ ?_⟩
  refine ha.thenD I h fun x σ1 ρ1 v u H1 s1 q1 I1 x1 rd1 rv1 h1 => ?_
  refine hb.thenD I1 h1 fun y σ2 ρ2 v' u' H2 s2 q2 I2 x2 rd2 rv2 h2 => ?_
  refine thn (hF a b I2 (RD.ext x2 _ _ rd1) rv1 rd2 rv2 h2 (hs _ _)) fun z s3 t => epi t fun v H' gd => ?_
  exact GD.right (f := fun x h1 => (B e h1).bind fun y h2 => F x y h2) q1 x1 (GD.right (f := fun y h2 => F x y h2) q2 x2 gd)
end

/-- a part of a slice -/
abbrev Po := En → Hs → R (Option Int)
def pNo : Po := fun _ h => .ok none h
def pSome (A : Ev) : Po := fun e h => (A e h).bind fun x h1 => match x with
  | .int i => .ok (some i) h1
  | _ => .bad
def cutD (xs : List D) (lo hi : Option Int) : List D := (xs.drop (HT.sIx xs.length 0 lo)).take (HT.sIx xs.length xs.length hi - HT.sIx xs.length 0 lo)
/-- x[lo:hi] of a tuple or a text; of a list: lSlice -/
def sliceD (x : D) (lo hi : Option Int) (h : Hs) : R D := match x with
  | .tup xs => .ok (.tup (cutD xs lo hi)) h
  | .str z => if z.length ≤ sizeLine then .ok (.str (cutS z lo hi)) h else .bad
  | _ => .bad
def lSliceD (x : D) (lo hi : Option Int) (h : Hs) : R (List D) := match listOf h x with
  | some xs => .ok (cutD xs lo hi) h
  | none => .bad
def eSlice (A : Ev) (P Q : Po) : Ev := fun e h => (A e h).bind fun x h1 => (P e h1).bind fun lo h2 => (Q e h2).bind fun hi h3 => sliceD x lo hi h3
def lSlice (A : Ev) (P Q : Po) : Ln := fun e h => (A e h).bind fun x h1 => (P e h1).bind fun lo h2 => (Q e h2).bind fun hi h3 => lSliceD x lo hi h3
structure DP (X : Cx) (x : Option Expr) (E : Po) : Prop where
  run : ∀ {pins s τ H ρ e σ}, SR X pins ρ e σ τ H s → Safe X ρ H τ (E e σ) → wpAny (model X.prog X.w) X.A (evalPart x X.env) (fun v s' => ∃ o σ' ρ' H', E e σ = .ok o σ' ∧ Inv X pins τ H' s' ∧ Ext ρ ρ' H H' ∧ RS X.prog X.w X.K X.mg ρ' σ' H' ∧ IsPart v o) X.xe s
end Lb

set_option Elab.async false
set_option linter.all false
set_option maxRecDepth 100000
set_option maxHeartbeats 4000000
namespace Lb
open PySem PySem.Spec PyProof.Rows L2
section
variable {X : Cx} {pos p2 : Pos} {a b : Expr} {A B : Ev} {lo hi : Option Expr} {PA PB : Po}
theorem dp_none : DP X none pNo := ⟨fun {pins s τ H ρ e σ} I h => by
  rw [evalPart_none]
  exact wpAny_pure ⟨none, σ, ρ, H, rfl, I.inv, Ext.refl, I.rs, .none⟩⟩
theorem dp_some (ha : DE X a A) : DP X (some a) (pSome A) := ⟨fun {pins s τ H ρ e σ} I h => by
  rw [evalPart_some]
  refine ha.thenD I h fun d σ1 ρ1 v u H1 s1 q1 I1 x1 rd rv h1 => ?_
  cases d with
  | int i =>
    cases rd
    obtain ⟨t, rfl⟩ := rv
    exact ⟨some i, σ1, ρ1, H1, by unfold pSome; rw [q1]; rfl, I1.inv, x1, I1.rs, .int i t⟩
  | _ => exact absurd rfl h1.nb⟩
theorem DP.thenP {x : Option Expr} {A : Po} (hx : DP X x A) {pins s τ H ρ} {e : En} {σ : Hs} {α : Type} {F : Option Int → Hs → R α} {f : Value → Shared → Prop} (I : SR X pins ρ e σ τ H s) (h : Safe X ρ H τ ((A e σ).bind F))
    (k : ∀ d σ1 ρ1 u H1 s1, A e σ = .ok d σ1 → SR X pins ρ1 e σ1 τ H1 s1 → Ext ρ ρ1 H H1 → IsPart u d → Safe X ρ1 H1 τ (F d σ1) → f u s1) :
    wpAny (model X.prog X.w) X.A (evalPart x X.env) f X.xe s := by
  refine thn (hx.run I h.left) fun u s1 ⟨d, σ1, ρ1, H1, q1, i, x1, rs, ip⟩ => ?_
  exact k d σ1 ρ1 u H1 s1 q1 (I.next i x1 rs) x1 ip (h.right q1 x1)
theorem rds_cut {K : PySem.W.Frag} {ρ : List Addr} {H : Hp} {xs : List D} {vs : List V} (r : RDs K ρ H xs vs) (lo hi : Option Int) : RDs K ρ H (cutD xs lo hi) (cutV vs lo hi) := by
  unfold cutD cutV
  rw [r.length]
  exact (r.drop _).take _
theorem cutD_whole {xs : List D} {lo hi : Option Int} (h : HT.sIx xs.length 0 lo = 0 ∧ HT.sIx xs.length xs.length hi = xs.length) : cutD xs lo hi = xs := by
  unfold cutD; rw [h.1, h.2]; simp
/-- what a slice asks -/
theorem slice_core {α : Type} {F : D → Option Int → Option Int → Hs → R α} {G : R α → List Addr → Hp → VK} (ha : DE X a A) (hl : DP X lo PA) (hu : DP X hi PB)
    (hr : ∀ {pins s τ H ρ e σ x l u v w vl vu} (sl : Addr), SR X pins ρ e σ τ H s → RD X.K ρ H x v → RelV v w → s.heap.IsSliceOf sl vl vu .none → IsPart vl l → IsPart vu u → Safe X ρ H τ (F x l u σ) →
      ∃ T id, typeLookup (.type T) "__getitem__" = pure (some (.builtin id)) ∧ s.TypeIs w T ∧ wpAny (model X.prog X.w) X.A (getItem w (.ref sl)) (EP X pins τ (G (F x l u σ) ρ H)) X.xe s)
    (hG : ∀ {β : Type} {ρ ρ1 H H1 σ1} {r : R β} {f : β → Hs → R α} {b : β} {v H'}, r = .ok b σ1 → Ext ρ ρ1 H H1 → G (f b σ1) ρ1 H1 v H' → G (r.bind f) ρ H v H')
    {pins s τ H ρ} {e : En} {σ : Hs} (I : SR X pins ρ e σ τ H s) (h : Safe X ρ H τ ((A e σ).bind fun x h1 => (PA e h1).bind fun lo h2 => (PB e h2).bind fun hi h3 => F x lo hi h3)) :
    wpAny (model X.prog X.w) X.A (eval (.Subscript a (.Slice lo hi none p2) pos) X.env) (EP X pins τ (G ((A e σ).bind fun x h1 => (PA e h1).bind fun lo h2 => (PB e h2).bind fun hi h3 => F x lo hi h3) ρ H)) X.xe s := by
  refine Subscript_ (ha.thenD I h fun x σ1 ρ1 v w H1 s1 q1 I1 x1 rd rv h1 => ?_)
  refine wpAny_Slice (hl.thenP I1 h1 fun l σ2 ρ2 vl H2 s2 q2 I2 x2 pl h2 => hu.thenP I2 h2 fun u σ3 ρ3 vu H3 s3 q3 I3 x3 pu h3 => ?_)
  rw [evalPart_none]
  refine wpAny_pure ?_
  have I4 : SR X pins ρ3 e σ3 τ H3 { s3 with heap := s3.heap.push { cls := .type "slice", data := .fields #[vl, vu, .none] } } := ⟨I3.inv.kept (t' := s3.toks) fun b ob q => Heap.get?_push_of_some _ q, I3.rs, I3.re⟩
  obtain ⟨T, id, hT, ht, hg⟩ := hr s3.heap.objs.size I4 (RD.ext (x2.trans x3) _ _ rd) rv (Heap.IsSliceOf.new ..) pl pu h3
  show wpAny (model X.prog X.w) X.A (subscriptTail a (.Slice lo hi none p2) w (.ref s3.heap.objs.size)) _ X.xe { s3 with heap := s3.heap.push { cls := .type "slice", data := .fields #[vl, vu, .none] } }
  refine tail_any (ops := [.ref s3.heap.objs.size, w]) ht hT (thn hg fun z s5 t => epi t fun v' H' g => ?_) (by with_unfolding_all rfl)
  exact hG q1 x1 (hG (f := fun lo h2 => (PB e h2).bind fun hi h3 => F x lo hi h3) q2 x2 (hG (f := fun hi h3 => F x l hi h3) q3 x3 g))
theorem de_slice (ha : DE X a A) (hl : DP X lo PA) (hu : DP X hi PB) : DE X (.Subscript a (.Slice lo hi none p2) pos) (eSlice A PA PB) := by
  refine ⟨fun {pins s τ H ρ e σ} I h => slice_core (F := sliceD) (G := fun r ρ H => GD X ρ H r) ha hl hu ?_ (fun e1 x1 g => GD.right e1 x1 g) I h⟩
  intro pins s τ H ρ e σ x l u v w vl vu sl I rd rv hs pl pu h
  cases x with
  | tup xs =>
    obtain ⟨p, vs, rfl, t, rds⟩ := id rd
    refine sl_tupA pins s τ H _ w vl vu l u sl _ I.inv rv hs pl pu ⟨p, vs, rfl, t.seq, fun hw => ?_, fun hw q hq => gd_tup I hq (rds_cut rds l u)⟩
    rw [← rds.length] at hw
    show GD X ρ H (.ok (.tup (cutD xs l u)) σ) _ _
    rw [cutD_whole hw]
    exact gd_ok I rd
  | str z =>
    have hz : z.length ≤ sizeLine := nbad (x := D.str (cutS z l u)) (h := σ) (by simpa only [sliceD] using h.nb)
    have e1 : sliceD (.str z) l u σ = .ok (.str (cutS z l u)) σ := by simp only [sliceD, if_pos hz]
    rw [e1]
    cases rd
    exact sl_str pins s τ H _ w vl vu l u sl _ I.inv rv hs pl pu ⟨z, rfl, hz, gd_ok I rfl⟩
  | _ => exact absurd rfl h.nb
theorem GN.right {α : Type} {ρ ρ1 H H1 σ1} {r : R α} {f : α → Hs → R (List D)} {c : α} (er : r = .ok c σ1) (x : Ext ρ ρ1 H H1) {v H'} (h : GN X ρ1 H1 (f c σ1) v H') : GN X ρ H (r.bind f) v H' := by
  obtain ⟨d, σ', ρ', H2, p, vs, e1, x', q⟩ := h
  exact ⟨d, σ', ρ', H2, p, vs, by rw [er]; exact e1, x.trans x', q⟩
theorem gn_ok {pins s τ H ρ} {e : En} {σ : Hs} (I : SR X pins ρ e σ τ H s) {ds : List D} {vs : List V} {p : Addr} (hp : H p = none) (r : RDs X.K ρ H ds vs) : GN X ρ H (.ok ds σ) (.ref p) (upd H p (.lst vs)) :=
  ⟨ds, σ, ρ, H, p, vs, rfl, Ext.refl, I.rs, r, hp, rfl, rfl⟩
theorem dn_slice (ha : DE X a A) (hl : DP X lo PA) (hu : DP X hi PB) : DN X (.Subscript a (.Slice lo hi none p2) pos) (lSlice A PA PB) := by
  refine ⟨fun {pins s τ H ρ e σ} I h => slice_core (F := lSliceD) (G := fun r ρ H => GN X ρ H r) ha hl hu ?_ (fun e1 x1 g => GN.right e1 x1 g) I h⟩
  intro pins s τ H ρ e σ x l u v w vl vu sl I rd rv hs pl pu h
  cases hx : listOf σ x with
  | none => exact absurd (by simp only [lSliceD, hx]) h.nb
  | some xs =>
    have e1 : lSliceD x l u σ = .ok (cutD xs l u) σ := by simp only [lSliceD, hx]
    rw [e1]
    obtain ⟨p, vs, rfl, hq, rds⟩ := list_at I.rs rd hx
    exact sl_list pins s τ H _ w vl vu l u sl _ I.inv rv hs pl pu ⟨p, vs, rfl, hq, fun q hq => gn_ok I hq (rds_cut rds l u)⟩
end

/-! ### built-ins called by their names -/
/-- f(es) of a built-in function, a built-in class -/
def eCall (F : List D → Hs → R D) (A : Es) : Ev := fun e h => (A e h).bind F
def lCall (F : List D → Hs → R (List D)) (A : Es) : Ln := fun e h => (A e h).bind F
/-- a call that gives a new list -/
def OpL (X : Cx) (f : Value) (F : List D → Hs → R (List D)) : Prop :=
  ∀ {pins s τ H ρ e σ xs vs us}, SR X pins ρ e σ τ H s → RDs X.K ρ H xs vs → Vals vs us → Safe X ρ H τ (F xs σ) →
    wpAny (model X.prog X.w) X.A (call f us) (EP X pins τ (GN X ρ H (F xs σ))) X.xe s
section
variable {X : Cx} {pos p : Pos} {a : Expr} {es : List Expr} {AS : Es} {x : Str} {id T : String} {F : List D → Hs → R D} {FL : List D → Hs → R (List D)}
theorem de_callB (ho : OpN X (.builtin id) F) (hg : Gl X x) (hm : X.mg x = none) (hv : bootBuiltins x = some (.builtin id)) (ha : DA X (a :: es) AS) (hn : x ≠ "__name__" := by decide) (hdb : (x == ("__debug__" : Str)) = false := by decide)
    (he : starEach (a :: es) X.env = (false, eval a X.env) :: starEach es X.env := by rfl) (hpl : (backTo pos (starEach es X.env)).any (·.1) = false := by rfl) : DE X (.Call (.Name x p) (a :: es) [] pos) (eCall F AS) := by
  refine ⟨fun {pins s τ H ρ e σ} I h => wpAny_Call_Name_kw (ld_blt I.inv hg hm hv ?_ hn hdb)⟩
  refine PyProof.Rows.callWith_builtin1 (ha.thenA pos I h fun ds σ1 ρ1 vs us H1 s1 q1 I1 x1 rds rvs h1 => ?_) he hpl
  exact thn (ho I1 rds rvs h1) fun z s2 t => epi t fun v H' g => GD.right (f := F) q1 x1 g
theorem de_callTy (ho : OpN X (.type T) F) (hg : Gl X x) (hm : X.mg x = none) (hv : bootBuiltins x = some (.type T)) (ha : DA X (a :: es) AS) (hn : x ≠ "__name__" := by decide) (hdb : (x == ("__debug__" : Str)) = false := by decide)
    (he : starEach (a :: es) X.env = (false, eval a X.env) :: starEach es X.env := by rfl) (hpl : (backTo pos (starEach es X.env)).any (·.1) = false := by rfl) : DE X (.Call (.Name x p) (a :: es) [] pos) (eCall F AS) := by
  refine ⟨fun {pins s τ H ρ e σ} I h => wpAny_Call_Name_kw (ld_blt I.inv hg hm hv ?_ hn hdb)⟩
  refine PyProof.Rows.callWith_type1 (ha.thenA pos I h fun ds σ1 ρ1 vs us H1 s1 q1 I1 x1 rds rvs h1 => ?_) he hpl
  exact thn (ho I1 rds rvs h1) fun z s2 t => epi t fun v H' g => GD.right (f := F) q1 x1 g
theorem dn_callB (ho : OpL X (.builtin id) FL) (hg : Gl X x) (hm : X.mg x = none) (hv : bootBuiltins x = some (.builtin id)) (ha : DA X (a :: es) AS) (hn : x ≠ "__name__" := by decide) (hdb : (x == ("__debug__" : Str)) = false := by decide)
    (he : starEach (a :: es) X.env = (false, eval a X.env) :: starEach es X.env := by rfl) (hpl : (backTo pos (starEach es X.env)).any (·.1) = false := by rfl) : DN X (.Call (.Name x p) (a :: es) [] pos) (lCall FL AS) := by
  refine ⟨fun {pins s τ H ρ e σ} I h => wpAny_Call_Name_kw (ld_blt I.inv hg hm hv ?_ hn hdb)⟩
  refine PyProof.Rows.callWith_builtin1 (ha.thenA pos I h fun ds σ1 ρ1 vs us H1 s1 q1 I1 x1 rds rvs h1 => ?_) he hpl
  exact thn (ho I1 rds rvs h1) fun z s2 t => epi t fun v H' g => GN.right (f := FL) q1 x1 g
theorem dn_callTy (ho : OpL X (.type T) FL) (hg : Gl X x) (hm : X.mg x = none) (hv : bootBuiltins x = some (.type T)) (ha : DA X (a :: es) AS) (hn : x ≠ "__name__" := by decide) (hdb : (x == ("__debug__" : Str)) = false := by decide)
    (he : starEach (a :: es) X.env = (false, eval a X.env) :: starEach es X.env := by rfl) (hpl : (backTo pos (starEach es X.env)).any (·.1) = false := by rfl) : DN X (.Call (.Name x p) (a :: es) [] pos) (lCall FL AS) := by
  refine ⟨fun {pins s τ H ρ e σ} I h => wpAny_Call_Name_kw (ld_blt I.inv hg hm hv ?_ hn hdb)⟩
  refine PyProof.Rows.callWith_type1 (ha.thenA pos I h fun ds σ1 ρ1 vs us H1 s1 q1 I1 x1 rds rvs h1 => ?_) he hpl
  exact thn (ho I1 rds rvs h1) fun z s2 t => epi t fun v H' g => GN.right (f := FL) q1 x1 g
end

end Lb

set_option Elab.async false
set_option linter.all false
set_option maxRecDepth 100000
set_option maxHeartbeats 400000
namespace Lb
open PySem PySem.Spec PyProof.Rows L2
def lenD (xs : List D) (h : Hs) : R D := match xs with
  | [.str z] => if z.length ≤ sizeLine then .ok (.int z.length) h else .bad
  | [x] => match seqOf h x with
    | some ys => .ok (.int ys.length) h
    | none => .bad
  | _ => .bad
def max2D (xs : List D) (h : Hs) : R D := match xs with
  | [.int i, .int j] => .ok (.int (if j > i then j else i)) h
  | _ => .bad
def min2D (xs : List D) (h : Hs) : R D := match xs with
  | [.int i, .int j] => .ok (.int (if j < i then j else i)) h
  | _ => .bad
def absD (xs : List D) (h : Hs) : R D := match xs with
  | [.int i] => .ok (.int (if i < 0 then -i else i)) h
  | _ => .bad
def tupleD (xs : List D) (h : Hs) : R D := match xs with
  | [x] => match seqOf h x with
    | some ys => .ok (.tup ys) h
    | none => .bad
  | _ => .bad
/-- list(x) of a list or tuple -/
def listL (xs : List D) (h : Hs) : R (List D) := match xs with
  | [x] => match seqOf h x with
    | some ys => .ok ys h
    | none => match x with
      | .ref n => match h[n]? with
        | some (.dict kvs) => .ok (kvs.map (·.1)) h
        | _ => .bad
      | _ => .bad
  | _ => .bad
def boolsOf : List D → Option (List Bool)
  | [] => some []
  | .bl b :: r => (boolsOf r).map (b :: ·)
  | _ => none
def allD (xs : List D) (h : Hs) : R D := match xs with
  | [x] => match listOf h x with
    | some ys => match boolsOf ys with
      | some bs => .ok (.bl (bs.all id)) h
      | none => .bad
    | none => .bad
  | _ => .bad
def anyD (xs : List D) (h : Hs) : R D := match xs with
  | [x] => match listOf h x with
    | some ys => match boolsOf ys with
      | some bs => .ok (.bl (bs.any id)) h
      | none => .bad
    | none => .bad
  | _ => .bad
def strD (xs : List D) (h : Hs) : R D := match xs with
  | [.int i] => if i.natAbs.log2 < 1920 then .ok (.str (toString i)) h else .bad
  | _ => .bad
section
variable {X : Cx}
theorem rds1 {K : PySem.W.Frag} {ρ : List Addr} {H : Hp} {x : D} {vs : List V} (r : RDs K ρ H [x] vs) : ∃ v, vs = [v] ∧ RD K ρ H x v := by
  obtain ⟨v, r', rfl, h1, h2⟩ := r
  cases h2
  exact ⟨v, rfl, h1⟩
theorem rds2 {K : PySem.W.Frag} {ρ : List Addr} {H : Hp} {x y : D} {vs : List V} (r : RDs K ρ H [x, y] vs) : ∃ v w, vs = [v, w] ∧ RD K ρ H x v ∧ RD K ρ H y w := by
  obtain ⟨v, r', rfl, h1, h2⟩ := r
  obtain ⟨w, rfl, h3⟩ := rds1 h2
  exact ⟨v, w, rfl, h1, h3⟩
theorem bools_rds {K : PySem.W.Frag} {ρ : List Addr} {H : Hp} : ∀ {ys : List D} {bs : List Bool} {vs : List V}, boolsOf ys = some bs → RDs K ρ H ys vs → vs = bs.map V.bl
  | [], bs, vs, e, r => by cases e; cases r; rfl
  | y :: ys, bs, vs, e, r => by
    obtain ⟨v, r', rfl, h1, h2⟩ := r
    cases y with
    | bl b =>
      cases q : boolsOf ys with
      | none => simp [boolsOf, q] at e
      | some cs =>
        have e' : b :: cs = bs := by simpa [boolsOf, q] using e
        subst e'
        cases h1
        rw [bools_rds q h2]; rfl
    | _ => simp [boolsOf] at e
theorem op_len : OpN X (.builtin "len") lenD := by
  intro pins s τ H ρ e σ xs vs us I rds rvs h
  match xs, rds, h with
  | [], _, h => exact absurd rfl h.nb
  | _ :: _ :: _, _, h => exact absurd (by unfold lenD; split <;> first | rfl | (rename_i q; cases q)) h.nb
  | [x], rds, h =>
    obtain ⟨v, rfl, rd⟩ := rds1 rds
    have seqs : lenD [x] σ = (match seqOf σ x with | some ys => .ok (.int ys.length) σ | none => .bad) → wpAny (model X.prog X.w) X.A (call (.builtin "len") us) (EP X pins τ (GD X ρ H (lenD [x] σ))) X.xe s := fun e1 => by
      rw [e1] at h ⊢
      cases hx : seqOf σ x with
      | none => rw [hx] at h; exact absurd rfl h.nb
      | some ys =>
        dsimp only
        obtain ⟨p, ws, rfl, hq, rr⟩ := seq_at I.rs rd hx
        exact call_len_seq pins s τ H _ us _ I.inv rvs ⟨p, ws, rfl, hq, by rw [← rr.length]; exact gd_ok I rfl⟩
    cases x with
    | str z =>
      have hz : z.length ≤ sizeLine := nbad (x := D.int z.length) (h := σ) (by simpa only [lenD] using h.nb)
      have e1 : lenD [.str z] σ = .ok (.int z.length) σ := by simp only [lenD, if_pos hz]
      rw [e1]
      cases rd
      exact call_len_str pins s τ H _ us _ I.inv rvs ⟨z, rfl, hz, gd_ok I rfl⟩
    | _ => exact seqs rfl
theorem max2_nb {xs : List D} {h : Hs} (e : max2D xs h ≠ .bad) : ∃ i j, xs = [.int i, .int j] := by
  unfold max2D at e; split at e
  · exact ⟨_, _, rfl⟩
  · exact absurd rfl e
theorem min2_nb {xs : List D} {h : Hs} (e : min2D xs h ≠ .bad) : ∃ i j, xs = [.int i, .int j] := by
  unfold min2D at e; split at e
  · exact ⟨_, _, rfl⟩
  · exact absurd rfl e
theorem op_max2 (g : Good X) : OpN X (.builtin "max") max2D := by
  intro pins s τ H ρ e σ xs vs us I rds rvs h
  obtain ⟨i, j, rfl⟩ := max2_nb h.nb
  obtain ⟨v, w, rfl, r1, r2⟩ := rds2 rds
  cases r1
  cases r2
  have e1 : max2D [.int i, .int j] σ = .ok (.int (if j > i then j else i)) σ := rfl
  rw [e1]
  exact call_max2 g.calm pins s τ H _ us _ I.inv rvs ⟨i, j, rfl, gd_ok (d := .int (if j > i then j else i)) I (by rw [RD])⟩
theorem op_min2 (g : Good X) : OpN X (.builtin "min") min2D := by
  intro pins s τ H ρ e σ xs vs us I rds rvs h
  obtain ⟨i, j, rfl⟩ := min2_nb h.nb
  obtain ⟨v, w, rfl, r1, r2⟩ := rds2 rds
  cases r1
  cases r2
  have e1 : min2D [.int i, .int j] σ = .ok (.int (if j < i then j else i)) σ := rfl
  rw [e1]
  exact call_min2 g.calm pins s τ H _ us _ I.inv rvs ⟨i, j, rfl, gd_ok (d := .int (if j < i then j else i)) I (by rw [RD])⟩
theorem abs_nb {xs : List D} {h : Hs} (e : absD xs h ≠ .bad) : ∃ i, xs = [.int i] := by
  unfold absD at e; split at e
  · exact ⟨_, rfl⟩
  · exact absurd rfl e
theorem op_abs : OpN X (.builtin "abs") absD := by
  intro pins s τ H ρ e σ xs vs us I rds rvs h
  obtain ⟨i, rfl⟩ := abs_nb h.nb
  obtain ⟨v, rfl, r1⟩ := rds1 rds
  cases r1
  have e1 : absD [.int i] σ = .ok (.int (if i < 0 then -i else i)) σ := rfl
  rw [e1]
  exact L2.call_abs pins s τ H _ us _ I.inv rvs ⟨i, rfl, gd_ok (d := .int (if i < 0 then -i else i)) I (by rw [RD])⟩
theorem one_nb {α : Type} {f : D → Hs → R α} {g : List D → Hs → R α} (hg : ∀ x h, g [x] h = f x h) (h0 : ∀ h, g [] h = .bad) (h2 : ∀ x y r h, g (x :: y :: r) h = .bad) {xs : List D} {h : Hs} (e : g xs h ≠ .bad) : ∃ x, xs = [x] ∧ g xs h = f x h := by
  match xs with
  | [] => exact absurd (h0 h) e
  | [x] => exact ⟨x, rfl, hg x h⟩
  | x :: y :: r => exact absurd (h2 x y r h) e
theorem tuple_nb {xs : List D} {h : Hs} (e : tupleD xs h ≠ .bad) : ∃ x ys, xs = [x] ∧ seqOf h x = some ys ∧ tupleD xs h = .ok (.tup ys) h := by
  unfold tupleD at e ⊢
  split at e
  · rename_i x
    cases q : seqOf h x with
    | none => rw [q] at e; exact absurd rfl e
    | some ys => exact ⟨x, ys, rfl, q, rfl⟩
  · exact absurd rfl e
theorem op_tuple : OpN X (.type "tuple") tupleD := by
  intro pins s τ H ρ e σ xs vs us I rds rvs h
  obtain ⟨x, ys, rfl, hx, e1⟩ := tuple_nb h.nb
  rw [e1]
  obtain ⟨v, rfl, rd⟩ := rds1 rds
  cases x with
  | tup zs =>
    obtain ⟨p, ws, rfl, t, rr⟩ := id rd
    have e2 : zs = ys := by simpa [seqOf] using hx
    subst e2
    exact call_tuple_of pins s τ H _ us _ I.inv rvs ⟨p, ws, rfl, .inr ⟨t.seq, gd_ok I rd⟩⟩
  | lst zs =>
    obtain ⟨p, ws, rfl, hq, rr⟩ := list_at I.rs rd (show listOf σ (.lst zs) = some ys by simpa [seqOf, listOf] using hx)
    exact call_tuple_of pins s τ H _ us _ I.inv rvs ⟨p, ws, rfl, .inl ⟨hq, fun l hl => gd_tup I hl rr⟩⟩
  | scr zs =>
    obtain ⟨p, ws, rfl, hq, rr⟩ := list_at I.rs rd (show listOf σ (.scr zs) = some ys by simpa [seqOf, listOf] using hx)
    exact call_tuple_of pins s τ H _ us _ I.inv rvs ⟨p, ws, rfl, .inl ⟨hq, fun l hl => gd_tup I hl rr⟩⟩
  | ref n =>
    obtain ⟨p, ws, rfl, hq, rr⟩ := list_at I.rs rd (show listOf σ (.ref n) = some ys by simpa [seqOf, listOf] using hx)
    exact call_tuple_of pins s τ H _ us _ I.inv rvs ⟨p, ws, rfl, .inl ⟨hq, fun l hl => gd_tup I hl rr⟩⟩
  | _ => simp [seqOf] at hx
theorem all_nb {xs : List D} {h : Hs} (e : allD xs h ≠ .bad) : ∃ x ys bs, xs = [x] ∧ listOf h x = some ys ∧ boolsOf ys = some bs ∧ allD xs h = .ok (.bl (bs.all id)) h := by
  unfold allD at e ⊢
  split at e
  · rename_i x
    cases q : listOf h x with
    | none => rw [q] at e; exact absurd rfl e
    | some ys =>
      rw [q] at e
      dsimp only at e
      cases q2 : boolsOf ys with
      | none => rw [q2] at e; exact absurd rfl e
      | some bs => exact ⟨x, ys, bs, rfl, q, q2, by simp only [q, q2]⟩
  · exact absurd rfl e
theorem any_nb {xs : List D} {h : Hs} (e : anyD xs h ≠ .bad) : ∃ x ys bs, xs = [x] ∧ listOf h x = some ys ∧ boolsOf ys = some bs ∧ anyD xs h = .ok (.bl (bs.any id)) h := by
  unfold anyD at e ⊢
  split at e
  · rename_i x
    cases q : listOf h x with
    | none => rw [q] at e; exact absurd rfl e
    | some ys =>
      rw [q] at e
      dsimp only at e
      cases q2 : boolsOf ys with
      | none => rw [q2] at e; exact absurd rfl e
      | some bs => exact ⟨x, ys, bs, rfl, q, q2, by simp only [q, q2]⟩
  · exact absurd rfl e
theorem op_all (g : Good X) : OpN X (.builtin "all") allD := by
  intro pins s τ H ρ e σ xs vs us I rds rvs h
  obtain ⟨x, ys, bs, rfl, hx, hb, e1⟩ := all_nb h.nb
  rw [e1]
  obtain ⟨v, rfl, rd⟩ := rds1 rds
  obtain ⟨p, ws, rfl, hq, rr⟩ := list_at I.rs rd hx
  have ew := bools_rds hb rr
  subst ew
  exact cr_all g.calm pins s τ H _ us _ I.inv rvs ⟨p, bs, rfl, hq, gd_ok I rfl⟩
theorem op_any (g : Good X) : OpN X (.builtin "any") anyD := by
  intro pins s τ H ρ e σ xs vs us I rds rvs h
  obtain ⟨x, ys, bs, rfl, hx, hb, e1⟩ := any_nb h.nb
  rw [e1]
  obtain ⟨v, rfl, rd⟩ := rds1 rds
  obtain ⟨p, ws, rfl, hq, rr⟩ := list_at I.rs rd hx
  have ew := bools_rds hb rr
  subst ew
  exact cr_any g.calm pins s τ H _ us _ I.inv rvs ⟨p, bs, rfl, hq, gd_ok I rfl⟩
theorem str_nb {xs : List D} {h : Hs} (e : strD xs h ≠ .bad) : ∃ i, xs = [.int i] ∧ i.natAbs.log2 < 1920 ∧ strD xs h = .ok (.str (toString i)) h := by
  unfold strD at e ⊢
  split at e
  · rename_i i
    have := nbad e
    exact ⟨i, rfl, this, if_pos this⟩
  · exact absurd rfl e
theorem op_str : OpN X (.type "str") strD := by
  intro pins s τ H ρ e σ xs vs us I rds rvs h
  obtain ⟨i, rfl, hz, e1⟩ := str_nb h.nb
  rw [e1]
  obtain ⟨v, rfl, r1⟩ := rds1 rds
  cases r1
  exact call_str_int pins s τ H _ us _ I.inv rvs ⟨i, rfl, hz, gd_ok I rfl⟩
end
end Lb

set_option Elab.async false
set_option linter.all false
set_option maxRecDepth 100000
set_option maxHeartbeats 4000000
namespace Lb
open PySem PySem.Spec PyProof.Rows L2

/-! ### statements -/
def fuel : Nat := 100000
def sSet (i : Nat) (A : Ev) : Sv := fun e h => (A e h).st e fun d h1 => .nx (e.set i (some d)) h1
def sRet (A : Ev) : Sv := fun e h => (A e h).st e fun d h1 => .rt d h1
def sRetN : Sv := fun _ h => .rt .non h
def sDrop (A : Ev) : Sv := fun e h => (A e h).st e fun _ h1 => .nx e h1
def sIf (T : Ts) (S U : Sv) : Sv := fun e h => (T e h).st e fun b h1 => if b then S e h1 else U e h1
def sPass : Sv := fun e h => .nx e h
def sBrk : Sv := fun e h => .bk e h
def sCnt : Sv := fun e h => .ct e h
def sSeq (S U : Sv) : Sv := fun e h => match S e h with
  | .nx e1 h1 => U e1 h1
  | r => r
def whileN (T : Ts) (S : Sv) : Nat → Sv
  | 0 => fun _ _ => .bad
  | n + 1 => fun e h => (T e h).st e fun b h1 => if b then (match S e h1 with
      | .nx e2 h2 => whileN T S n e2 h2
      | .ct e2 h2 => whileN T S n e2 h2
      | .bk e2 h2 => .nx e2 h2
      | r => r) else .nx e h1
def sWhile (T : Ts) (S : Sv) : Sv := whileN T S fuel
def forL (G : Tg) (S : Sv) : List D → Sv
  | [] => fun e h => .nx e h
  | x :: xs => fun e h => match G x e with
    | none => .bad
    | some e1 => match S e1 h with
      | .nx e2 h2 => forL G S xs e2 h2
      | .ct e2 h2 => forL G S xs e2 h2
      | .bk e2 h2 => .nx e2 h2
      | r => r
/-- what is walked: told items, or a list of ours as it stands at each turn -/
inductive Src where
  | fix (xs : List D)
  | lref (n : Nat)
def forR (G : Tg) (S : Sv) (n : Nat) : Nat → Nat → Sv
  | 0, _ => fun _ _ => .bad
  | k + 1, i => fun e h => match h[n]? with
    | some (.lst xs) => match xs[i]? with
      | none => .nx e h
      | some x => match G x e with
        | none => .bad
        | some e1 => match S e1 h with
          | .nx e2 h2 => forR G S n k (i + 1) e2 h2
          | .ct e2 h2 => forR G S n k (i + 1) e2 h2
          | .bk e2 h2 => .nx e2 h2
          | r => r
    | _ => .bad
def forS (G : Tg) (S : Sv) : Src → Sv
  | .fix xs => forL G S xs
  | .lref n => forR G S n fuel 0
abbrev Iv := En → Hs → R Src
def sFor (I : Iv) (G : Tg) (S : Sv) : Sv := fun e h => (I e h).st e fun s h1 => forS G S s e h1
section
variable {X : Cx} {pins : List (Addr × Obj)} {ρ ρ1 : List Addr} {e e1 : En} {σ σ1 : Hs} {τ : L2.St} {H H1 : Hp} {s s1 : Shared}
theorem SafeF.of {α : Type} {r : R α} {k : α → Hs → Fl} (I : SR X pins ρ e σ τ H s) (h : SafeF X ρ H (r.st e k)) : Safe X ρ H τ r := by
  refine ⟨fun z => h.nb (by rw [z]; rfl), h.tk.imp fun c d τ' H' ⟨x, σ', ρ', q1, q2, q3, q4, q5⟩ => ⟨x, e, σ', ρ', by rw [q1]; rfl, q3, q4, by rw [q2]; exact I.re.ext q3, q5⟩⟩
theorem SafeF.right {α : Type} {r : R α} {k : α → Hs → Fl} {a : α} (h : SafeF X ρ H (r.st e k)) (er : r = .ok a σ1) (x : Ext ρ ρ1 H H1) : SafeF X ρ1 H1 (k a σ1) := by
  rw [er] at h
  exact ⟨h.nb, h.tk.imp fun c d τ' H' ⟨y, e', σ', ρ', q1, q2, q3⟩ => ⟨y, e', σ', ρ', q1, x.trans q2, q3⟩⟩
theorem SafeF.ext {r : Fl} (h : SafeF X ρ H r) (x : Ext ρ ρ1 H H1) : SafeF X ρ1 H1 r :=
  ⟨h.nb, h.tk.imp fun c d τ' H' ⟨y, e', σ', ρ', q1, q2, q3⟩ => ⟨y, e', σ', ρ', q1, x.trans q2, q3⟩⟩
theorem EF.ext {r : Fl} (x : Ext ρ ρ1 H H1) : (∀ τ' H', (EF X ρ1 H1 r).nx τ' H' → (EF X ρ H r).nx τ' H') ∧ (∀ v H', (EF X ρ1 H1 r).rt v H' → (EF X ρ H r).rt v H') ∧
    (∀ τ' H', (EF X ρ1 H1 r).bk τ' H' → (EF X ρ H r).bk τ' H') ∧ (∀ τ' H', (EF X ρ1 H1 r).ct τ' H' → (EF X ρ H r).ct τ' H') :=
  ⟨fun _ _ ⟨e', σ', ρ', q1, q2, q3⟩ => ⟨e', σ', ρ', q1, x.trans q2, q3⟩, fun _ _ ⟨e', σ', ρ', q1, q2, q3⟩ => ⟨e', σ', ρ', q1, x.trans q2, q3⟩,
    fun _ _ ⟨e', σ', ρ', q1, q2, q3⟩ => ⟨e', σ', ρ', q1, x.trans q2, q3⟩, fun _ _ ⟨e', σ', ρ', q1, q2, q3⟩ => ⟨e', σ', ρ', q1, x.trans q2, q3⟩⟩
theorem sp_imp {D D' : Ends} {f : Flow} (h : SP X pins D f s) (n : ∀ τ H, D.nx τ H → D'.nx τ H) (r : ∀ v H, D.rt v H → D'.rt v H) (b : ∀ τ H, D.bk τ H → D'.bk τ H) (c : ∀ τ H, D.ct τ H → D'.ct τ H) : SP X pins D' f s := by
  cases f with
  | next => obtain ⟨τ', H', i, q⟩ := h; exact ⟨τ', H', i, n _ _ q⟩
  | brk => obtain ⟨τ', H', i, q⟩ := h; exact ⟨τ', H', i, b _ _ q⟩
  | cont => obtain ⟨τ', H', i, q⟩ := h; exact ⟨τ', H', i, c _ _ q⟩
  | ret u => obtain ⟨v, τ', H', i, rv, q⟩ := h; exact ⟨v, τ', H', i, rv, r _ _ q⟩
theorem sp_ext {r : Fl} {f : Flow} (x : Ext ρ ρ1 H H1) (h : SP X pins (EF X ρ1 H1 r) f s) : SP X pins (EF X ρ H r) f s := by
  obtain ⟨a, b, c, d⟩ := EF.ext (X := X) (r := r) x
  exact sp_imp h a b c d
end
section
variable {X : Cx} {pos : Pos} {a c : Expr} {A : Ev} {T : Ts} {st : Stmt} {rest body orl : List Stmt} {S U : Sv}
theorem dss_nil : DSs X [] sPass := ⟨fun {pins s τ H ρ e σ} I _ => wpAny_execs_nil ⟨τ, H, I.inv, e, σ, ρ, rfl, Ext.refl, I.rs, I.re⟩⟩
theorem SafeF.seq1 {ρ H} {e : En} {σ : Hs} (h : SafeF X ρ H (sSeq S U e σ)) : SafeF X ρ H (S e σ) := by
  refine ⟨fun z => h.nb (by unfold sSeq; rw [z]), h.tk.imp fun c d τ' H' ⟨y, e', σ', ρ', q1, q2⟩ => ⟨y, e', σ', ρ', by unfold sSeq; rw [q1], q2⟩⟩
theorem SafeF.seq2 {ρ ρ1 H H1} {e e1 : En} {σ σ1 : Hs} (h : SafeF X ρ H (sSeq S U e σ)) (q : S e σ = .nx e1 σ1) (x : Ext ρ ρ1 H H1) : SafeF X ρ1 H1 (U e1 σ1) := by
  unfold sSeq at h
  rw [q] at h
  exact h.ext x
theorem dss_cons (h1 : DS X st S) (h2 : DSs X rest U) : DSs X (st :: rest) (sSeq S U) := by
  refine ⟨fun {pins s τ H ρ e σ} I h => wpAny_execs_cons (thn (h1.run I h.seq1) fun f s1 q => ?_)⟩
  cases f with
  | next =>
    obtain ⟨τ', H', i, e', σ', ρ', q1, x, rs, re⟩ := q
    have e2 : sSeq S U e σ = U e' σ' := by unfold sSeq; rw [q1]
    rw [e2]
    exact thn (h2.run ⟨i, rs, re⟩ (h.seq2 q1 x)) fun f s2 g => sp_ext x g
  | ret v =>
    obtain ⟨v, τ', H', i, rv, d, σ', ρ', q1, x, rs, rd⟩ := q
    have e2 : sSeq S U e σ = .rt d σ' := by unfold sSeq; rw [q1]
    rw [e2]
    exact ⟨v, τ', H', i, rv, d, σ', ρ', rfl, x, rs, rd⟩
  | brk =>
    obtain ⟨τ', H', i, e', σ', ρ', q1, x, rs, re⟩ := q
    have e2 : sSeq S U e σ = .bk e' σ' := by unfold sSeq; rw [q1]
    rw [e2]
    exact ⟨τ', H', i, e', σ', ρ', rfl, x, rs, re⟩
  | cont =>
    obtain ⟨τ', H', i, e', σ', ρ', q1, x, rs, re⟩ := q
    have e2 : sSeq S U e σ = .ct e' σ' := by unfold sSeq; rw [q1]
    rw [e2]
    exact ⟨τ', H', i, e', σ', ρ', rfl, x, rs, re⟩
theorem dss_one (h1 : DS X st S) : DSs X [st] S := by
  refine ⟨fun {pins s τ H ρ e σ} I h => wpAny_execs_cons (thn (h1.run I h) fun f s1 q => ?_)⟩
  cases f with
  | next => exact wpAny_execs_nil q
  | ret v => exact q
  | brk => exact q
  | cont => exact q
theorem ds_pass : DS X (.Pass pos) sPass := ⟨fun {pins s τ H ρ e σ} I _ => wpAny_Pass ⟨τ, H, I.inv, e, σ, ρ, rfl, Ext.refl, I.rs, I.re⟩⟩
theorem ds_brk : DS X (.Break pos) sBrk := ⟨fun {pins s τ H ρ e σ} I _ => wpAny_Break ⟨τ, H, I.inv, e, σ, ρ, rfl, Ext.refl, I.rs, I.re⟩⟩
theorem ds_cnt : DS X (.Continue pos) sCnt := ⟨fun {pins s τ H ρ e σ} I _ => wpAny_Continue ⟨τ, H, I.inv, e, σ, ρ, rfl, Ext.refl, I.rs, I.re⟩⟩
theorem ds_ret (ha : DE X a A) : DS X (.Return (some a) pos) (sRet A) := by
  refine ⟨fun {pins s τ H ρ e σ} I h => wpAny_Return_some (thn (ha.run I (SafeF.of I h)) fun u s1 ⟨v, H1, i, rv, d, σ', ρ', q1, x, rs, rd⟩ => ?_)⟩
  exact ⟨v, τ, H1, i, rv, d, σ', ρ', by unfold sRet; rw [q1]; rfl, x, rs, rd⟩
theorem ds_retN : DS X (.Return none pos) sRetN := ⟨fun {pins s τ H ρ e σ} I _ => wpAny_Return_none ⟨.non, τ, H, I.inv, rfl, .non, σ, ρ, rfl, Ext.refl, I.rs, rfl⟩⟩
theorem ds_expr (ha : DE X a A) (hs : swapsWith a none pos.line X.env = pure false := by rfl) : DS X (.Expr a pos) (sDrop A) := by
  refine ⟨fun {pins s τ H ρ e σ} I h => wpAny_Expr_any (thn (ha.run I (SafeF.of I h)) fun u s1 ⟨v, H1, i, rv, d, σ', ρ', q1, x, rs, rd⟩ => ?_) I.inv.quiet hs⟩
  exact ⟨τ, H1, i, e, σ', ρ', by unfold sDrop; rw [q1]; rfl, x, rs, I.re.ext x⟩
theorem ds_set (g : Good X) {i : Nat} {x : Str} {pos' : Pos} (hi : X.N[i]? = some x) (hx : Loc X.env.scope x) (ha : DE X a A) (hs : swapsWith a (some (.Name x pos')) pos.line X.env = pure false := by rfl)
    (hf : X.fn x = true ∨ X.env.scope.names.lookup x = some .local := by first | exact .inl rfl | exact .inr rfl | assumption) : DS X (.Assign [.Name x pos'] a pos) (sSet i A) := by
  refine ⟨fun {pins s τ H ρ e σ} I h => wpAny_Assign_Name (thn (ha.run I (SafeF.of I h)) fun u s1 ⟨v, H1, i1, rv, d, σ', ρ', q1, x1, rs, rd⟩ => ?_) hs⟩
  exact store_ok i1 g.nd hi hx rv (fun s2 I2 => ⟨_, H1, I2, _, σ', ρ', by unfold sSet; rw [q1]; rfl, x1, rs, (I.re.ext x1).set i rd⟩) hf
theorem ds_if (hc : DT X c T) (hb : DSs X body S) (ho : DSs X orl U) : DS X (.If c body orl pos) (sIf T S U) := by
  refine ⟨fun {pins s τ H ρ e σ} I h => wpAny_If (thn (hc.run I (SafeF.of I h)) fun b s1 ⟨H1, i, σ1, ρ1, q1, x, rs⟩ => ?_)⟩
  have h1 := SafeF.right (k := fun b h1 => if b = true then S e h1 else U e h1) h q1 x
  have e1 : sIf T S U e σ = (if b = true then S e σ1 else U e σ1) := by unfold sIf; rw [q1]; rfl
  rw [e1]
  have I1 := I.next i x rs
  cases b with
  | true => exact thn (hb.run I1 h1) fun f s2 g => sp_ext x g
  | false => exact thn (ho.run I1 h1) fun f s2 g => sp_ext x g
theorem whileN_succ (n : Nat) (e : En) (h : Hs) : whileN T S (n + 1) e h = (T e h).st e fun b h1 => if b then (match S e h1 with
      | .nx e2 h2 => whileN T S n e2 h2
      | .ct e2 h2 => whileN T S n e2 h2
      | .bk e2 h2 => .nx e2 h2
      | r => r) else .nx e h1 := rfl
/-- a body's end within a loop, from where the rest is r -/
theorem ds_while (g : Good X) (hc : DT X c T) (hb : DSs X body S) : DS X (.While c body [] pos) (sWhile T S) := by
  refine ⟨fun {pins s τ H ρ e σ} I h => ?_⟩
  show wpAny _ _ _ (SP X pins (EF X ρ H (whileN T S fuel e σ))) _ _
  generalize hr : whileN T S fuel e σ = r
  have h : SafeF X ρ H r := by rw [← hr]; exact h
  refine wpAny_While (codeAny_whileLoop (fun n s' => ∃ e1 σ1 ρ1 τ1 H1, SR X pins ρ1 e1 σ1 τ1 H1 s' ∧ Ext ρ ρ1 H H1 ∧ whileN T S n e1 σ1 = r) ?_ fuel ⟨e, σ, ρ, τ, H, I, Ext.refl, hr⟩)
  rintro n s1 ⟨e1, σ1, ρ1, τ1, H1, I1, x1, hr1⟩
  cases n with
  | zero => exact absurd hr1.symm h.nb
  | succ n =>
    rw [whileN_succ] at hr1
    have h1 : SafeF X ρ1 H1 ((T e1 σ1).st e1 fun b h1 => if b then (match S e1 h1 with
      | .nx e2 h2 => whileN T S n e2 h2
      | .ct e2 h2 => whileN T S n e2 h2
      | .bk e2 h2 => .nx e2 h2
      | r => r) else .nx e1 h1) := by rw [hr1]; exact h.ext x1
    refine wpAny_passesOwn g.own (thn (hc.run I1 (SafeF.of I1 h1)) fun b s2 ⟨H2, i2, σ2, ρ2, q2, x2, rs2⟩ => ?_)
    have I2 := I1.next i2 x2 rs2
    have h2 := SafeF.right h1 q2 x2
    rw [q2] at hr1
    cases b with
    | false =>
      rw [if_neg Bool.false_ne_true]
      refine wpAny_execs_nil ⟨τ1, H2, i2, e1, σ2, ρ2, ?_, x1.trans x2, rs2, I2.re⟩
      rw [← hr1]; rfl
    | true =>
      rw [if_pos rfl]
      have hr2 : (match S e1 σ2 with
        | .nx e2 h2 => whileN T S n e2 h2
        | .ct e2 h2 => whileN T S n e2 h2
        | .bk e2 h2 => .nx e2 h2
        | r => r) = r := hr1
      have hS : SafeF X ρ2 H2 (S e1 σ2) := by
        have hh := h.ext (x1.trans x2)
        rw [← hr2] at hh
        refine ⟨fun z => hh.nb (by rw [z]), hh.tk.imp fun c d τ' H' ⟨y, e', σ', ρ', p1, p2⟩ => ⟨y, e', σ', ρ', by rw [p1], p2⟩⟩
      refine wpAny_passesOwn g.own (thn (hb.run I2 hS) fun f s3 q3 => ?_)
      cases f with
      | next =>
        obtain ⟨τ3, H3, i3, e3, σ3, ρ3, p1, x3, rs3, re3⟩ := q3
        rw [p1] at hr2
        exact ⟨n, Nat.lt_succ_self n, e3, σ3, ρ3, τ3, H3, ⟨i3, rs3, re3⟩, (x1.trans x2).trans x3, hr2⟩
      | cont =>
        obtain ⟨τ3, H3, i3, e3, σ3, ρ3, p1, x3, rs3, re3⟩ := q3
        rw [p1] at hr2
        exact ⟨n, Nat.lt_succ_self n, e3, σ3, ρ3, τ3, H3, ⟨i3, rs3, re3⟩, (x1.trans x2).trans x3, hr2⟩
      | brk =>
        obtain ⟨τ3, H3, i3, e3, σ3, ρ3, p1, x3, rs3, re3⟩ := q3
        rw [p1] at hr2
        exact ⟨τ3, H3, i3, e3, σ3, ρ3, hr2.symm, (x1.trans x2).trans x3, rs3, re3⟩
      | ret u =>
        obtain ⟨v, τ3, H3, i3, rv, d, σ3, ρ3, p1, x3, rs3, rd3⟩ := q3
        rw [p1] at hr2
        exact ⟨v, τ3, H3, i3, rv, d, σ3, ρ3, hr2.symm, (x1.trans x2).trans x3, rs3, rd3⟩
end

/-! ### targets -/
def gN (i : Nat) : Tg := fun d e => some (e.set i (some d))
def gAll : List Tg → List D → En → Option En
  | [], [], e => some e
  | g :: gs, d :: ds, e => (g d e).bind (gAll gs ds)
  | _, _, _ => none
def gTp (gs : List Tg) : Tg := fun d e => match d with
  | .tup ds => gAll gs ds e
  | _ => none
structure DG (X : Cx) (target : Expr) (G : Tg) (is : List Nat) : Prop where
  run : ∀ {pins s τ H ρ e σ d v u e'}, SR X pins ρ e σ τ H s → RD X.K ρ H d v → RelV v u → G d e = some e' →
    wpAny (model X.prog X.w) X.A (assign target X.env u) (fun _ s' => ∃ τ', SR X pins ρ e' σ τ' H s' ∧ τ'.length = τ.length ∧ ∀ i, i ∉ is → τ'[i]? = τ[i]?) X.xe s
structure DGs (X : Cx) (ts : List Expr) (G : List Tg) (is : List Nat) : Prop where
  run : ∀ {pins s τ H ρ e σ ds vs us e'}, SR X pins ρ e σ τ H s → RDs X.K ρ H ds vs → Vals vs us → gAll G ds e = some e' →
    wpAny (model X.prog X.w) X.A (assignInOrder ((assignEach ts X.env).map (·.2)) us) (fun _ s' => ∃ τ', SR X pins ρ e' σ τ' H s' ∧ τ'.length = τ.length ∧ ∀ i, i ∉ is → τ'[i]? = τ[i]?) X.xe s
section
variable {X : Cx} {pos : Pos} {a : Expr} {es : List Expr} {A : Ev} {G : Tg} {Gs : List Tg} {is js : List Nat}
theorem dg_name (g : Good X) {i : Nat} {x : Str} (hi : X.N[i]? = some x) (hx : Loc X.env.scope x) (hf : X.fn x = true ∨ X.env.scope.names.lookup x = some .local := by first | exact .inl rfl | exact .inr rfl | assumption) : DG X (.Name x pos) (gN i) [i] := by
  refine ⟨fun {pins s τ H ρ e σ d v u e'} I r rv h => wpAny_assign_Name (store_ok I.inv g.nd hi hx rv (fun s' I' => ?_) hf)⟩
  cases h
  exact ⟨_, ⟨I', I.rs, I.re.set i r⟩, by simp, fun j hj => by rw [List.getElem?_set_ne (fun z => hj (by simp [z]))]⟩
theorem dgs_nil : DGs X [] [] [] := by
  refine ⟨fun {pins s τ H ρ e σ ds vs us e'} I r rv h => ?_⟩
  cases ds with
  | nil => cases r; cases rv; cases h; exact assignInOrder_nil ⟨τ, I, rfl, fun _ _ => rfl⟩
  | cons _ _ => cases h
theorem dgs_cons (h1 : DG X a G is) (h2 : DGs X es Gs js) (hs : (assignEach (a :: es) X.env).map (·.2) = assign a X.env :: (assignEach es X.env).map (·.2) := by rfl) : DGs X (a :: es) (G :: Gs) (is ++ js) := by
  refine ⟨fun {pins s τ H ρ e σ ds vs us e'} I r rv h => ?_⟩
  cases ds with
  | nil => cases h
  | cons d ds =>
    obtain ⟨v, r', rfl, r1, r2⟩ := r
    cases rv with
    | cons q1 q2 =>
      have h : (G d e).bind (gAll Gs ds) = some e' := h
      cases hg : G d e with
      | none => rw [hg] at h; cases h
      | some e1 =>
        rw [hg] at h
        rw [hs]
        refine assignInOrder_cons (thn (h1.run I r1 q1 hg) fun _ s1 ⟨τ1, I1, l1, k1⟩ => ?_)
        exact thn (h2.run I1 r2 q2 h) fun _ s2 ⟨τ2, I2, l2, k2⟩ => ⟨τ2, I2, l2.trans l1, fun i hi => (k2 i fun z => hi (List.mem_append_right _ z)).trans (k1 i fun z => hi (List.mem_append_left _ z))⟩
theorem gAll_length : ∀ (gs : List Tg) (ds : List D) (e e' : En), gAll gs ds e = some e' → gs.length = ds.length
  | [], [], _, _, _ => rfl
  | [], _ :: _, _, _, h => by cases h
  | _ :: _, [], _, _, h => by cases h
  | g :: gs, d :: ds, e, e', h => by
    have h : (g d e).bind (gAll gs ds) = some e' := h
    cases hg : g d e with
    | none => rw [hg] at h; cases h
    | some e1 => rw [hg] at h; rw [List.length_cons, List.length_cons, gAll_length gs ds e1 e' h]
theorem dg_tup (g : Good X) {k : Nat} (h : DGs X es Gs is) (hl : es.length = Gs.length := by rfl) (hn : (assignEach es X.env).length = es.length := by rfl) (hst : (assignEach es X.env).findIdx? (·.1) = none := by rfl) : DG X (.Tuple es k pos) (gTp Gs) is := by
  refine ⟨fun {pins s τ H ρ e σ d v u e'} I r rv hw => ?_⟩
  cases d with
  | tup ds =>
    obtain ⟨p, vs, rfl, t, rr⟩ := r
    cases rv
    obtain ⟨its, rvs, ht, hz⟩ := I.inv.tuple t.seq
    have hl2 := gAll_length Gs ds e e' hw
    have hl3 := rr.length
    have hl4 := rvs.length
    refine assign_Tuple_tuple (I.inv.ok.hd g.calm) ht (by rw [hn, List.size_toArray]; omega) hst fun h' hx => ?_
    have I1 : SR X pins ρ e σ τ H { s with heap := h' } := ⟨I.inv.kept (t' := s.toks) fun b o e => hx b o (Nat.ne_of_lt (Heap.lt_size e)) e, I.rs, I.re⟩
    exact h.run I1 rr (by simpa using rvs) hw
  | _ => cases hw
end
end Lb

set_option Elab.async false
set_option linter.all false
set_option maxRecDepth 100000
set_option maxHeartbeats 4000000
namespace Lb
open PySem PySem.Spec PyProof.Rows L2

/-! ### our judgements as the layer's -/
section
variable {X : Cx}
def toTE (X : Cx) (A : Ev) : TE := fun τ H Q => ∃ ρ e σ, RS X.prog X.w X.K X.mg ρ σ H ∧ RE X.K ρ H e τ ∧ Safe X ρ H τ (A e σ) ∧ ∀ v H', GD X ρ H (A e σ) v H' → Q v H'
theorem pe_of {x : Expr} {A : Ev} (h : DE X x A) : PE X x (toTE X A) := ⟨fun pins s τ H Q I ⟨ρ, e, σ, rs, re, sf, k⟩ => thn (h.run ⟨I, rs, re⟩ sf) fun u s1 t => epi t k⟩
def toTS (X : Cx) (S : Sv) : TS := fun D τ H => ∃ ρ e σ, RS X.prog X.w X.K X.mg ρ σ H ∧ RE X.K ρ H e τ ∧ SafeF X ρ H (S e σ) ∧ (∀ τ' H', (EF X ρ H (S e σ)).nx τ' H' → D.nx τ' H') ∧ (∀ v H', (EF X ρ H (S e σ)).rt v H' → D.rt v H') ∧
  (∀ τ' H', (EF X ρ H (S e σ)).bk τ' H' → D.bk τ' H') ∧ (∀ τ' H', (EF X ρ H (S e σ)).ct τ' H' → D.ct τ' H')
theorem pss_of {st : List Stmt} {S : Sv} (h : DSs X st S) : PSs X st (toTS X S) := ⟨fun pins s τ H D I ⟨ρ, e, σ, rs, re, sf, a, b, c, d⟩ => thn (h.run ⟨I, rs, re⟩ sf) fun f s1 g => sp_imp g a b c d⟩
def toTG (X : Cx) (G : Tg) (is : List Nat) : TG := fun v τ H Q => ∃ ρ e σ d e', RS X.prog X.w X.K X.mg ρ σ H ∧ RE X.K ρ H e τ ∧ RD X.K ρ H d v ∧ G d e = some e' ∧ ∀ τ', RE X.K ρ H e' τ' → τ'.length = τ.length → (∀ i, i ∉ is → τ'[i]? = τ[i]?) → Q τ' H
theorem pg_of {t : Expr} {G : Tg} {is : List Nat} (h : DG X t G is) : PG X t (toTG X G is) := ⟨fun pins s τ H v u Q I r ⟨ρ, e, σ, d, e', rs, re, rd, hg, k⟩ => thn (h.run ⟨I, rs, re⟩ rd r hg) fun _ s1 ⟨τ', I', l, kk⟩ => ⟨τ', H, I'.inv, k τ' I'.re l kk⟩⟩
end

/-! ### what a loop walks -/
def JOk (X : Cx) (ρ0 : List Addr) (H0 : Hp) (src : Src) (J : It) : Prop := match src with
  | .fix xs => ∀ ρ H σ, Ext ρ0 ρ H0 H → RS X.prog X.w X.K X.mg ρ σ H → (∀ (i : Nat) d, xs[i]? = some d → J.go i H ∧ ∀ x H', J.yld i H x H' → Ext ρ ρ H H' ∧ RS X.prog X.w X.K X.mg ρ σ H' ∧ RD X.K ρ H' d x) ∧ J.stop xs.length H
  | .lref n => ∀ ρ H σ, Ext ρ0 ρ H0 H → RS X.prog X.w X.K X.mg ρ σ H → ∀ xs, σ[n]? = some (.lst xs) →
      (∀ (i : Nat) d, xs[i]? = some d → J.go i H ∧ ∀ x H', J.yld i H x H' → Ext ρ ρ H H' ∧ RS X.prog X.w X.K X.mg ρ σ H' ∧ RD X.K ρ H' d x) ∧ ∀ i, xs.length ≤ i → J.stop i H
def GI (X : Cx) (ρ : List Addr) (H : Hp) (r : R Src) : It → Hp → Prop := fun J H' => ∃ src σ' ρ', r = .ok src σ' ∧ Ext ρ ρ' H H' ∧ RS X.prog X.w X.K X.mg ρ' σ' H' ∧ JOk X ρ' H' src J
structure DI (X : Cx) (tg iter : Expr) (E : Iv) : Prop where
  run : ∀ {pins s τ H ρ e σ}, SR X pins ρ e σ τ H s → Safe X ρ H τ (E e σ) →
    wpAny (model X.prog X.w) X.A (eval iter X.env) (fun v s1 => wpAny (model X.prog X.w) X.A (pyIter v) (PIE X pins τ tg (GI X ρ H (E e σ))) X.xe s1) X.xe s
def toTI (X : Cx) (E : Iv) : TI := fun τ H R => ∃ ρ e σ, RS X.prog X.w X.K X.mg ρ σ H ∧ RE X.K ρ H e τ ∧ Safe X ρ H τ (E e σ) ∧ ∀ J H', GI X ρ H (E e σ) J H' → R J H'
theorem pie_imp {X : Cx} {pins τ tg} {R R' : It → Hp → Prop} {v : Value} {s : Shared} (h : PIE X pins τ tg R v s) (f : ∀ J H, R J H → R' J H) : PIE X pins τ tg R' v s := by
  obtain ⟨it, fp, tn, J, H', a, b, c, d, e, q⟩ := h
  exact ⟨it, fp, tn, J, H', a, b, c, d, e, f _ _ q⟩
theorem pi_of {X : Cx} {tg iter : Expr} {E : Iv} (h : DI X tg iter E) : PI X tg iter (toTI X E) := ⟨fun pins s τ H R I ⟨ρ, e, σ, rs, re, sf, k⟩ => thn (h.run ⟨I, rs, re⟩ sf) fun v s1 h1 => thn h1 fun itv s2 t => pie_imp t k⟩
/-- the items of a value -/
def srcD (d : D) (h : Hs) : R Src := match d with
  | .lst xs => .ok (.fix xs) h
  | .tup xs => .ok (.fix xs) h
  | .scr ns => .ok (.fix (ns.map .int)) h
  | .ref n => match h[n]? with
    | some (.lst _) => .ok (.lref n) h
    | _ => .bad
  | _ => .bad
def iVal (A : Ev) : Iv := fun e h => (A e h).bind srcD
theorem GI.right {X : Cx} {α : Type} {ρ ρ1 H H1 σ1} {r : R α} {f : α → Hs → R Src} {c : α} (er : r = .ok c σ1) (x : Ext ρ ρ1 H H1) {J H'} (h : GI X ρ1 H1 (f c σ1) J H') : GI X ρ H (r.bind f) J H' := by
  obtain ⟨d, σ', ρ', e1, x', q⟩ := h
  exact ⟨d, σ', ρ', by rw [er]; exact e1, x.trans x', q⟩
section
variable {X : Cx} {pos : Pos} {tg iter a : Expr} {A : Ev} {E : Iv} {G : Tg} {S : Sv} {body : List Stmt}
theorem list_iter {pins s τ H ρ} {e : En} {σ : Hs} {p : Addr} {vs : List V} {R : It → Hp → Prop} (I : SR X pins ρ e σ τ H s) (hq : SqL X.K H p vs) (q : R (Itl X.K p) H) : wpAny (model X.prog X.w) X.A (pyIter (.ref p)) (PIE X pins τ tg R) X.xe s := by
  obtain ⟨its, rv, pl, hz⟩ := I.inv.list hq
  refine wpAny_pyIter_list pl.isList ?_
  refine ⟨s.heap.objs.size, [s.heap.objs.size], _, _, H, rfl, I.inv.kept (t' := s.toks) fun b o e => Heap.get?_push_of_some _ e, turn_list p _, ⟨_, Heap.get?_push_size _ rfl, rfl, rfl⟩, fun b hb => ?_, q⟩
  have e : b = s.heap.objs.size := by simpa using hb
  subst e
  exact I.inv.fpOk (Nat.le_refl _) (I.inv.hok.fresh (Nat.le_refl _))
theorem tup_iter {pins s τ H ρ} {e : En} {σ : Hs} {p : Addr} {vs : List V} {R : It → Hp → Prop} (I : SR X pins ρ e σ τ H s) (hq : SqT X.K H p vs) (q : R (Itt X.K p) H) : wpAny (model X.prog X.w) X.A (pyIter (.ref p)) (PIE X pins τ tg R) X.xe s := by
  obtain ⟨its, rv, pl, hz⟩ := I.inv.tuple hq
  refine wpAny_pyIter_tuple (show s.heap.IsTuple p its.toArray from pl) ?_
  refine ⟨s.heap.objs.size, [s.heap.objs.size], _, _, H, rfl, I.inv.kept (t' := s.toks) fun b o e => Heap.get?_push_of_some _ e, turn_tuple p _, ⟨_, Heap.get?_push_size _ rfl, rfl, rfl⟩, fun b hb => ?_, q⟩
  have e : b = s.heap.objs.size := by simpa using hb
  subst e
  exact I.inv.fpOk (Nat.le_refl _) (I.inv.hok.fresh (Nat.le_refl _))
theorem jok_list {ρ0 H0 p vs} {xs : List D} (h : LAt X.K ρ0 H0 p vs) (r : RDs X.K ρ0 H0 xs vs) : JOk X ρ0 H0 (.fix xs) (Itl X.K p) := by
  intro ρ H σ x rs
  have h' := (h.ext x).seq
  have r' := RDs.ext x _ _ r
  refine ⟨fun i d hd => ?_, vs, h', by rw [← r'.length]; exact Nat.le_refl _⟩
  obtain ⟨v, hv, rd⟩ := r'.get hd
  refine ⟨⟨vs, v, h', hv⟩, fun y H' hy => ?_⟩
  obtain ⟨e1, hy⟩ := hy
  subst e1
  have := hy vs h'
  rw [hv] at this
  cases this
  exact ⟨Ext.refl, rs, rd⟩
theorem jok_tup {ρ0 H0 p vs} {xs : List D} (h : TAt X.K ρ0 H0 p vs) (r : RDs X.K ρ0 H0 xs vs) : JOk X ρ0 H0 (.fix xs) (Itt X.K p) := by
  intro ρ H σ x rs
  have h' := (h.ext x).seq
  have r' := RDs.ext x _ _ r
  refine ⟨fun i d hd => ?_, vs, h', by rw [← r'.length]; exact Nat.le_refl _⟩
  obtain ⟨v, hv, rd⟩ := r'.get hd
  refine ⟨⟨vs, v, h', hv⟩, fun y H' hy => ?_⟩
  obtain ⟨e1, hy⟩ := hy
  subst e1
  have := hy vs h'
  rw [hv] at this
  cases this
  exact ⟨Ext.refl, rs, rd⟩
theorem jok_ref {ρ0 H0 p} {n : Nat} (h : ρ0[n]? = some p) : JOk X ρ0 H0 (.lref n) (Itl X.K p) := by
  intro ρ H σ x rs xs hx
  obtain ⟨vs, hH, r⟩ := rs.at_ n p _ (x.get h) hx
  refine ⟨fun i d hd => ?_, fun i hi => ⟨vs, SqL.of hH, by rw [← r.length]; exact hi⟩⟩
  obtain ⟨v, hv, rd⟩ := r.get hd
  refine ⟨⟨vs, v, SqL.of hH, hv⟩, fun y H' hy => ?_⟩
  obtain ⟨e1, hy⟩ := hy
  subst e1
  have := hy vs (SqL.of hH)
  rw [hv] at this
  cases this
  exact ⟨Ext.refl, rs, rd⟩
theorem di_val (ha : DE X a A) : DI X tg a (iVal A) := by
  refine ⟨fun {pins s τ H ρ e σ} I h => ha.thenD I h fun d σ1 ρ1 v u H1 s1 q1 I1 x1 rd rv h1 => ?_⟩
  cases d with
  | lst xs =>
    obtain ⟨p, vs, rfl, t, r⟩ := rd
    cases rv
    exact list_iter I1 (SqL.of t.1) (GI.right (f := srcD) q1 x1 ⟨_, σ1, ρ1, rfl, Ext.refl, I1.rs, jok_list (.inl ⟨.inl t.1, t.2⟩) r⟩)
  | tup xs =>
    obtain ⟨p, vs, rfl, t, r⟩ := rd
    cases rv
    exact tup_iter I1 t.seq (GI.right (f := srcD) q1 x1 ⟨_, σ1, ρ1, rfl, Ext.refl, I1.rs, jok_tup t r⟩)
  | scr ns =>
    obtain ⟨p, rfl, t⟩ := rd
    cases rv
    exact list_iter I1 t.seq (GI.right (f := srcD) q1 x1 ⟨_, σ1, ρ1, rfl, Ext.refl, I1.rs, jok_list t (rds_ints ns)⟩)
  | ref n =>
    cases hn : σ1[n]? with
    | none => exact absurd (by simp [srcD, hn]) h1.nb
    | some o =>
      cases o with
      | lst xs =>
        obtain ⟨p, vs, rfl, hp, t, r⟩ := I1.rs.lst rd hn
        cases rv
        exact list_iter I1 (SqL.of t) (GI.right (f := srcD) q1 x1 ⟨.lref n, σ1, ρ1, by simp [srcD, hn], Ext.refl, I1.rs, jok_ref hp⟩)
      | _ => exact absurd (by simp [srcD, hn]) h1.nb
  | _ => exact absurd rfl h1.nb
/-- range(n), range(a, b) -/
def rng (lo : Int) : Nat → List D
  | 0 => []
  | n + 1 => .int lo :: rng (lo + 1) n
def iRng1 (A : Es) : Iv := fun e h => (A e h).bind fun xs h1 => match xs with
  | [.int j] => if -(2 ^ 62) ≤ j ∧ j < 2 ^ 62 then .ok (.fix (rng 0 j.toNat)) h1 else .bad
  | _ => .bad
def iRng2 (A : Es) : Iv := fun e h => (A e h).bind fun xs h1 => match xs with
  | [.int i, .int j] => if -(2 ^ 62) ≤ i ∧ i < 2 ^ 62 ∧ -(2 ^ 62) ≤ j ∧ j < 2 ^ 62 then .ok (.fix (rng i (j - i).toNat)) h1 else .bad
  | _ => .bad
theorem rng_length : ∀ (n : Nat) (lo : Int), (rng lo n).length = n
  | 0, _ => rfl
  | n + 1, lo => by rw [rng, List.length_cons, rng_length n]
theorem rng_get : ∀ (n : Nat) (lo : Int) (i : Nat) (d : D), (rng lo n)[i]? = some d → i < n ∧ d = .int (lo + i)
  | 0, _, _, _, h => by simp [rng] at h
  | n + 1, lo, 0, d, h => by simp [rng] at h; subst h; exact ⟨by omega, by simp⟩
  | n + 1, lo, i + 1, d, h => by
    obtain ⟨h1, h2⟩ := rng_get n (lo + 1) i d (by simpa [rng] using h)
    refine ⟨by omega, ?_⟩
    rw [h2]; congr 1; omega
theorem jok_rng {ρ0 H0} (lo : Int) (n : Nat) : JOk X ρ0 H0 (.fix (rng lo n)) (Itr lo n) := by
  intro ρ H σ x rs
  refine ⟨fun i d hd => ?_, by rw [rng_length]; exact Nat.le_refl n⟩
  obtain ⟨h1, rfl⟩ := rng_get n lo i d hd
  refine ⟨h1, fun y H' hy => ?_⟩
  obtain ⟨e1, hy⟩ := hy
  subst e1
  subst hy
  exact ⟨Ext.refl, rs, rfl⟩
theorem di_rng1 {p : Pos} {AS : Es} (hg : Gl X "range") (hm : X.mg "range" = none) (ha : DA X [a] AS) (hs : starEach [a] X.env = [(false, eval a X.env)] := by rfl) : DI X tg (.Call (.Name "range" p) [a] [] pos) (iRng1 AS) := by
  refine ⟨fun {pins s τ H ρ e σ} I h => Call_ (ld_blt I.inv hg hm boot_range (PyProof.Rows.callWith_type1 (ha.thenA pos I h fun ds σ1 ρ1 vs us H1 s1 q1 I1 x1 rds rvs h1 => ?_) hs rfl))⟩
  obtain ⟨j, rfl, hb⟩ : ∃ j, ds = [.int j] ∧ (-(2 ^ 62) ≤ j ∧ j < 2 ^ 62) := by
    have nb := h1.nb
    split at nb
    · exact ⟨_, rfl, nbad nb⟩
    · exact absurd rfl nb
  obtain ⟨v, rfl, r1⟩ := rds1 rds
  cases r1
  obtain ⟨u, rfl, t, rfl⟩ := vals1 rvs
  refine call_range_1 (range_it I1.inv (by omega) (by omega) hb.1 hb.2 ?_)
  refine GI.right (f := fun xs h1 => match xs with
    | [.int j] => if -(2 ^ 62) ≤ j ∧ j < 2 ^ 62 then .ok (.fix (rng 0 j.toNat)) h1 else .bad
    | _ => .bad) q1 x1 ⟨.fix (rng 0 j.toNat), σ1, ρ1, if_pos hb, Ext.refl, I1.rs, ?_⟩
  have e1 : (j - 0).toNat = j.toNat := by simp
  rw [e1]
  exact jok_rng 0 j.toNat
theorem di_rng2 {p : Pos} {b : Expr} {AS : Es} (hg : Gl X "range") (hm : X.mg "range" = none) (ha : DA X [a, b] AS) (hs : starEach [a, b] X.env = [(false, eval a X.env), (false, eval b X.env)] := by rfl) (hs2 : starEach [b] X.env = [(false, eval b X.env)] := by rfl) : DI X tg (.Call (.Name "range" p) [a, b] [] pos) (iRng2 AS) := by
  refine ⟨fun {pins s τ H ρ e σ} I h => Call_ (ld_blt I.inv hg hm boot_range (PyProof.Rows.callWith_type1 (ha.thenA pos I h fun ds σ1 ρ1 vs us H1 s1 q1 I1 x1 rds rvs h1 => ?_) (by rw [hs, hs2]) (by rw [hs2]; rfl)))⟩
  obtain ⟨i, j, rfl, hb⟩ : ∃ i j, ds = [.int i, .int j] ∧ (-(2 ^ 62) ≤ i ∧ i < 2 ^ 62 ∧ -(2 ^ 62) ≤ j ∧ j < 2 ^ 62) := by
    have nb := h1.nb
    split at nb
    · exact ⟨_, _, rfl, nbad nb⟩
    · exact absurd rfl nb
  obtain ⟨v, v', rfl, r1, r2⟩ := rds2 rds
  cases r1
  cases r2
  obtain ⟨u, u', rfl, ⟨t, rfl⟩, ⟨t', rfl⟩⟩ := vals2 rvs
  refine call_range_2 (range_it I1.inv hb.1 hb.2.1 hb.2.2.1 hb.2.2.2 ?_)
  exact GI.right (f := fun xs h1 => match xs with
    | [.int i, .int j] => if -(2 ^ 62) ≤ i ∧ i < 2 ^ 62 ∧ -(2 ^ 62) ≤ j ∧ j < 2 ^ 62 then .ok (.fix (rng i (j - i).toNat)) h1 else .bad
    | _ => .bad) q1 x1 ⟨.fix (rng i (j - i).toNat), σ1, ρ1, if_pos hb, Ext.refl, I1.rs, jok_rng _ _⟩
/-- one turn of a for: where the body's end and what follows are r -/
theorem for_turn {r : Fl} {ρ ρ2 H H2} {e1 : En} {σ2 : Hs} {K : En → Hs → Fl} (hr : (match S e1 σ2 with
      | .nx e2 h2 => K e2 h2
      | .ct e2 h2 => K e2 h2
      | .bk e2 h2 => .nx e2 h2
      | r => r) = r) (x : Ext ρ ρ2 H H2) (h : SafeF X ρ H r) : SafeF X ρ2 H2 (S e1 σ2) ∧
      (∀ e2 h2, (S e1 σ2 = .nx e2 h2 ∨ S e1 σ2 = .ct e2 h2) → K e2 h2 = r) ∧ (∀ e2 h2, S e1 σ2 = .bk e2 h2 → r = .nx e2 h2) ∧ (∀ d h2, S e1 σ2 = .rt d h2 → r = .rt d h2) := by
  have hh := h.ext x
  rw [← hr] at hh
  refine ⟨⟨fun z => hh.nb (by rw [z]), hh.tk.imp fun c d τ' H' ⟨y, e', σ', ρ', p1, p2⟩ => ⟨y, e', σ', ρ', by rw [p1], p2⟩⟩, fun e2 h2 z => ?_, fun e2 h2 z => ?_, fun d h2 z => ?_⟩
  · rcases z with z | z <;> rw [z] at hr <;> exact hr
  · rw [z] at hr; exact hr.symm
  · rw [z] at hr; exact hr.symm
theorem ds_for (g : Good X) (hi : DI X tg iter E) {is : List Nat} (hg : DG X tg G is) (hb : DSs X body S) (hs : ∀ x, foldedSetIterable iter X.env x = pure x := by intro _; rfl) : DS X (.For tg iter body [] pos) (sFor E G S) := by
  refine ⟨fun {pins s τ H ρ e σ} I h => ?_⟩
  refine (ps_for g.own g.calm (pi_of hi) (pg_of hg) (pss_of hb) hs).run pins s τ H (EF X ρ H (sFor E G S e σ)) I.inv ?_
  generalize hr : sFor E G S e σ = r
  refine ⟨ρ, e, σ, I.rs, I.re, SafeF.of I h, fun J H1 ⟨src, σ1, ρ1, q1, x1, rs1, jok⟩ => ?_⟩
  rw [hr] at h
  have re1 := I.re.ext x1
  have hr1 : forS G S src e σ1 = r := by rw [← hr]; unfold sFor; rw [q1]; rfl
  cases src with
  | fix xs =>
    refine ⟨fun i m τ2 H2 => m = xs.length - i ∧ i ≤ xs.length ∧ ∃ ρ2 e2 σ2, Ext ρ1 ρ2 H1 H2 ∧ RS X.prog X.w X.K X.mg ρ2 σ2 H2 ∧ RE X.K ρ2 H2 e2 τ2 ∧ forL G S (xs.drop i) e2 σ2 = r,
      ⟨xs.length, by simp, Nat.zero_le _, ρ1, e, σ1, Ext.refl, rs1, re1, hr1⟩, ?_⟩
    rintro i m τ2 H2 ⟨rfl, hi', ρ2, e2, σ2, x2, rs2, re2, hr2⟩
    obtain ⟨jg, js⟩ := jok ρ2 H2 σ2 x2 rs2
    by_cases hlt : i < xs.length
    · have hx : xs[i]? = some xs[i] := by simp [hlt]
      obtain ⟨go, yl⟩ := jg i xs[i] hx
      rw [List.drop_eq_getElem_cons hlt] at hr2
      have hr2 : (match G xs[i] e2 with
        | none => .bad
        | some e1 => match S e1 σ2 with
          | .nx e2 h2 => forL G S (xs.drop (i + 1)) e2 h2
          | .ct e2 h2 => forL G S (xs.drop (i + 1)) e2 h2
          | .bk e2 h2 => .nx e2 h2
          | r => r) = r := hr2
      cases hG : G xs[i] e2 with
      | none => rw [hG] at hr2; exact absurd hr2.symm h.nb
      | some e3 =>
        rw [hG] at hr2
        dsimp only at hr2
        refine .inr ⟨go, fun τ' H' => ∃ ρ3 e4 σ3, Ext ρ1 ρ3 H1 H' ∧ RS X.prog X.w X.K X.mg ρ3 σ3 H' ∧ RE X.K ρ3 H' e4 τ' ∧ forL G S (xs.drop (i + 1)) e4 σ3 = r,
          fun τ' H' z => ⟨xs.length - (i + 1), by omega, rfl, hlt, z⟩, fun y H3 hy => ?_⟩
        obtain ⟨x3, rs3, rd3⟩ := yl y H3 hy
        refine ⟨ρ2, e2, σ2, xs[i], e3, rs3, re2.ext x3, rd3, hG, fun τ4 re4 _ _ => ?_⟩
        obtain ⟨sf, c1, c2, c3⟩ := for_turn (X := X) hr2 (x1.trans (x2.trans x3)) h
        refine ⟨ρ2, e3, σ2, rs3, re4, sf, ?_, ?_, ?_, ?_⟩
        · rintro τ' H' ⟨e5, σ5, ρ5, p1, p2, p3, p4⟩
          exact ⟨ρ5, e5, σ5, x2.trans (x3.trans p2), p3, p4, c1 e5 σ5 (.inl p1)⟩
        · rintro v H' ⟨d, σ5, ρ5, p1, p2, p3, p4⟩
          exact ⟨d, σ5, ρ5, c3 d σ5 p1, x1.trans (x2.trans (x3.trans p2)), p3, p4⟩
        · rintro τ' H' ⟨e5, σ5, ρ5, p1, p2, p3, p4⟩
          exact ⟨e5, σ5, ρ5, c2 e5 σ5 p1, x1.trans (x2.trans (x3.trans p2)), p3, p4⟩
        · rintro τ' H' ⟨e5, σ5, ρ5, p1, p2, p3, p4⟩
          exact ⟨ρ5, e5, σ5, x2.trans (x3.trans p2), p3, p4, c1 e5 σ5 (.inr p1)⟩
    · have hi2 : i = xs.length := by omega
      subst hi2
      rw [List.drop_length] at hr2
      exact .inl ⟨js, e2, σ2, ρ2, hr2.symm, x1.trans x2, rs2, re2⟩
  | lref n =>
    refine ⟨fun i m τ2 H2 => ∃ ρ2 e2 σ2, Ext ρ1 ρ2 H1 H2 ∧ RS X.prog X.w X.K X.mg ρ2 σ2 H2 ∧ RE X.K ρ2 H2 e2 τ2 ∧ forR G S n m i e2 σ2 = r,
      ⟨fuel, ρ1, e, σ1, Ext.refl, rs1, re1, hr1⟩, ?_⟩
    rintro i m τ2 H2 ⟨ρ2, e2, σ2, x2, rs2, re2, hr2⟩
    cases m with
    | zero => exact absurd hr2.symm h.nb
    | succ m =>
      have hr2 : (match σ2[n]? with
        | some (.lst xs) => match xs[i]? with
          | none => .nx e2 σ2
          | some x => match G x e2 with
            | none => .bad
            | some e1 => match S e1 σ2 with
              | .nx e2 h2 => forR G S n m (i + 1) e2 h2
              | .ct e2 h2 => forR G S n m (i + 1) e2 h2
              | .bk e2 h2 => .nx e2 h2
              | r => r
        | _ => .bad) = r := hr2
      cases hn : σ2[n]? with
      | none => rw [hn] at hr2; exact absurd hr2.symm h.nb
      | some o =>
        cases o with
        | lst xs =>
          rw [hn] at hr2
          dsimp only at hr2
          obtain ⟨jg, js⟩ := jok ρ2 H2 σ2 x2 rs2 xs hn
          cases hx : xs[i]? with
          | none =>
            rw [hx] at hr2
            exact .inl ⟨js i (List.getElem?_eq_none_iff.mp hx), e2, σ2, ρ2, hr2.symm, x1.trans x2, rs2, re2⟩
          | some d0 =>
            rw [hx] at hr2
            dsimp only at hr2
            obtain ⟨go, yl⟩ := jg i d0 hx
            cases hG : G d0 e2 with
            | none => rw [hG] at hr2; exact absurd hr2.symm h.nb
            | some e3 =>
              rw [hG] at hr2
              dsimp only at hr2
              refine .inr ⟨go, fun τ' H' => ∃ ρ3 e4 σ3, Ext ρ1 ρ3 H1 H' ∧ RS X.prog X.w X.K X.mg ρ3 σ3 H' ∧ RE X.K ρ3 H' e4 τ' ∧ forR G S n m (i + 1) e4 σ3 = r,
                fun τ' H' z => ⟨m, by omega, z⟩, fun y H3 hy => ?_⟩
              obtain ⟨x3, rs3, rd3⟩ := yl y H3 hy
              refine ⟨ρ2, e2, σ2, d0, e3, rs3, re2.ext x3, rd3, hG, fun τ4 re4 _ _ => ?_⟩
              obtain ⟨sf, c1, c2, c3⟩ := for_turn (X := X) hr2 (x1.trans (x2.trans x3)) h
              refine ⟨ρ2, e3, σ2, rs3, re4, sf, ?_, ?_, ?_, ?_⟩
              · rintro τ' H' ⟨e5, σ5, ρ5, p1, p2, p3, p4⟩
                exact ⟨ρ5, e5, σ5, x2.trans (x3.trans p2), p3, p4, c1 e5 σ5 (.inl p1)⟩
              · rintro v H' ⟨d, σ5, ρ5, p1, p2, p3, p4⟩
                exact ⟨d, σ5, ρ5, c3 d σ5 p1, x1.trans (x2.trans (x3.trans p2)), p3, p4⟩
              · rintro τ' H' ⟨e5, σ5, ρ5, p1, p2, p3, p4⟩
                exact ⟨e5, σ5, ρ5, c2 e5 σ5 p1, x1.trans (x2.trans (x3.trans p2)), p3, p4⟩
              · rintro τ' H' ⟨e5, σ5, ρ5, p1, p2, p3, p4⟩
                exact ⟨ρ5, e5, σ5, x2.trans (x3.trans p2), p3, p4, c1 e5 σ5 (.inr p1)⟩
        | _ => rw [hn] at hr2; exact absurd hr2.symm h.nb
end
end Lb

set_option Elab.async false
set_option linter.all false
set_option maxRecDepth 100000
set_option maxHeartbeats 4000000
namespace Lb
open PySem PySem.Spec PyProof.Rows L2

/-! ### sameness, what lies below a number -/
mutual
def D.same : D → D → Bool
  | .non, .non => true
  | .bl a, .bl b => a == b
  | .int a, .int b => a == b
  | .str a, .str b => a == b
  | .tup a, .tup b => D.sames a b
  | .lst a, .lst b => D.sames a b
  | .ref a, .ref b => a == b
  | .scr a, .scr b => a == b
  | _, _ => false
def D.sames : List D → List D → Bool
  | [], [] => true
  | a :: as, b :: bs => D.same a b && D.sames as bs
  | _, _ => false
end
mutual
theorem same_refl : ∀ a : D, D.same a a = true
  | .non => rfl
  | .bl _ => by simp [D.same]
  | .int _ => by simp [D.same]
  | .str _ => by simp [D.same]
  | .tup a => by simp [D.same, sames_refl a]
  | .lst a => by simp [D.same, sames_refl a]
  | .ref _ => by simp [D.same]
  | .scr _ => by simp [D.same]
theorem sames_refl : ∀ a : List D, D.sames a a = true
  | [] => rfl
  | a :: as => by simp [D.sames, same_refl a, sames_refl as]
end
mutual
theorem same_eq : ∀ a b : D, D.same a b = true → a = b
  | .non, b, h => by cases b <;> simp [D.same] at h <;> rfl
  | .bl _, b, h => by cases b <;> simp [D.same] at h; rw [h]
  | .int _, b, h => by cases b <;> simp [D.same] at h; rw [h]
  | .str _, b, h => by cases b <;> simp [D.same] at h; rw [h]
  | .tup a, b, h => by
    cases b with
    | tup b => rw [sames_eq a b (by simpa [D.same] using h)]
    | _ => simp [D.same] at h
  | .lst a, b, h => by
    cases b with
    | lst b => rw [sames_eq a b (by simpa [D.same] using h)]
    | _ => simp [D.same] at h
  | .ref _, b, h => by cases b <;> simp [D.same] at h; rw [h]
  | .scr _, b, h => by cases b <;> simp [D.same] at h; rw [h]
theorem sames_eq : ∀ a b : List D, D.sames a b = true → a = b
  | [], [], _ => rfl
  | [], _ :: _, h => by simp [D.sames] at h
  | _ :: _, [], h => by simp [D.sames] at h
  | a :: as, b :: bs, h => by
    simp only [D.sames, Bool.and_eq_true] at h
    rw [same_eq a b h.1, sames_eq as bs h.2]
end
def pairsSame : List (D × D) → List (D × D) → Bool
  | [], [] => true
  | (a, b) :: r, (c, d) :: q => D.same a c && D.same b d && pairsSame r q
  | _, _ => false
def flsSame : List (Str × D) → List (Str × D) → Bool
  | [], [] => true
  | (a, b) :: r, (c, d) :: q => (a == c) && D.same b d && flsSame r q
  | _, _ => false
theorem pairsSame_refl : ∀ a, pairsSame a a = true
  | [] => rfl
  | (a, b) :: r => by simp [pairsSame, same_refl, pairsSame_refl r]
theorem flsSame_refl : ∀ a, flsSame a a = true
  | [] => rfl
  | (a, b) :: r => by simp [flsSame, same_refl, flsSame_refl r]
theorem pairsSame_eq : ∀ a b, pairsSame a b = true → a = b
  | [], [], _ => rfl
  | [], _ :: _, h => by simp [pairsSame] at h
  | _ :: _, [], h => by simp [pairsSame] at h
  | (a, b) :: r, (c, d) :: q, h => by
    simp only [pairsSame, Bool.and_eq_true] at h
    rw [same_eq a c h.1.1, same_eq b d h.1.2, pairsSame_eq r q h.2]
theorem flsSame_eq : ∀ a b, flsSame a b = true → a = b
  | [], [], _ => rfl
  | [], _ :: _, h => by simp [flsSame] at h
  | _ :: _, [], h => by simp [flsSame] at h
  | (a, b) :: r, (c, d) :: q, h => by
    simp only [flsSame, Bool.and_eq_true, beq_iff_eq] at h
    rw [h.1.1, same_eq b d h.1.2, flsSame_eq r q h.2]
def Ob.same : Ob → Ob → Bool
  | .lst a, .lst b => D.sames a b
  | .dict a, .dict b => pairsSame a b
  | .fdict a, .fdict b => pairsSame a b
  | .dks a, .dks b => flsSame a b
  | .ins c a, .ins d b => (c == d) && flsSame a b
  | _, _ => false
theorem obSame_refl : ∀ a : Ob, Ob.same a a = true
  | .lst a => sames_refl a
  | .dict a => pairsSame_refl a
  | .fdict a => pairsSame_refl a
  | .dks a => flsSame_refl a
  | .ins c a => by simp [Ob.same, flsSame_refl a]
theorem obSame_eq : ∀ a b : Ob, Ob.same a b = true → a = b
  | .lst a, b, h => by cases b <;> first | (simp [Ob.same] at h; done) | skip; rw [sames_eq a _ h]
  | .dict a, b, h => by cases b <;> first | (simp [Ob.same] at h; done) | skip; rw [pairsSame_eq a _ h]
  | .fdict a, b, h => by cases b <;> first | (simp [Ob.same] at h; done) | skip; rw [pairsSame_eq a _ h]
  | .dks a, b, h => by cases b <;> first | (simp [Ob.same] at h; done) | skip; rw [flsSame_eq a _ h]
  | .ins c a, b, h => by
    cases b with
    | ins d b => simp only [Ob.same, Bool.and_eq_true, beq_iff_eq] at h; rw [h.1, flsSame_eq a _ h.2]
    | _ => simp [Ob.same] at h
def hSame : Hs → Hs → Bool
  | [], [] => true
  | a :: r, b :: q => Ob.same a b && hSame r q
  | _, _ => false
@[simp] theorem hSame_refl : ∀ a : Hs, hSame a a = true
  | [] => rfl
  | a :: r => by simp [hSame, obSame_refl a, hSame_refl r]
theorem hSame_eq : ∀ a b : Hs, hSame a b = true → a = b
  | [], [], _ => rfl
  | [], _ :: _, h => by simp [hSame] at h
  | _ :: _, [], h => by simp [hSame] at h
  | a :: r, b :: q, h => by
    simp only [hSame, Bool.and_eq_true] at h
    rw [obSame_eq a b h.1, hSame_eq r q h.2]
mutual
def D.low (n : Nat) : D → Bool
  | .ref k => decide (k < n)
  | .tup xs => D.lows n xs
  | .lst xs => D.lows n xs
  | .non => true
  | .bl _ => true
  | .int _ => true
  | .str _ => true
  | .scr _ => true
def D.lows (n : Nat) : List D → Bool
  | [] => true
  | x :: xs => D.low n x && D.lows n xs
end
def Ob.low (n : Nat) : Ob → Bool
  | .lst xs => D.lows n xs
  | .dict kvs => kvs.all fun p => p.1.low n && p.2.low n
  | .fdict kvs => kvs.all fun p => p.1.low n && p.2.low n
  | .dks kvs => kvs.all fun p => p.2.low n
  | .ins _ fs => fs.all fun p => p.2.low n
/-- what stands behind a call, of what stood before (n things) -/
def trunc (h1 h2 : Hs) : Option Hs :=
  if hSame (h2.take h1.length) h1 then some h1
  else if (h2.take h1.length).all (Ob.low h1.length) then some (h2.take h1.length) else none
/-- a new list handed out is settled -/
def froz1 (h : Hs) (n : Nat) (d : D) : Option D :=
  if d.low n then some d else match d with
    | .ref i => match h[i]? with
      | some (.lst xs) => if D.lows n xs then some (.lst xs) else none
      | _ => none
    | _ => none
def froz1s (h : Hs) (n : Nat) : List D → Option (List D)
  | [] => some []
  | d :: ds => match froz1 h n d, froz1s h n ds with
    | some x, some xs => some (x :: xs)
    | _, _ => none
def froz (h : Hs) (n : Nat) (d : D) : Option D :=
  if d.low n then some d else match d with
    | .tup xs => (froz1s h n xs).map .tup
    | d => froz1 h n d

section
variable {P : Program} {w : World} {K : PySem.W.Frag} {mg : Str → Option Value} {ρ t : List Addr} {H : Hp} {σ : Hs}
mutual
theorem below_of : ∀ (d : D) (v : V), RD K ρ H d v → d.low ρ.length = true
  | .non, _, _ => rfl
  | .bl _, _, _ => rfl
  | .int _, _, _ => rfl
  | .str _, _, _ => rfl
  | .tup ds, _, ⟨_, vs, _, _, r⟩ => belows_of ds vs r
  | .lst ds, _, ⟨_, vs, _, _, r⟩ => belows_of ds vs r
  | .ref n, _, ⟨_, _, h⟩ => decide_eq_true (List.getElem?_eq_some_iff.mp h).1
  | .scr _, _, _ => rfl
theorem belows_of : ∀ (ds : List D) (vs : List V), RDs K ρ H ds vs → D.lows ρ.length ds = true
  | [], _, _ => rfl
  | d :: ds, _, ⟨v, r, _, h1, h2⟩ => by rw [D.lows, below_of d v h1, belows_of ds r h2]; rfl
end
mutual
/-- only the first of the objects are kept in view -/
theorem RD.cut : ∀ (d : D) (v : V), RD K (ρ ++ t) H d v → d.low ρ.length = true → RD K ρ H d v
  | .non, _, h, _ => h
  | .bl _, _, h, _ => h
  | .int _, _, h, _ => h
  | .str _, _, h, _ => h
  | .tup ds, _, ⟨a, vs, e, tt, r⟩, b => ⟨a, vs, e, tt.imp (fun x => ⟨x.1, fun z => x.2 (List.mem_append_left _ z)⟩) fun x => x, RDs.cut ds vs r b⟩
  | .lst ds, _, ⟨a, vs, e, tt, r⟩, b => ⟨a, vs, e, ⟨tt.1, fun z => tt.2 (List.mem_append_left _ z)⟩, RDs.cut ds vs r b⟩
  | .ref n, _, ⟨a, e, h⟩, b => ⟨a, e, by rw [List.getElem?_append_left (of_decide_eq_true b)] at h; exact h⟩
  | .scr _, _, ⟨a, e, tt⟩, _ => ⟨a, e, tt.imp (fun x => ⟨x.1, fun z => x.2 (List.mem_append_left _ z)⟩) fun x => x⟩
theorem RDs.cut : ∀ (ds : List D) (vs : List V), RDs K (ρ ++ t) H ds vs → D.lows ρ.length ds = true → RDs K ρ H ds vs
  | [], _, h, _ => h
  | d :: ds, _, ⟨v, r, e, h1, h2⟩, b => by
    simp only [D.lows, Bool.and_eq_true] at b
    exact ⟨v, r, e, RD.cut d v h1 b.1, RDs.cut ds r h2 b.2⟩
end
theorem below_ro {a : Addr} : ∀ (o : Ob), RO P w K mg ρ H a o → o.low ρ.length = true
  | .lst xs, ⟨vs, _, r⟩ => belows_of xs vs r
  | .dict kvs, ⟨kvh, _, r⟩ => by
    have key : ∀ {kvs : List (D × D)} {kvh : List (NestedKey × Addr × V)}, Paired (fun (p : D × D) (q : NestedKey × Addr × V) => q.1 = p.1.key ∧ p.1.isKey = true ∧ RD K ρ H p.1 (.ref q.2.1) ∧ RD K ρ H p.2 q.2.2) kvs kvh → (kvs.all fun p => p.1.low ρ.length && p.2.low ρ.length) = true := by
      intro kvs kvh r
      induction r with
      | nil => rfl
      | cons h1 _ ih => rw [List.all_cons, ih, below_of _ _ h1.2.2.1, below_of _ _ h1.2.2.2]; rfl
    exact key r
  | .fdict kvs, ⟨kvh, _, _, r⟩ => by
    have key : ∀ {kvs : List (D × D)} {kvh : List (NestedKey × Addr × V)}, Paired (fun (p : D × D) (q : NestedKey × Addr × V) => q.1 = p.1.key ∧ p.1.isKey = true ∧ RD K ρ H p.1 (.ref q.2.1) ∧ RD K ρ H p.2 q.2.2) kvs kvh → (kvs.all fun p => p.1.low ρ.length && p.2.low ρ.length) = true := by
      intro kvs kvh r
      induction r with
      | nil => rfl
      | cons h1 _ ih => rw [List.all_cons, ih, below_of _ _ h1.2.2.1, below_of _ _ h1.2.2.2]; rfl
    exact key r
  | .dks kvs, ⟨kvh, _, r⟩ => by
    have key : ∀ {kvs : List (Str × D)} {kvh : List (Key × V)}, Paired (fun (p : Str × D) (q : Key × V) => q.1 = .inr p.1 ∧ RD K ρ H p.2 q.2) kvs kvh → (kvs.all fun p => p.2.low ρ.length) = true := by
      intro kvs kvh r
      induction r with
      | nil => rfl
      | cons h1 _ ih => rw [List.all_cons, ih, below_of _ _ h1.2]; rfl
    exact key r
  | .ins C fs, ⟨_, _, vs, _, _, r⟩ => by
    have key : ∀ {kvs : List (Str × D)} {kvh : List (Str × V)}, Paired (fun (p : Str × D) (q : Str × V) => q.1 = p.1 ∧ RD K ρ H p.2 q.2) kvs kvh → (kvs.all fun p => p.2.low ρ.length) = true := by
      intro kvs kvh r
      induction r with
      | nil => rfl
      | cons h1 _ ih => rw [List.all_cons, ih, below_of _ _ h1.2]; rfl
    exact key r
theorem pall {α β : Type} {F G : α → β → Prop} {p : α → Bool} (f : ∀ a b, F a b → p a = true → G a b) : ∀ {xs : List α} {ys : List β}, Paired F xs ys → xs.all p = true → Paired G xs ys
  | _, _, .nil, _ => .nil
  | _, _, .cons h t, b => by
    rw [List.all_cons, Bool.and_eq_true] at b
    exact .cons (f _ _ h b.1) (pall f t b.2)
theorem RO.cut {a : Addr} : ∀ (o : Ob), RO P w K mg (ρ ++ t) H a o → o.low ρ.length = true → RO P w K mg ρ H a o
  | .lst xs, ⟨vs, h, r⟩, b => ⟨vs, h, RDs.cut xs vs r b⟩
  | .dict kvs, ⟨kvh, h, r⟩, b => ⟨kvh, h, pall (fun p q ⟨h1, h2, h3, h4⟩ bb => by
      rw [Bool.and_eq_true] at bb
      exact ⟨h1, h2, RD.cut _ _ h3 bb.1, RD.cut _ _ h4 bb.2⟩) r b⟩
  | .fdict kvs, ⟨kvh, od, h, r⟩, b => ⟨kvh, od, h, pall (fun p q ⟨h1, h2, h3, h4⟩ bb => by
      rw [Bool.and_eq_true] at bb
      exact ⟨h1, h2, RD.cut _ _ h3 bb.1, RD.cut _ _ h4 bb.2⟩) r b⟩
  | .dks kvs, ⟨kvh, h, r⟩, b => ⟨kvh, h, pall (fun p q ⟨h1, h3⟩ bb => ⟨h1, RD.cut _ _ h3 bb⟩) r b⟩
  | .ins C fs, ⟨c, dx, vs, m, h, r⟩, b => ⟨c, dx, vs, m, h, pall (fun p q ⟨h1, h3⟩ bb => ⟨h1, RD.cut _ _ h3 bb⟩) r b⟩
theorem RS.cut (r : RS P w K mg (ρ ++ t) σ H) (hb : ∀ (n : Nat) o, n < ρ.length → σ[n]? = some o → o.low ρ.length = true) : RS P w K mg ρ (σ.take ρ.length) H := by
  have hl := r.len
  rw [List.length_append] at hl
  refine ⟨by rw [List.length_take]; omega, (List.nodup_append.mp r.nd).1, fun n a o h1 h2 => ?_⟩
  have hn := (List.getElem?_eq_some_iff.mp h1).1
  rw [List.getElem?_take_of_lt hn] at h2
  exact RO.cut o (r.at_ n a o (by rw [List.getElem?_append_left hn]; exact h1) h2) (hb n o hn h2)
/-- behind a call: ours are those that stood before -/
theorem RS.trunc {σ1 σ2 σ3 : Hs} {H1 : Hp} (r1 : RS P w K mg ρ σ1 H1) (r2 : RS P w K mg (ρ ++ t) σ2 H) (h : trunc σ1 σ2 = some σ3) : RS P w K mg ρ σ3 H := by
  have hl := r1.len
  unfold Lb.trunc at h
  by_cases hs : hSame (σ2.take σ1.length) σ1 = true
  · rw [if_pos hs] at h
    cases h
    have e := hSame_eq _ _ hs
    have q := r2.cut (fun n o hn ho => ?_)
    · rw [hl, e] at q; exact q
    · have hn' : n < σ1.length := by rw [← hl]; exact hn
      have e2 : σ1[n]? = some o := by rw [← e, List.getElem?_take_of_lt hn']; exact ho
      obtain ⟨a, ha⟩ : ∃ a, ρ[n]? = some a := ⟨ρ[n], by simp [hn]⟩
      exact below_ro o (r1.at_ n a o ha e2)
  · rw [if_neg hs] at h
    by_cases hb : (σ2.take σ1.length).all (Ob.low σ1.length) = true
    · rw [if_pos hb] at h
      cases h
      rw [← hl] at hb ⊢
      refine r2.cut fun n o hn ho => ?_
      exact List.all_eq_true.mp hb o (List.mem_of_getElem? (i := n) (by rw [List.getElem?_take_of_lt hn]; exact ho))
    · rw [if_neg hb] at h; cases h
theorem froz1_ok (r : RS P w K mg (ρ ++ t) σ H) {d d' : D} {v : V} (rd : RD K (ρ ++ t) H d v) (h : froz1 σ ρ.length d = some d') : RD K ρ H d' v := by
  unfold froz1 at h
  by_cases hb : d.low ρ.length = true
  · rw [if_pos hb] at h; cases h; exact RD.cut d v rd hb
  · rw [if_neg hb] at h
    cases d with
    | ref i =>
      dsimp only at h
      cases hi : σ[i]? with
      | none => rw [hi] at h; cases h
      | some o =>
        cases o with
        | lst xs =>
          rw [hi] at h
          dsimp only at h
          by_cases hx : D.lows ρ.length xs = true
          · rw [if_pos hx] at h
            cases h
            obtain ⟨a, vs, rfl, ha, t', rr⟩ := r.lst rd hi
            refine ⟨a, vs, rfl, ⟨t', fun hm => ?_⟩, RDs.cut xs vs rr hx⟩
            have hni : ¬ i < ρ.length := fun z => hb (decide_eq_true z)
            rw [List.getElem?_append_right (by omega)] at ha
            exact (List.nodup_append.mp r.nd).2.2 a hm a (List.mem_of_getElem? ha) rfl
          · rw [if_neg hx] at h; cases h
        | _ => rw [hi] at h; cases h
    | _ => cases h
theorem froz1s_ok (r : RS P w K mg (ρ ++ t) σ H) : ∀ {ds ds' : List D} {vs : List V}, RDs K (ρ ++ t) H ds vs → froz1s σ ρ.length ds = some ds' → RDs K ρ H ds' vs
  | [], ds', vs, h, e => by cases e; exact h
  | d :: ds, ds', vs, ⟨v, r', ev, h1, h2⟩, e => by
    subst ev
    simp only [froz1s] at e
    cases q1 : froz1 σ ρ.length d with
    | none => rw [q1] at e; cases e
    | some x =>
      cases q2 : froz1s σ ρ.length ds with
      | none => rw [q1, q2] at e; cases e
      | some xs => rw [q1, q2] at e; cases e; exact ⟨v, r', rfl, froz1_ok r h1 q1, froz1s_ok r h2 q2⟩
theorem froz_ok (r : RS P w K mg (ρ ++ t) σ H) {d d' : D} {v : V} (rd : RD K (ρ ++ t) H d v) (h : froz σ ρ.length d = some d') : RD K ρ H d' v := by
  unfold froz at h
  by_cases hb : d.low ρ.length = true
  · rw [if_pos hb] at h; cases h; exact RD.cut d v rd hb
  · rw [if_neg hb] at h
    cases d with
    | tup xs =>
      dsimp only at h
      cases q : froz1s σ ρ.length xs with
      | none => rw [q] at h; cases h
      | some ys =>
        rw [q] at h
        cases h
        obtain ⟨a, vs, e, tt, rr⟩ := rd
        exact ⟨a, vs, e, tt.imp (fun x => ⟨x.1, fun z => x.2 (List.mem_append_left _ z)⟩) fun x => x, froz1s_ok r rr q⟩
    | _ => exact froz1_ok r rd h
end

/-! ### defs -/
abbrev Fn := List D → Hs → R D
/-- a def's body S with so many names -/
def fnB (n : Nat) (S : Sv) : Fn := fun ds h => match S (ds.map some ++ List.replicate (n - ds.length) none) h with
  | .nx _ h1 => .ok .non h1
  | .rt d h1 => .ok d h1
  | .exc c _ h1 => .exc c h1
  | _ => .bad
def excW (K : PySem.W.Frag) (mg : Str → Option Value) (P : Program) (w : World) (ρ : List Addr) (H : Hp) (r : R D) : XK := fun cls d H' => ∃ c σ' ρ', r = .exc c σ' ∧ Ext ρ ρ' H H' ∧ RS P w K mg ρ' σ' H' ∧ ExcIs K mg ρ' H' c cls d
/-- the promise: what F tells -/
def spF (P : Program) (w : World) (K : PySem.W.Frag) (mg : Str → Option Value) (n : Nat) (F : Fn) : Sp := fun vs H Q E => vs.length = n ∧ ∃ ρ ds σ, RS P w K mg ρ σ H ∧ RDs K ρ H ds vs ∧ F ds σ ≠ .bad ∧
  (∀ v H', (∃ d σ' ρ', F ds σ = .ok d σ' ∧ Ext ρ ρ' H H' ∧ RS P w K mg ρ' σ' H' ∧ RD K ρ' H' d v) → Q v H') ∧ ∀ cls d H', excW K mg P w ρ H (F ds σ) cls d H' → E cls d H'
abbrev FnD (P : Program) (w : World) (K : PySem.W.Frag) (mg : Str → Option Value) (base : Heap) (k : Nat) (f : Addr) (fd : FuncData) (ps : List Str) (F : Fn) : Prop := FnOk P w K mg base (L2.CX P w) k f fd ps (spF P w K mg ps.length F)
/-- f(..): what F tells, the new objects that nothing leads to left out -/
def ends (h1 : Hs) (r : R D) : R D := match r with
  | .ok d h2 => match froz h2 h1.length d, trunc h1 h2 with
    | some d', some h3 => .ok d' h3
    | _, _ => .bad
  | .exc c h2 => match c.fld with
    | none => match trunc h1 h2 with
      | some h3 => .exc c h3
      | none => .bad
    | some (_, x) => if x.low h1.length then (match trunc h1 h2 with
      | some h3 => .exc c h3
      | none => .bad) else .bad
  | .bad => .bad
def run (F : Fn) : List D → Hs → R D := fun xs h => ends h (F xs h)
/-- .. a list of its own, that may change -/
def runM (F : Fn) : List D → Hs → R D := fun xs h => match run F xs h with
  | .ok (.lst ys) h' => .ok (.ref h'.length) (h' ++ [.lst ys])
  | r => r
section
variable {P : Program} {w : World} {K : PySem.W.Frag} {mg : Str → Option Value} {base : Heap}
theorem re_start {K : PySem.W.Frag} {ρ : List Addr} {H : Hp} {N : List Str} {ds : List D} {vs : List V} (r : RDs K ρ H ds vs) (hn : vs.length ≤ N.length) : RE K ρ H (ds.map some ++ List.replicate (N.length - ds.length) none) (start N vs) := by
  have hl := r.length
  unfold L2.start
  refine ⟨by simp [hl], fun i d h => ?_⟩
  by_cases hi : i < ds.length
  · rw [List.getElem?_append_left (by simpa using hi), List.getElem?_map] at h
    cases q : ds[i]? with
    | none => rw [q] at h; cases h
    | some d' =>
      rw [q] at h
      cases h
      obtain ⟨v, hv, rd⟩ := r.get q
      refine ⟨v, ?_, rd⟩
      rw [List.getElem?_append_left (by simp; omega), List.getElem?_map, hv]
      rfl
  · rw [List.getElem?_append_right (by simpa using hi), List.getElem?_replicate] at h
    split at h <;> cases h
theorem fnD_of {x qual : Str} {st : Stmt} {f : Addr} {fd : FuncData} {N ps : List Str} {k : Nat} {S : Sv} (F : L2.Fun K x qual st f fd) (Sc : FnScope N ps (defScope st)) (hN : ps.length ≤ N.length)
    (hbody : ∀ (cdv : Value) (A : Around) (outer : List Env) (s : Shared) (H : Hp) (E : XK), Room k (A.deeper (envOfC qual (defScope st) s.heap.objs.size f cdv)) →
      Good (cxOf (L2.CX P w) P w K mg base N qual (defScope st) f cdv A outer s H E) → DSs (cxOf (L2.CX P w) P w K mg base N qual (defScope st) f cdv A outer s H E) (defBody st) S) : FnD P w K mg base (k + 1) f fd ps (fnB N.length S) := by
  refine F.okX Sc (fun vs H Q E h => h.1) (fun cdv A outer s H vs Q E hr h => ?_)
  obtain ⟨hl, ρ, ds, σ, rs, rds, nb, hq, he⟩ := h
  have g : Good (cxOf (L2.CX P w) P w K mg base N qual (defScope st) f cdv A outer s H E) := ⟨rfl, Sc.nd, by have := hr.un; exact Nat.lt_of_le_of_lt (by show (A.deeper _).units + 200 ≤ (A.deeper _).units + 16 * k + 200; omega) this, passes_of rfl⟩
  refine ⟨_, pss_of (hbody cdv A outer s H E hr g), ρ, _, σ, rs, re_start rds (by rw [hl]; exact hN), ⟨fun z => nb (by unfold fnB; rw [z]), ?_⟩, ?_, ?_, ?_, ?_⟩
  · refine (takes_of rfl rfl rfl rfl).imp fun c d τ' H' ⟨y, e', σ', ρ', q1, q2, q3, q4, q5⟩ => he c d H' ⟨y, σ', ρ', by unfold fnB; rw [q1], q2, q3, q5⟩
  · rintro τ' H' ⟨e', σ', ρ', q1, q2, q3, q4⟩
    exact hq .non H' ⟨.non, σ', ρ', by unfold fnB; rw [q1], q2, q3, rfl⟩
  · rintro v H' ⟨d, σ', ρ', q1, q2, q3, q4⟩
    exact hq v H' ⟨d, σ', ρ', by unfold fnB; rw [q1], q2, q3, q4⟩
  · rintro τ' H' ⟨e', σ', ρ', q1, q2, q3, q4⟩
    exact absurd (by unfold fnB; rw [q1]) nb
  · rintro τ' H' ⟨e', σ', ρ', q1, q2, q3, q4⟩
    exact absurd (by unfold fnB; rw [q1]) nb
/-- a def called with values, as it stands -/
theorem op_fn0 {X : Cx} {k : Nat} {f : Addr} {fd : FuncData} {ps : List Str} {F : Fn} (hF : FnD X.prog X.w X.K X.mg X.base k f fd ps F) (hr : Room k X.A) {ds : List Value} {dvs : List V} {dds : List D} (hb : Binds X.K fd ps ds) (hd : Vals dvs ds) (hdd : ∀ ρ H, RDs X.K ρ H dds dvs) {pins s τ H ρ} {e : En} {σ : Hs} {xs : List D} {vs : List V} {us : List Value} {Q : VK}
    (I : SR X pins ρ e σ τ H s) (rds : RDs X.K ρ H xs vs) (rvs : Vals vs us) (hl : (xs ++ dds).length = ps.length) (h : Safe X ρ H τ (F (xs ++ dds) σ)) (hq : ∀ v H', GD X ρ H (F (xs ++ dds) σ) v H' → Q v H') :
    wpAny (model X.prog X.w) X.A (call (.ref f) us) (EP X pins τ Q) X.xe s := by
  have r2 : Vals (vs ++ dvs) (us ++ ds) := rvs.append hd
  have rd2 : RDs X.K ρ H (xs ++ dds) (vs ++ dvs) := rds.append (hdd ρ H)
  have hl2 : (us ++ ds).length = ps.length := by rw [← r2.length, ← rd2.length]; exact hl
  refine wpAny_call (codeAny_mono (hF.run X.A X.stack s H ⟨us, []⟩ (us ++ ds) (vs ++ dvs) Q (fun cls d H' => WD X ρ H τ (F (xs ++ dds) σ) cls d τ H') hr I.inv.env0 (hb s us I.inv.kIn hl2) r2
    ⟨by rw [← rd2.length]; exact hl, ρ, xs ++ dds, σ, I.rs, rd2, h.nb, fun v H' z => hq v H' z, fun cls d H' ⟨c, σ', ρ', q1, q2, q3, q4⟩ => ⟨c, σ', ρ', q1, rfl, q2, q3, q4⟩⟩) fun r s' hq => ?_)
  cases r with
  | error er => exact h.tk er s' (XE.of_call (W := fun cls d σ' H' => σ' = τ ∧ WD X ρ H τ (F (xs ++ dds) σ) cls d τ H') I.inv (fun cls d H' z => ⟨rfl, z⟩) hq |> fun z => by
      obtain ⟨a, B, sI, pins', σ', H', cls, d, e1, i, nb, up, sky, na, os, ag, e2, z⟩ := z
      subst e2
      exact ⟨a, B, sI, pins', σ', H', cls, d, e1, i, nb, up, sky, na, os, ag, z⟩)
  | ok fl =>
    cases fl with
    | ret u => exact I.inv.after hq
    | next => exact False.elim hq
    | brk => exact False.elim hq
    | cont => exact False.elim hq
end
end Lb

set_option Elab.async false
set_option linter.all false
set_option maxRecDepth 100000
set_option maxHeartbeats 4000000
namespace Lb
open PySem PySem.Spec PyProof.Rows L2
/-- a def that is at hand: its address, its rule -/
structure Df (X : Cx) (x : Str) (k : Nat) (ps : List Str) (F : Fn) (dds : List D) : Prop where
  ex : ∃ (f : Addr) (fd : FuncData) (ds : List Value) (dvs : List V), X.mg x = some (.ref f) ∧ PySem.W.keepIn X.K (.ref f) = true ∧ FnD X.prog X.w X.K X.mg X.base k f fd ps F ∧ Binds X.K fd ps ds ∧ Vals dvs ds ∧ ∀ ρ H, RDs X.K ρ H dds dvs
theorem froz_safe {X : Cx} {ρ H τ} {h1 : Hs} {r : R D} (h : Safe X ρ H τ (ends h1 r)) (hl : ρ.length = h1.length) (rs1 : RS X.prog X.w X.K X.mg ρ h1 H) : Safe X ρ H τ r := by
  refine ⟨fun z => h.nb (by rw [z]; rfl), h.tk.imp fun cls d τ' H' ⟨c, σ', ρ', q1, q2, q3, q4, q5⟩ => ?_⟩
  subst q1
  obtain ⟨⟨t, e, ht⟩, st, tr, fz⟩ := id q3
  have nb := h.nb
  have fin : ∀ h3, trunc h1 σ' = some h3 → ends h1 (.exc c σ') = .exc c h3 → (∀ f x, c.fld = some (f, x) → x.low ρ.length = true) → WD X ρ H τ (ends h1 (.exc c σ')) cls d τ' H' := by
    intro h3 q6 q7 q8
    refine ⟨c, h3, ρ, q7, q2, ⟨⟨[], by simp, by simp⟩, fun a o ha he => st a o ha he, tr, fz⟩, rs1.trunc (t := t) (by rw [← e]; exact q4) q6, q5.1, ?_⟩
    obtain ⟨_, q5⟩ := q5
    cases hc : c.fld with
    | none => rw [hc] at q5; exact q5
    | some p =>
      obtain ⟨f, x⟩ := p
      rw [hc] at q5
      obtain ⟨dx, v, e1, e2, rd⟩ := q5
      exact ⟨dx, v, e1, e2, RD.cut (t := t) x v (by rw [← e]; exact rd) (q8 f x hc)⟩
  cases hc : c.fld with
  | none =>
    cases ht : trunc h1 σ' with
    | none => exact absurd (by simp [ends, hc, ht]) nb
    | some h3 => exact fin h3 ht (by simp [ends, hc, ht]) fun f x z => by rw [hc] at z; cases z
  | some p =>
    obtain ⟨f, x⟩ := p
    by_cases hx : x.low h1.length = true
    · cases ht : trunc h1 σ' with
      | none => exact absurd (by simp [ends, hc, hx, ht]) nb
      | some h3 => exact fin h3 ht (by simp [ends, hc, hx, ht]) fun f' x' z => by rw [hc] at z; cases z; rw [hl]; exact hx
    · exact absurd (by simp [ends, hc, hx]) nb
theorem froz_gd {X : Cx} {ρ H τ} {h1 : Hs} {r : R D} (h : Safe X ρ H τ (ends h1 r)) (rs1 : RS X.prog X.w X.K X.mg ρ h1 H) {v : V} {H' : Hp} (g : GD X ρ H r v H') : GD X ρ H (ends h1 r) v H' := by
  obtain ⟨d, σ', ρ', q1, q2, q3, q4⟩ := g
  subst q1
  obtain ⟨⟨t, e, ht⟩, st, tr, fz⟩ := id q2
  subst e
  have nb := h.nb
  have hl := rs1.len
  cases hf : froz σ' h1.length d with
  | none => exact absurd (by simp [ends, hf]) nb
  | some d' =>
    cases ht : trunc h1 σ' with
    | none => exact absurd (by simp [ends, hf, ht]) nb
    | some h3 =>
      refine ⟨d', h3, ρ, by simp [ends, hf, ht], ⟨⟨[], by simp, by simp⟩, fun a o ha he => st a o ha he, tr, fz⟩, rs1.trunc q3 ht, froz_ok q3 q4 (by rw [hl]; exact hf)⟩
section
variable {X : Cx} {k : Nat} {ps : List Str} {F : Fn} {dds : List D} {x : Str} {p pos : Pos} {a : Expr} {es : List Expr} {AS : Es}
/-- F where just the parameters' values (but the defaults) are handed in -/
def args (n : Nat) (dds : List D) (F : List D → Hs → R D) : List D → Hs → R D := fun xs h => if (xs ++ dds).length = n then F (xs ++ dds) h else .bad
theorem nbad2 {α : Type} {p : Prop} [Decidable p] {x : R α} (e : (if p then x else R.bad) ≠ .bad) : p := by
  by_cases q : p
  · exact q
  · rw [if_neg q] at e; exact absurd rfl e
theorem op_run (hr : Room k X.A) {f : Addr} {fd : FuncData} {ds : List Value} {dvs : List V} (hF : FnD X.prog X.w X.K X.mg X.base k f fd ps F) (hb : Binds X.K fd ps ds) (hd : Vals dvs ds) (hdd : ∀ ρ H, RDs X.K ρ H dds dvs) : OpN X (.ref f) (args ps.length dds (run F)) := by
  intro pins s τ H ρ e σ xs vs us I rds rvs h
  have hl := nbad2 h.nb
  have e1 : args ps.length dds (run F) xs σ = run F (xs ++ dds) σ := if_pos hl
  rw [e1] at h ⊢
  refine op_fn0 hF hr hb hd hdd I rds rvs hl (froz_safe h I.rs.len I.rs) fun v H' g => froz_gd h I.rs g
/-- where the object is to be handed out as it is -/
theorem op_raw (hr : Room k X.A) {f : Addr} {fd : FuncData} {ds : List Value} {dvs : List V} (hF : FnD X.prog X.w X.K X.mg X.base k f fd ps F) (hb : Binds X.K fd ps ds) (hd : Vals dvs ds) (hdd : ∀ ρ H, RDs X.K ρ H dds dvs) : OpN X (.ref f) (args ps.length dds F) := by
  intro pins s τ H ρ e σ xs vs us I rds rvs h
  have hl := nbad2 h.nb
  have e1 : args ps.length dds F xs σ = F (xs ++ dds) σ := if_pos hl
  rw [e1] at h ⊢
  exact op_fn0 hF hr hb hd hdd I rds rvs hl h fun v H' g => g
theorem de_fn {f : Addr} {FF : List D → Hs → R D} (ho : OpN X (.ref f) FF) (hg : Gl X x) (hm : X.mg x = some (.ref f)) (hk : PySem.W.keepIn X.K (.ref f) = true) (ha : DA X (a :: es) AS) (hdb : (x == ("__debug__" : Str)) = false := by decide)
    (he : starEach (a :: es) X.env = (false, eval a X.env) :: starEach es X.env := by rfl) (hpl : (backTo pos (starEach es X.env)).any (·.1) = false := by rfl) : DE X (.Call (.Name x p) (a :: es) [] pos) (eCall FF AS) := by
  refine ⟨fun {pins s τ H ρ e σ} I h => wpAny_Call_Name_kw (ld_glob I.inv hg hm ?_ hdb)⟩
  refine PySem.W.callWith_K (h₀ := X.base) I.inv.ok.mod.kin hk (ha.thenA pos I h fun ds σ1 ρ1 vs us H1 s1 q1 I1 x1 rds rvs h1 => ⟨I1.inv.kIn, ?_⟩) he hpl
  exact thn (ho I1 rds rvs h1) fun z s2 t => epi t fun v H' g => GD.right (f := FF) q1 x1 g
theorem de_call (D : Df X x k ps F dds) {k' : Nat} (hr : Room k' X.A) (hk : k ≤ k') (hg : Gl X x) (ha : DA X (a :: es) AS) (hdb : (x == ("__debug__" : Str)) = false := by decide)
    (he : starEach (a :: es) X.env = (false, eval a X.env) :: starEach es X.env := by rfl) (hpl : (backTo pos (starEach es X.env)).any (·.1) = false := by rfl) : DE X (.Call (.Name x p) (a :: es) [] pos) (eCall (args ps.length dds (run F)) AS) := by
  obtain ⟨f, fd, ds, dvs, h1, h2, h3, h4, h5, h6⟩ := D.ex
  exact de_fn (op_run (hr.mono hk) h3 h4 h5 h6) hg h1 h2 ha hdb he hpl
theorem de_callX (D : Df X x k ps F dds) {k' : Nat} (hr : Room k' X.A) (hk : k ≤ k') (hg : Gl X x) (ha : DA X (a :: es) AS) (hdb : (x == ("__debug__" : Str)) = false := by decide)
    (he : starEach (a :: es) X.env = (false, eval a X.env) :: starEach es X.env := by rfl) (hpl : (backTo pos (starEach es X.env)).any (·.1) = false := by rfl) : DE X (.Call (.Name x p) (a :: es) [] pos) (eCall (args ps.length dds F) AS) := by
  obtain ⟨f, fd, ds, dvs, h1, h2, h3, h4, h5, h6⟩ := D.ex
  exact de_fn (op_raw (hr.mono hk) h3 h4 h5 h6) hg h1 h2 ha hdb he hpl
end
end Lb

set_option Elab.async false
set_option linter.all false
set_option maxRecDepth 100000
set_option maxHeartbeats 4000000
namespace Lb
open PySem PySem.Spec PyProof.Rows L2
theorem ds_of {X : Cx} {st : Stmt} {t : TS} {S : Sv} (h : PS X st t) (k : ∀ {pins s τ H ρ e σ}, SR X pins ρ e σ τ H s → SafeF X ρ H (S e σ) → t (EF X ρ H (S e σ)) τ H) : DS X st S := ⟨fun {pins s τ H ρ e σ} I sf => h.run pins s τ H _ I.inv (k I sf)⟩

/-! ### list comprehensions: the new list stands as an object of ours while it grows -/
def wipeE (e : En) : List Nat → En
  | [] => e
  | i :: is => (wipeE e is).set i none
def tTrue : Ts := fun _ h => .ok true h
/-- one item: test, element, appended to the list at n -/
def compOne (n : Nat) (G : Tg) (T : Ts) (A : Ev) (x : D) (e : En) (h : Hs) : R Unit := match G x e with
  | none => .bad
  | some e1 => match T e1 h with
    | .ok true h1 => match A e1 h1 with
      | .ok y h2 => match h2[n]? with
        | some (.lst acc) => if acc.length < sizeLine then .ok () (h2.set n (.lst (acc ++ [y]))) else .bad
        | _ => .bad
      | _ => .bad
    | .ok false h1 => .ok () h1
    | _ => .bad
def compL (n : Nat) (G : Tg) (T : Ts) (A : Ev) : List D → En → Hs → R Unit
  | [], _, h => .ok () h
  | x :: xs, e, h => (compOne n G T A x e h).bind fun _ h1 => compL n G T A xs e h1
def compR (m n : Nat) (G : Tg) (T : Ts) (A : Ev) : Nat → Nat → En → Hs → R Unit
  | 0, _, _, _ => .bad
  | k + 1, i, e, h => match h[m]? with
    | some (.lst xs) => match xs[i]? with
      | none => .ok () h
      | some x => (compOne n G T A x e h).bind fun _ h1 => compR m n G T A k (i + 1) e h1
    | _ => .bad
def compS (n : Nat) (G : Tg) (T : Ts) (A : Ev) : Src → En → Hs → R Unit
  | .fix xs => compL n G T A xs
  | .lref m => compR m n G T A fuel 0
/-- what is left of a list that grew at n -/
def compEnd (h1 : Hs) (r : R Unit) : R (List D) := match r with
  | .ok _ h2 => match h2[h1.length]? with
    | some (.lst ys) => if D.lows h1.length ys then (match trunc h1 h2 with
      | some h3 => .ok ys h3
      | none => .bad) else .bad
    | _ => .bad
  | _ => .bad
def lComp (I : Iv) (is : List Nat) (G : Tg) (T : Ts) (A : Ev) : Ln := fun e h => (I e h).bind fun s h1 => compEnd h1 (compS h1.length G T A s (wipeE e is) (h1 ++ [.lst []]))
section
theorem wipeE_length (e : En) : ∀ is, (wipeE e is).length = e.length
  | [] => rfl
  | i :: is => by rw [wipeE, List.length_set, wipeE_length e is]
theorem RE.wiped {K : PySem.W.Frag} {ρ : List Addr} {H : Hp} {e : En} {τ : L2.St} (h : RE K ρ H e τ) : ∀ is, RE K ρ H (wipeE e is) (L2.wipe τ is)
  | [] => h
  | i :: is => by
    have ih := RE.wiped h is
    unfold wipeE L2.wipe
    refine ⟨by simp [ih.1], fun j d q => ?_⟩
    by_cases hj : i = j
    · subst hj
      by_cases hl : i < (wipeE e is).length
      · rw [List.getElem?_set_self hl] at q; cases q
      · rw [List.getElem?_eq_none (by simp; omega)] at q; cases q
    · rw [List.getElem?_set_ne hj] at q ⊢
      exact ih.2 j d q
theorem wipe_get (τ : L2.St) : ∀ (is : List Nat) (i : Nat), (wipe τ is)[i]? = if i ∈ is then (if i < τ.length then some none else none) else τ[i]?
  | [], i => by simp [wipe]
  | j :: is, i => by
    unfold wipe
    by_cases h : j = i
    · subst h
      by_cases hl : j < τ.length
      · rw [List.getElem?_set_self (by rw [wipe_length]; exact hl)]; simp [hl]
      · rw [List.getElem?_eq_none (by simp [wipe_length]; omega)]; simp [hl]
    · rw [List.getElem?_set_ne h, wipe_get τ is i]
      by_cases hi : i ∈ is
      · rw [if_pos hi, if_pos (List.mem_cons_of_mem _ hi)]
      · rw [if_neg hi, if_neg (fun z => by rcases List.mem_cons.mp z with z | z; exact h z.symm; exact hi z)]
theorem wipe_same {τ τ' : L2.St} {is : List Nat} (hl : τ'.length = τ.length) (h : ∀ i, i ∉ is → τ'[i]? = τ[i]?) : wipe τ' is = wipe τ is := by
  apply List.ext_getElem?
  intro i
  rw [wipe_get, wipe_get, hl]
  by_cases hi : i ∈ is
  · rw [if_pos hi, if_pos hi]
  · rw [if_neg hi, if_neg hi, h i hi]
theorem wipe_wipe (τ : L2.St) (is : List Nat) : wipe (wipe τ is) is = wipe τ is := by
  apply List.ext_getElem?
  intro i
  rw [wipe_get, wipe_length, wipe_get]
  by_cases hi : i ∈ is
  · rw [if_pos hi, if_pos hi]
  · rw [if_neg hi, if_neg hi]
end
/-- without the thing at p -/
def hideH (H : Hp) (p : Addr) : Hp := fun b => if b = p then none else H b
theorem hideH_ne {H : Hp} {p b : Addr} (h : b ≠ p) : hideH H p b = H b := if_neg h
theorem hideH_self {H : Hp} {p : Addr} : hideH H p p = none := if_pos rfl
theorem upd_hide {H : Hp} {p : Addr} {o : HO} (h : H p = some o) : upd (hideH H p) p o = H := by
  funext b
  unfold upd hideH
  by_cases e : b = p
  · subst e; rw [if_pos rfl, h]
  · rw [if_neg e, if_neg e]
section
variable {P : Program} {w : World} {K : PySem.W.Frag} {mg : Str → Option Value} {ρ ρ0 t : List Addr} {H : Hp} {σ : Hs} {p : Addr}
theorem rd_hide {a : Addr} {u : HO} (hp : p ∈ ρ) (h : Rd H a u ∧ a ∉ ρ) : Rd (hideH H p) a u ∧ a ∉ ρ := by
  have ne : a ≠ p := fun e => h.2 (e ▸ hp)
  refine ⟨?_, h.2⟩
  rcases h.1 with q | ⟨o, q⟩
  · exact .inl (by rw [hideH_ne ne]; exact q)
  · exact .inr ⟨o, by rw [hideH_ne ne]; exact q⟩
mutual
theorem RD.hide (hp : p ∈ ρ) : ∀ (d : D) (v : V), RD K ρ H d v → RD K ρ (hideH H p) d v
  | .non, _, h => h
  | .bl _, _, h => h
  | .int _, _, h => h
  | .str _, _, h => h
  | .tup ds, _, ⟨a, vs, e, tt, r⟩ => ⟨a, vs, e, tt.imp (fun x => rd_hide hp x) fun x => x, RDs.hide hp ds vs r⟩
  | .lst ds, _, ⟨a, vs, e, tt, r⟩ => ⟨a, vs, e, ⟨by rw [hideH_ne (fun z => tt.2 (by rw [z]; exact hp))]; exact tt.1, tt.2⟩, RDs.hide hp ds vs r⟩
  | .ref n, _, h => h
  | .scr _, _, ⟨a, e, tt⟩ => ⟨a, e, tt.imp (fun x => rd_hide hp x) fun x => x⟩
theorem RDs.hide (hp : p ∈ ρ) : ∀ (ds : List D) (vs : List V), RDs K ρ H ds vs → RDs K ρ (hideH H p) ds vs
  | [], _, h => h
  | d :: ds, _, ⟨v, r, e, h1, h2⟩ => ⟨v, r, e, RD.hide hp d v h1, RDs.hide hp ds r h2⟩
end
theorem RO.hide (hp : p ∈ ρ) {a : Addr} (ha : a ≠ p) : ∀ (o : Ob), RO P w K mg ρ H a o → RO P w K mg ρ (hideH H p) a o
  | .lst xs, ⟨vs, h, r⟩ => ⟨vs, by rw [hideH_ne ha]; exact h, RDs.hide hp xs vs r⟩
  | .dict kvs, ⟨kvh, h, r⟩ => ⟨kvh, by rw [hideH_ne ha]; exact h, pimp r fun p q ⟨h1, h2, h3, h4⟩ => ⟨h1, h2, RD.hide hp _ _ h3, RD.hide hp _ _ h4⟩⟩
  | .fdict kvs, ⟨kvh, od, h, r⟩ => ⟨kvh, od, by rw [hideH_ne ha]; exact h, pimp r fun p q ⟨h1, h2, h3, h4⟩ => ⟨h1, h2, RD.hide hp _ _ h3, RD.hide hp _ _ h4⟩⟩
  | .dks kvs, ⟨kvh, h, r⟩ => ⟨kvh, by rw [hideH_ne ha]; exact h, pimp r fun p q ⟨h1, h3⟩ => ⟨h1, RD.hide hp _ _ h3⟩⟩
  | .ins C fs, ⟨c, dx, vs, m, h, r⟩ => ⟨c, dx, vs, m, by rw [hideH_ne ha]; exact h, pimp r fun p q ⟨h1, h3⟩ => ⟨h1, RD.hide hp _ _ h3⟩⟩
/-- what is left of the store when the list at p, the first of the new ones, is handed out -/
theorem RS.takeout {σ1 σ3 : Hs} {H1 : Hp} (r1 : RS P w K mg ρ σ1 H1) (r2 : RS P w K mg (ρ ++ p :: t) σ H) (h : Lb.trunc σ1 σ = some σ3) : RS P w K mg ρ σ3 (hideH H p) := by
  have q := r1.trunc r2 h
  have hpm : p ∈ ρ ++ p :: t := by simp
  refine ⟨q.len, q.nd, fun n a o h1 h2 => ?_⟩
  have hne : a ≠ p := fun z => by
    have := (List.nodup_append.mp r2.nd).2.2 a (List.mem_of_getElem? h1) p (by simp)
    exact this z
  have z := q.at_ n a o h1 h2
  -- through the longer list
  have lo := below_ro o z
  have hn : n < ρ.length := (List.getElem?_eq_some_iff.mp h1).1
  have z2 : RO P w K mg (ρ ++ p :: t) H a o := by
    have key : ∀ m : Nat, σ3[n]? = some o → RO P w K mg (ρ ++ p :: t) H a o := fun _ _ => by
      have := r2.at_ n a
      unfold Lb.trunc at h
      have hs : σ3 = σ.take σ1.length := by
        by_cases hs : hSame (σ.take σ1.length) σ1 = true
        · rw [if_pos hs] at h; cases h; exact (hSame_eq _ _ hs).symm
        · rw [if_neg hs] at h
          by_cases hb : (σ.take σ1.length).all (Ob.low σ1.length) = true
          · rw [if_pos hb] at h; cases h; rfl
          · rw [if_neg hb] at h; cases h
      rw [hs, List.getElem?_take_of_lt (by rw [← r1.len]; exact hn)] at h2
      exact this o (by rw [List.getElem?_append_left hn]; exact h1) h2
    exact key 0 h2
  exact RO.cut o (RO.hide hpm hne o z2) lo
end
section
variable {X : Cx} {pos spos : Pos} {elt tg iter : Expr} {ifs : List Expr} {scope : Scope} {own : List (Str × Nat)} {E : Iv} {G : Tg} {T : Ts} {A : Ev}
theorem Good.blk (g : Good X) (s : Shared) (H : Hp) (scope : Scope) (cenv : Env) (fp : List Addr) : Good (X.blk s H scope cenv fp) := ⟨g.calm, g.nd, g.un, PassesOwn.never⟩
/-- the tests of a clause -/
structure DTs (X : Cx) (ifs : List Expr) (T : Ts) : Prop where
  run : ∀ {pins s τ H ρ e σ}, SR X pins ρ e σ τ H s → Safe X ρ H τ (T e σ) →
    wpAny (model X.prog X.w) X.A (forIn ifs true fun c r => if r = true then do let ok ← isTrue c X.env (eval c X.env); pure (ForInStep.yield ok) else pure (ForInStep.yield r)) (TP X pins τ (GB X ρ H (T e σ))) X.xe s
theorem dts_nil : DTs X [] tTrue := ⟨fun {pins s τ H ρ e σ} I _ => wpAny_tests_nil ⟨H, I.inv, σ, ρ, rfl, Ext.refl, I.rs⟩⟩
theorem dts_one {c : Expr} (h : DT X c T) : DTs X [c] T := ⟨fun I sf => wpAny_tests_one (h.run I sf)⟩
/-- in a block nothing is let out: its end is told -/
def blTT (X : Cx) (T : Ts) : TT := fun τ H Q => ∃ ρ e σ b σ', RS X.prog X.w X.K X.mg ρ σ H ∧ RE X.K ρ H e τ ∧ T e σ = .ok b σ' ∧ ∀ k H', GB X ρ H (T e σ) k H' → Q k H'
def blTE (X : Cx) (A : Ev) : TE := fun τ H Q => ∃ ρ e σ d σ', RS X.prog X.w X.K X.mg ρ σ H ∧ RE X.K ρ H e τ ∧ A e σ = .ok d σ' ∧ ∀ v H', GD X ρ H (A e σ) v H' → Q v H'
theorem safe_ok {X : Cx} {ρ H τ} {α : Type} {r : R α} {a : α} {h : Hs} (e : r = .ok a h) : Safe X ρ H τ r := ⟨fun z => (by rw [e] at z; cases z), takes0.imp fun c d τ' H' ⟨x, σ', ρ', q, _⟩ => (by rw [e] at q; cases q)⟩
theorem blPTs {s : Shared} {H : Hp} {cenv : Env} {fp : List Addr} (h : DTs (X.blk s H scope cenv fp) ifs T) : PTs (X.blk s H scope cenv fp) ifs (blTT X T) :=
  ⟨fun pins s τ H Q I ⟨ρ, e, σ, b, σ', rs, re, eq, k⟩ => thn (h.run ⟨I, rs, re⟩ (safe_ok eq)) fun u s1 t => tpi t fun v H' gb => k v H' gb⟩
theorem blPE {s : Shared} {H : Hp} {cenv : Env} {fp : List Addr} (h : DE (X.blk s H scope cenv fp) elt A) : PE (X.blk s H scope cenv fp) elt (blTE X A) :=
  ⟨fun pins s τ H Q I ⟨ρ, e, σ, d, σ', rs, re, eq, k⟩ => thn (h.run ⟨I, rs, re⟩ (safe_ok eq)) fun u s1 t => epi t fun v H' gb => k v H' gb⟩
/-- one turn, at the store σ2 -/
theorem comp_turn {ρ2 : List Addr} {H2 : Hp} {σ2 σ3 : Hs} {e0 : En} {τ0 : L2.St} {is : List Nat} {n : Nat} {Dp : Addr} {x : D} {y : V} {Nx : Hp → Prop} {H1 : Hp} {ρ1 : List Addr} (hw : ∀ τ', τ'.length = (wipe τ0 is).length → (∀ i, i ∉ is → τ'[i]? = (wipe τ0 is)[i]?) → wipe τ' is = wipe τ0 is)
    (x2 : Ext ρ1 ρ2 H1 H2) (rs2 : RS X.prog X.w X.K X.mg ρ2 σ2 H2) (re2 : RE X.K ρ2 H2 e0 (wipe τ0 is)) (hn : ρ1[n]? = some Dp) (rd : RD X.K ρ2 H2 x y) (hr : compOne n G T A x e0 σ2 = .ok () σ3)
    (hN : ∀ H' ρ', Ext ρ1 ρ' H1 H' → RS X.prog X.w X.K X.mg ρ' σ3 H' → Nx H') :
    toTG X G is y (wipe τ0 is) H2 fun τ4 H4 => wipe τ4 is = wipe τ0 is ∧ blTT X T τ4 H4 fun b H5 =>
      if b = true then blTE X A τ4 H5 fun z H6 => ∃ acc, H6 Dp = some (.lst acc) ∧ acc.length < sizeLine ∧ Nx (upd H6 Dp (.lst (acc ++ [z]))) else Nx H5 := by
  unfold compOne at hr
  cases hG : G x e0 with
  | none => rw [hG] at hr; cases hr
  | some e3 =>
    rw [hG] at hr
    dsimp only at hr
    refine ⟨ρ2, e0, σ2, x, e3, rs2, re2, rd, hG, fun τ4 re4 hl hk => ⟨hw τ4 hl hk, ?_⟩⟩
    cases hT : T e3 σ2 with
    | exc _ _ => rw [hT] at hr; cases hr
    | bad => rw [hT] at hr; cases hr
    | ok b σ5 =>
      rw [hT] at hr
      refine ⟨ρ2, e3, σ2, b, σ5, rs2, re4, hT, ?_⟩
      rintro k H5 ⟨σ5', ρ5, q5, x5, rs5⟩
      rw [hT] at q5
      cases q5
      cases b with
      | false =>
        rw [if_neg Bool.false_ne_true]
        have e5 : σ5 = σ3 := by have : (R.ok () σ5) = R.ok () σ3 := hr; cases this; rfl
        subst e5
        exact hN H5 ρ5 (x2.trans x5) rs5
      | true =>
        rw [if_pos rfl]
        dsimp only at hr
        cases hA : A e3 σ5 with
        | exc _ _ => rw [hA] at hr; cases hr
        | bad => rw [hA] at hr; cases hr
        | ok d σ6 =>
          rw [hA] at hr
          dsimp only at hr
          refine ⟨ρ5, e3, σ5, d, σ6, rs5, re4.ext x5, hA, ?_⟩
          rintro z H6 ⟨d', σ6', ρ6, q6, x6, rs6, rd6⟩
          rw [hA] at q6
          cases q6
          cases hl : σ6[n]? with
          | none => rw [hl] at hr; cases hr
          | some o =>
            cases o with
            | lst acc =>
              rw [hl] at hr
              dsimp only at hr
              by_cases hz : acc.length < sizeLine
              · rw [if_pos hz] at hr
                cases hr
                have hnD : ρ6[n]? = some Dp := (x2.trans (x5.trans x6)).get hn
                obtain ⟨vs, hH, rr⟩ := rs6.at_ n Dp _ hnD hl
                refine ⟨vs, hH, by rw [← rr.length]; exact hz, ?_⟩
                have ep : Ext ρ6 ρ6 H6 (upd H6 Dp (.lst (vs ++ [z]))) := Ext.put (List.mem_of_getElem? hnD)
                refine hN _ ρ6 (x2.trans (x5.trans (x6.trans ep))) (rs6.put hnD ⟨vs ++ [z], upd_same, ?_⟩)
                exact RDs.ext ep _ _ (rr.append (.one rd6))
              · rw [if_neg hz] at hr; cases hr
            | _ => rw [hl] at hr; cases hr
theorem bind_ok {α β : Type} {r : R α} {f : α → Hs → R β} {b : β} {h : Hs} (e : r.bind f = .ok b h) : ∃ a h1, r = .ok a h1 ∧ f a h1 = .ok b h := by
  cases r with
  | ok a h1 => exact ⟨a, h1, rfl, e⟩
  | exc _ _ => cases e
  | bad => cases e
theorem lc_app (hi : DI X tg iter E) {pins : List (Addr × Obj)} {s : Shared} {τ : L2.St} {H : Hp} {ρ : List Addr} {e : En} {σ : Hs} {Qv : VK} (I : SR X pins ρ e σ τ H s) (h : Safe X ρ H τ (lComp E (own.map (·.2)) G T A e σ))
    (kq : ∀ v H', GN X ρ H (lComp E (own.map (·.2)) G T A e σ) v H' → Qv v H') : tLc (toTI X E) (toTG X G (own.map (·.2))) (blTT X T) (blTE X A) (own.map (·.2)) τ H Qv := by
  refine ⟨ρ, e, σ, I.rs, I.re, h.left, fun J H1 ⟨src, σ1, ρ1, q1, x1, rs1, jok⟩ Dp hD => ?_⟩
  have h1 := h.right q1 x1
  cases hc : compS σ1.length G T A src (wipeE e (own.map (·.2))) (σ1 ++ [.lst []]) with
  | exc _ _ => exact absurd (by simp [compEnd, hc]) h1.nb
  | bad => exact absurd (by simp [compEnd, hc]) h1.nb
  | ok _ h2 =>
    cases hl : h2[σ1.length]? with
    | none => exact absurd (by simp [compEnd, hc, hl]) h1.nb
    | some o =>
      cases o with
      | lst ys =>
        by_cases hlow : D.lows σ1.length ys = true
        · cases htr : trunc σ1 h2 with
          | none => exact absurd (by simp [compEnd, hc, hl, hlow, htr]) h1.nb
          | some h3 =>
            have hres : lComp E (own.map (·.2)) G T A e σ = .ok ys h3 := by unfold lComp; rw [q1]; show compEnd σ1 (compS σ1.length G T A src (wipeE e (own.map (·.2))) (σ1 ++ [.lst []])) = _; simp [compEnd, hc, hl, hlow, htr]
            have hn0 : (ρ1 ++ [Dp])[σ1.length]? = some Dp := by rw [← rs1.len, List.getElem?_append_right (Nat.le_refl _)]; simp
            have rs0 : RS X.prog X.w X.K X.mg (ρ1 ++ [Dp]) (σ1 ++ [.lst []]) (upd H1 Dp (.lst [])) := rs1.new hD ⟨[], upd_same, rfl⟩
            have x0 : Ext ρ1 (ρ1 ++ [Dp]) H1 (upd H1 Dp (.lst [])) := Ext.new hD
            have re0 : RE X.K (ρ1 ++ [Dp]) (upd H1 Dp (.lst [])) (wipeE e (own.map (·.2))) (wipe τ (own.map (·.2))) := ((I.re.ext x1).ext x0).wiped _
            -- the end
            have fin : ∀ H' ρ', Ext (ρ1 ++ [Dp]) ρ' (upd H1 Dp (.lst [])) H' → RS X.prog X.w X.K X.mg ρ' h2 H' → Qv (.ref Dp) H' := by
              intro H' ρ' x' rs'
              obtain ⟨⟨t, et, ht⟩, st, tr, fz⟩ := id x'
              have et2 : ρ' = ρ1 ++ Dp :: t := by rw [et]; simp
              obtain ⟨vs, hH, rr⟩ := rs'.at_ σ1.length Dp _ (x'.get hn0) hl
              subst et2
              have hpm : Dp ∈ ρ1 ++ Dp :: t := by simp
              refine kq _ _ ⟨ys, h3, ρ1, hideH H' Dp, Dp, vs, hres, x1.trans ?_, rs1.takeout rs' htr, ?_, hideH_self, rfl, (upd_hide hH).symm⟩
              · refine ⟨⟨[], by simp, by simp⟩, fun a o ha e => ?_, fun a o e => ?_, fun a o u e => by rw [hideH_ne (ne_of_none e hD)]; exact fz a o u (by rw [upd_ne (ne_of_none e hD)]; exact e)⟩
                · have ne : a ≠ Dp := ne_of_none e hD
                  rw [hideH_ne ne]
                  refine st a o (fun z => ?_) (by rw [upd_ne ne]; exact e)
                  rcases List.mem_append.mp z with z | z
                  · exact ha z
                  · exact ne (by simpa using z)
                · have ne : a ≠ Dp := ne_of_none e hD
                  obtain ⟨o', e'⟩ := tr a o (by rw [upd_ne ne]; exact e)
                  exact ⟨o', by rw [hideH_ne ne]; exact e'⟩
              · exact RDs.cut _ _ (RDs.hide hpm _ _ rr) (by rw [rs1.len]; exact hlow)
            cases src with
            | fix xs =>
              refine ⟨fun i m H2 => m = xs.length - i ∧ i ≤ xs.length ∧ ∃ ρ2 σ2, Ext (ρ1 ++ [Dp]) ρ2 (upd H1 Dp (.lst [])) H2 ∧ RS X.prog X.w X.K X.mg ρ2 σ2 H2 ∧ compL σ1.length G T A (xs.drop i) (wipeE e (own.map (·.2))) σ2 = .ok () h2,
                ⟨xs.length, by simp, Nat.zero_le _, ρ1 ++ [Dp], _, Ext.refl, rs0, hc⟩, ?_⟩
              rintro i m H2 ⟨rfl, hi', ρ2, σ2, x2, rs2, hr2⟩
              obtain ⟨jg, js⟩ := jok ρ2 H2 σ2 (x0.trans x2) rs2
              by_cases hlt : i < xs.length
              · have hx : xs[i]? = some xs[i] := by simp [hlt]
                obtain ⟨go, yl⟩ := jg i xs[i] hx
                rw [List.drop_eq_getElem_cons hlt] at hr2
                obtain ⟨_, σ3, hone, hrest⟩ := bind_ok (show (compOne σ1.length G T A xs[i] (wipeE e (own.map (·.2))) σ2).bind (fun _ h1 => compL σ1.length G T A (xs.drop (i + 1)) (wipeE e (own.map (·.2))) h1) = .ok () h2 from hr2)
                refine .inr ⟨go, fun H' => ∃ ρ3 σ3, Ext (ρ1 ++ [Dp]) ρ3 (upd H1 Dp (.lst [])) H' ∧ RS X.prog X.w X.K X.mg ρ3 σ3 H' ∧ compL σ1.length G T A (xs.drop (i + 1)) (wipeE e (own.map (·.2))) σ3 = .ok () h2,
                  fun H' z => ⟨xs.length - (i + 1), by omega, rfl, hlt, z⟩, fun y H3 hy => ?_⟩
                obtain ⟨x3, rs3, rd3⟩ := yl y H3 hy
                exact comp_turn (fun τ' a b => (wipe_same a b).trans (wipe_wipe τ _)) (x2.trans x3) rs3 (re0.ext (x2.trans x3)) hn0 rd3 hone fun H' ρ' xe rse => ⟨ρ', σ3, xe, rse, hrest⟩
              · have hi2 : i = xs.length := by omega
                subst hi2
                rw [List.drop_length] at hr2
                cases hr2
                exact .inl ⟨js, fin H2 ρ2 x2 rs2⟩
            | lref m0 =>
              refine ⟨fun i m H2 => ∃ ρ2 σ2, Ext (ρ1 ++ [Dp]) ρ2 (upd H1 Dp (.lst [])) H2 ∧ RS X.prog X.w X.K X.mg ρ2 σ2 H2 ∧ compR m0 σ1.length G T A m i (wipeE e (own.map (·.2))) σ2 = .ok () h2,
                ⟨fuel, ρ1 ++ [Dp], _, Ext.refl, rs0, hc⟩, ?_⟩
              rintro i m H2 ⟨ρ2, σ2, x2, rs2, hr2⟩
              cases m with
              | zero => cases hr2
              | succ m =>
                have hr2 : (match σ2[m0]? with
                  | some (.lst xs) => match xs[i]? with
                    | none => R.ok () σ2
                    | some x => (compOne σ1.length G T A x (wipeE e (own.map (·.2))) σ2).bind fun _ h1 => compR m0 σ1.length G T A m (i + 1) (wipeE e (own.map (·.2))) h1
                  | _ => R.bad) = R.ok () h2 := hr2
                cases hn : σ2[m0]? with
                | none => rw [hn] at hr2; cases hr2
                | some o =>
                  cases o with
                  | lst xs =>
                    rw [hn] at hr2
                    dsimp only at hr2
                    obtain ⟨jg, js⟩ := jok ρ2 H2 σ2 (x0.trans x2) rs2 xs hn
                    cases hx : xs[i]? with
                    | none =>
                      rw [hx] at hr2
                      cases hr2
                      exact .inl ⟨js i (List.getElem?_eq_none_iff.mp hx), fin H2 ρ2 x2 rs2⟩
                    | some d0 =>
                      rw [hx] at hr2
                      dsimp only at hr2
                      obtain ⟨go, yl⟩ := jg i d0 hx
                      obtain ⟨_, σ3, hone, hrest⟩ := bind_ok hr2
                      refine .inr ⟨go, fun H' => ∃ ρ3 σ3, Ext (ρ1 ++ [Dp]) ρ3 (upd H1 Dp (.lst [])) H' ∧ RS X.prog X.w X.K X.mg ρ3 σ3 H' ∧ compR m0 σ1.length G T A m (i + 1) (wipeE e (own.map (·.2))) σ3 = .ok () h2,
                        fun H' z => ⟨m, by omega, z⟩, fun y H3 hy => ?_⟩
                      obtain ⟨x3, rs3, rd3⟩ := yl y H3 hy
                      exact comp_turn (fun τ' a b => (wipe_same a b).trans (wipe_wipe τ _)) (x2.trans x3) rs3 (re0.ext (x2.trans x3)) hn0 rd3 hone fun H' ρ' xe rse => ⟨ρ', σ3, xe, rse, hrest⟩
                  | _ => rw [hn] at hr2; cases hr2
        · exact absurd (by simp [compEnd, hc, hl, hlow]) h1.nb
      | _ => exact absurd (by simp [compEnd, hc, hl]) h1.nb
theorem dn_comp (g : Good X) (hi : DI X tg iter E) (ok : BlkOk X.N X.env.scope scope own)
    (hg : ∀ (s : Shared) (H : Hp) (C : Addr) (cl : List (Str × Addr)) (fp : List Addr), DG (X.blk s H scope (compEnvC scope cl C X.env) fp) tg G (own.map (·.2)))
    (ht : ∀ (s : Shared) (H : Hp) (C : Addr) (cl : List (Str × Addr)) (fp : List Addr), DTs (X.blk s H scope (compEnvC scope cl C X.env) fp) ifs T)
    (he : ∀ (s : Shared) (H : Hp) (C : Addr) (cl : List (Str × Addr)) (fp : List Addr), DE (X.blk s H scope (compEnvC scope cl C X.env) fp) elt A) (hs : ∀ x, foldedSetIterable iter X.env x = pure x := by intro _; rfl) :
    DN X (.ListComp elt [⟨tg, iter, ifs, 0⟩] scope pos) (lComp E (own.map (·.2)) G T A) := by
  refine ⟨fun {pins s τ H ρ e σ} I h => ?_⟩
  exact (pe_lc g.calm g.nd (pi_of hi) ok (fun s H C cl fp => (show PG (X.blk s H scope (compEnvC scope cl C X.env) fp) tg (toTG X G (own.map (·.2))) from pg_of (hg s H C cl fp))) (fun s H C cl fp => blPTs (ht s H C cl fp)) (fun s H C cl fp => blPE (he s H C cl fp)) hs).run pins s τ H _ I.inv (lc_app hi I h fun _ _ z => z)
/-- name = [..] on one line -/
def sSetL (i : Nat) (L : Ln) (mu : Bool) : Sv := sSet i (if mu then eMut L else eFroz L)
theorem ds_setLc (g : Good X) {i : Nat} {y : Str} {py spos : Pos} (mu : Bool) (hy : X.N[i]? = some y) (hyl : X.env.scope.names.lookup y = some .local)
    (hsw : swapsWith (.ListComp elt [⟨tg, iter, ifs, 0⟩] scope pos) (some (.Name y py)) spos.line X.env = pure true) (hi : DI X tg iter E) (ok : BlkOk X.N X.env.scope scope own)
    (hg : ∀ (s : Shared) (H : Hp) (C : Addr) (cl : List (Str × Addr)) (fp : List Addr), DG (X.blk s H scope (compEnvC scope cl C X.env) fp) tg G (own.map (·.2)))
    (ht : ∀ (s : Shared) (H : Hp) (C : Addr) (cl : List (Str × Addr)) (fp : List Addr), DTs (X.blk s H scope (compEnvC scope cl C X.env) fp) ifs T)
    (he : ∀ (s : Shared) (H : Hp) (C : Addr) (cl : List (Str × Addr)) (fp : List Addr), DE (X.blk s H scope (compEnvC scope cl C X.env) fp) elt A) (hs : ∀ x, foldedSetIterable iter X.env x = pure x := by intro _; rfl) :
    DS X (.Assign [.Name y py] (.ListComp elt [⟨tg, iter, ifs, 0⟩] scope pos) spos) (sSetL i (lComp E (own.map (·.2)) G T A) mu) := by
  refine ds_of (ps_setLc g.calm g.nd hy hyl hsw (pi_of hi) ok (fun s H C cl fp => (show PG (X.blk s H scope (compEnvC scope cl C X.env) fp) tg (toTG X G (own.map (·.2))) from pg_of (hg s H C cl fp))) (fun s H C cl fp => blPTs (ht s H C cl fp)) (fun s H C cl fp => blPE (he s H C cl fp)) hs) fun {pins s τ H ρ e σ} I sf => ?_
  have sf1 : Safe X ρ H τ (lComp E (own.map (·.2)) G T A e σ) := by
    cases mu with
    | false => exact (SafeF.of I (show SafeF X ρ H ((eFroz (lComp E (own.map (·.2)) G T A) e σ).st e fun d h1 => .nx (e.set i (some d)) h1) from sf)).left
    | true => exact (SafeF.of I (show SafeF X ρ H ((eMut (lComp E (own.map (·.2)) G T A) e σ).st e fun d h1 => .nx (e.set i (some d)) h1) from sf)).left
  refine lc_app hi I sf1 fun v H' ⟨ds, σ', ρ', H1, p, vs, q, x, rs, rd, hp, ev, eH⟩ => ?_
  subst ev eH
  have xl : Ext ρ' ρ' H1 (upd H1 p (.lst vs)) := Ext.laid hp
  cases mu with
  | false =>
    refine ⟨e.set i (some (.lst ds)), σ', ρ', ?_, x.trans xl, rs.laid hp, ?_⟩
    · show sSet i (eFroz (lComp E (own.map (·.2)) G T A)) e σ = _
      unfold sSet eFroz; rw [q]; rfl
    · exact ((I.re.ext x).ext xl).set i ⟨p, vs, rfl, ⟨upd_same, rs.free hp⟩, RDs.ext xl _ _ rd⟩
  | true =>
    have xn : Ext ρ' (ρ' ++ [p]) H1 (upd H1 p (.lst vs)) := Ext.new hp
    refine ⟨e.set i (some (.ref σ'.length)), σ' ++ [.lst ds], ρ' ++ [p], ?_, x.trans xn, rs.new (ob := .lst ds) hp ⟨vs, upd_same, RDs.ext xn _ _ rd⟩, ?_⟩
    · show sSet i (eMut (lComp E (own.map (·.2)) G T A)) e σ = _
      unfold sSet eMut; rw [q]; rfl
    · refine ((I.re.ext x).ext xn).set i ⟨p, rfl, ?_⟩
      show (ρ' ++ [p])[σ'.length]? = some p
      rw [← rs.len, List.getElem?_append_right (Nat.le_refl _)]
      simp
end
end Lb

set_option Elab.async false
set_option linter.all false
set_option maxRecDepth 100000
set_option maxHeartbeats 4000000
namespace Lb
open PySem PySem.Spec PyProof.Rows L2

/-! ### methods of built-in types -/
def tyD (T : String) (h : Hs) (d : D) : Bool := match d with
  | .str _ => T == "str"
  | .int _ => T == "int"
  | .lst _ => T == "list"
  | .scr _ => T == "list"
  | .ref n => match h[n]? with
    | some (.lst _) => T == "list"
    | some (.dict _) => T == "dict"
    | some (.dks _) => T == "dict"
    | _ => false
  | _ => false
def eMeth (T : String) (F : D → List D → Hs → R D) (A : Ev) (AS : Es) : Ev := fun e h => (A e h).bind fun d h1 => if tyD T h1 d then (AS e h1).bind fun ds h2 => F d ds h2 else .bad
def eMeth0 (T : String) (F : D → List D → Hs → R D) (A : Ev) : Ev := fun e h => (A e h).bind fun d h1 => if tyD T h1 d then F d [] h1 else .bad
def OpM (X : Cx) (id : String) (F : D → List D → Hs → R D) : Prop :=
  ∀ {pins s τ H ρ e σ x xs v vs u us}, SR X pins ρ e σ τ H s → RD X.K ρ H x v → RelV v u → RDs X.K ρ H xs vs → Vals vs us → Safe X ρ H τ (F x xs σ) →
    wpAny (model X.prog X.w) X.A (call (.builtin id) (u :: us)) (EP X pins τ (GD X ρ H (F x xs σ))) X.xe s
section
variable {X : Cx} {o e : Expr} {es : List Expr} {A : Ev} {AS : Es} {name : Str} {apos cpos : Pos} {T id : String} {F : D → List D → Hs → R D}
theorem ty_is {pins s τ H ρ} {e : En} {σ : Hs} {x : D} {v : V} {u : Value} (I : SR X pins ρ e σ τ H s) (rd : RD X.K ρ H x v) (r : RelV v u) (ty : tyD T σ x = true) :
    s.TypeIs u T ∧ ∀ a, u = .ref a → ∃ ob, s.heap.get? a = some ob ∧ ob.dict = none := by
  have gen : tyV X.K T v H → s.TypeIs u T ∧ ∀ a, u = .ref a → ∃ ob, s.heap.get? a = some ob ∧ ob.dict = none := fun z => tyV_is I.inv r z
  cases x with
  | str z => cases rd; exact gen (by simpa [tyD, tyV] using ty)
  | int z => cases rd; exact gen (by simpa [tyD, tyV] using ty)
  | lst z => obtain ⟨a, vs, rfl, t, _⟩ := rd; exact gen (.inl ⟨by simpa [tyD] using ty, vs, SqL.of t.1⟩)
  | scr z => obtain ⟨a, rfl, t⟩ := rd; exact gen (.inl ⟨by simpa [tyD] using ty, _, t.seq⟩)
  | ref n =>
    cases hn : σ[n]? with
    | none => simp [tyD, hn] at ty
    | some ob =>
      cases ob with
      | lst xs =>
        simp only [tyD, hn, beq_iff_eq] at ty
        obtain ⟨a, vs, rfl, _, t, _⟩ := I.rs.lst rd hn
        exact gen (.inl ⟨ty, vs, SqL.of t⟩)
      | dks xs =>
        simp only [tyD, hn, beq_iff_eq] at ty
        obtain ⟨a, rfl, ha⟩ := rd
        obtain ⟨kvh, hH, _⟩ := I.rs.at_ n a _ ha hn
        exact gen (.inr (.inr (.inl ⟨ty, .inl ⟨kvh, hH⟩⟩)))
      | dict xs =>
        simp only [tyD, hn, beq_iff_eq] at ty
        subst ty
        obtain ⟨a, kvh, xs, rfl, ha, hH, _, _, _, _, hd⟩ := I.dict rd hn
        cases r
        obtain ⟨o, es, ep, e1, e2, _⟩ := id hd
        exact ⟨hd.typeIs, fun b e => by cases e; exact ⟨o, e1, e2.2.1⟩⟩
      | fdict _ => simp [tyD, hn] at ty
      | ins _ _ => simp [tyD, hn] at ty
  | _ => simp [tyD] at ty
theorem de_bm0 (hm : OpM X id F) (pa : PlainAttrs T) (slot : Slot T name id) (hty : typeOf (.builtin id) = pure (.type "method_descriptor")) (ho : DE X o A)
    (hbase : attributeBase o name X.env (eval o X.env) = eval o X.env := by rfl) (hline : (apos.endLine == cpos.line) = true := by rfl) : DE X (.Call (.Attribute o name apos) [] [] cpos) (eMeth0 T F A) := by
  refine ⟨fun {pins s τ H ρ e σ} I h => ?_⟩
  refine wpAny_Call_method0_late hbase hline (ho.thenD I h fun d σ1 ρ1 v u H1 s1 q1 I1 x1 rd1 rv1 h1 => ?_)
  by_cases ty : tyD T σ1 d = true
  · obtain ⟨g1, g2⟩ := ty_is I1 rd1 rv1 ty
    rw [if_pos ty] at h1
    refine ⟨T, id, pa, slot, hty, g1, g2, Calls.callWith_builtin rfl (PySem.evalArgs_none (thn (hm I1 rd1 rv1 (show RDs X.K ρ1 H1 [] [] from rfl) .nil h1) fun z s2 g => epi g fun v' H' gd => ?_))⟩
    exact GD.right (f := fun d h1 => if tyD T h1 d then F d [] h1 else .bad) q1 x1 (by show GD X ρ1 H1 (if tyD T σ1 d then F d [] σ1 else .bad) v' H'; rw [if_pos ty]; exact gd)
  · rw [if_neg ty] at h1; exact absurd rfl h1.nb
theorem de_bm (hm : OpM X id F) (pa : PlainAttrs T) (slot : Slot T name id) (hty : typeOf (.builtin id) = pure (.type "method_descriptor")) (ho : DE X o A) (ha : DA X (e :: es) AS)
    (hbase : attributeBase o name X.env (eval o X.env) = eval o X.env := by rfl)
    (hfew : ((backTo cpos (starEach (e :: es) X.env)).all (fun x => !x.1) && (backToKw cpos (keywordEach [] X.env)).all (fun x => x.1.isSome)
      && decide ((e :: es).length + ([] : List Keyword).length + (if ([] : List Keyword).isEmpty then 0 else 1) < 30)) = true := by rfl)
    (hline : (apos.endLine == cpos.line) = true := by rfl) (hs : starEach (e :: es) X.env = (false, eval e X.env) :: starEach es X.env := by rfl) (hplain : (backTo cpos (starEach es X.env)).any (·.1) = false := by rfl) :
    DE X (.Call (.Attribute o name apos) (e :: es) [] cpos) (eMeth T F A AS) := by
  refine ⟨fun {pins s τ H ρ e σ} I h => ?_⟩
  refine wpAny_Call_method_late hbase hfew hline rfl (ho.thenD I h fun d σ1 ρ1 v u H1 s1 q1 I1 x1 rd1 rv1 h1 => ?_)
  by_cases ty : tyD T σ1 d = true
  · obtain ⟨g1, g2⟩ := ty_is I1 rd1 rv1 ty
    have h1' : Safe X ρ1 H1 τ ((AS e σ1).bind fun ds h2 => F d ds h2) := by rw [if_pos ty] at h1; exact h1
    refine ⟨T, id, pa, slot, hty, g1, g2, ?_⟩
    have hA := ha.thenA cpos (f := fun us s2 => wpAny (model X.prog X.w) X.A (call (.builtin id) (u :: us)) (EP X pins τ (GD X ρ H (eMeth T F A AS e σ))) X.xe s2) I1 h1' fun ds σ2 ρ2 vs us H2 s2 q2 I2 x2 rds rvs h2 =>
      thn (hm I2 (RD.ext x2 _ _ rd1) rv1 rds rvs h2) fun z s3 g => epi g fun v' H' gd => by
        refine GD.right (f := fun d h1 => if tyD T h1 d then (AS e h1).bind fun ds h2 => F d ds h2 else .bad) q1 x1 ?_
        show GD X ρ1 H1 (if tyD T σ1 d then (AS e σ1).bind fun ds h2 => F d ds h2 else .bad) v' H'
        rw [if_pos ty]
        exact GD.right (f := fun ds h2 => F d ds h2) q2 x2 gd
    rw [hs] at hA ⊢
    exact Calls.callWith_builtin (by show (false || (backTo cpos (starEach es X.env)).any (·.1)) = false; rw [hplain] <;> rfl) (Calls.evalArgs_plain hA)
  · rw [if_neg ty] at h1; exact absurd rfl h1.nb
/-! #### the methods of lists -/
def appendD (x : D) (xs : List D) (h : Hs) : R D := match x, xs with
  | .ref n, [y] => match h[n]? with
    | some (.lst ys) => if ys.length < sizeLine then .ok .non (h.set n (.lst (ys ++ [y]))) else .bad
    | _ => .bad
  | _, _ => .bad
/-- the end of a method that writes its list -/
theorem gd_put {pins s τ H ρ} {e : En} {σ : Hs} {n : Nat} {a : Addr} {ys : List D} {vs : List V} {d : D} {v : V} (I : SR X pins ρ e σ τ H s) (ha : ρ[n]? = some a) (rr : RDs X.K ρ H ys vs) (rd : RD X.K ρ H d v) (nf : Nfz H a := by exact nfL (by assumption)) :
    GD X ρ H (.ok d (σ.set n (.lst ys))) v (upd H a (.lst vs)) :=
  ⟨d, _, ρ, rfl, Ext.put (List.mem_of_getElem? ha), I.rs.put ha ⟨vs, upd_same, RDs.ext (Ext.put (List.mem_of_getElem? ha)) _ _ rr⟩, RD.ext (Ext.put (List.mem_of_getElem? ha)) _ _ rd⟩
theorem append_nb {x : D} {xs : List D} {h : Hs} (nb : appendD x xs h ≠ .bad) : ∃ n y ys, x = .ref n ∧ xs = [y] ∧ h[n]? = some (.lst ys) ∧ ys.length < sizeLine ∧ appendD x xs h = .ok .non (h.set n (.lst (ys ++ [y]))) := by
  unfold appendD at nb ⊢
  split at nb
  · rename_i n y
    cases hn : h[n]? with
    | none => rw [hn] at nb; exact absurd rfl nb
    | some o =>
      cases o with
      | lst ys =>
        rw [hn] at nb
        dsimp only at nb
        have hz := nbad nb
        exact ⟨n, y, ys, rfl, rfl, hn, hz, by simp only [hn, if_pos hz]⟩
      | _ => rw [hn] at nb; exact absurd rfl nb
  · exact absurd rfl nb
theorem om_append : OpM X "list.append" appendD := by
  intro pins s τ H ρ e σ x xs v vs u us I rd rv rds rvs h
  obtain ⟨n, y, ys, rfl, rfl, hn, hz, e1⟩ := append_nb h.nb
  rw [e1]
  obtain ⟨a, ws, rfl, ha, t, rr⟩ := I.rs.lst rd hn
  obtain ⟨w, rfl, rw'⟩ := rds1 rds
  exact mt_append pins s τ H _ _ u us _ I.inv rv rvs ⟨a, ws, w, rfl, rfl, t, by rw [← rr.length]; exact hz, gd_put I ha (rr.append (.one rw')) rfl⟩
theorem de_append {a : Expr} {A : Ev} (ho : DE X o A) (ha : DA X [a] AS)
    (hbase : attributeBase o "append" X.env (eval o X.env) = eval o X.env := by rfl)
    (hfew : ((backTo cpos (starEach [a] X.env)).all (fun x => !x.1) && (backToKw cpos (keywordEach [] X.env)).all (fun x => x.1.isSome)
      && decide ([a].length + ([] : List Keyword).length + (if ([] : List Keyword).isEmpty then 0 else 1) < 30)) = true := by rfl)
    (hline : (apos.endLine == cpos.line) = true := by rfl) (hs : starEach [a] X.env = (false, eval a X.env) :: starEach [] X.env := by rfl) (hplain : (backTo cpos (starEach [] X.env)).any (·.1) = false := by rfl) :
    DE X (.Call (.Attribute o "append" apos) [a] [] cpos) (eMeth "list" appendD A AS) := de_bm om_append F.plainAttrs_list F.slot_list_append F.type_list_append ho ha hbase hfew hline hs hplain
end

/-! ### stores -/
def setD (o i v : D) (h : Hs) : R Unit := match o, i with
  | .ref n, .int k => match h[n]? with
    | some (.lst xs) => (match ixN xs.length k with | some j => .ok () (h.set n (.lst (xs.set j v))) | none => .bad)
    | _ => .bad
  | .ref n, .tup ks => match h[n]? with
    | some (.dict kvs) => if (D.tup ks).isKey && decide (kvs.length < sizeLine) then .ok () (h.set n (.dict (dset kvs (.tup ks) v))) else .bad
    | _ => .bad
  | _, _ => .bad
def storedV (xs : List (NestedKey × Addr × V)) (k : NestedKey) (a : Addr) (v : V) : List (NestedKey × Addr × V) :=
  if (xs.find? fun x => decide (x.1 = k)).isSome then xs.map (fun x => if x.1 = k then (x.1, x.2.1, v) else x) else xs ++ [(k, a, v)]
theorem storedV_length (xs : List (NestedKey × Addr × V)) (k : NestedKey) (a : Addr) (v : V) : (storedV xs k a v).length ≤ xs.length + 1 := by
  unfold storedV; split <;> simp
theorem paired_map {α β α' β' : Type} {F : α → β → Prop} {G : α' → β' → Prop} {f : α → α'} {g : β → β'} (h : ∀ a b, F a b → G (f a) (g b)) : ∀ {xs : List α} {ys : List β}, Paired F xs ys → Paired G (xs.map f) (ys.map g)
  | _, _, .nil => .nil
  | _, _, .cons p q => .cons (h _ _ p) (paired_map h q)
theorem paired_app {α β : Type} {F : α → β → Prop} : ∀ {xs xs' : List α} {ys ys' : List β}, Paired F xs ys → Paired F xs' ys' → Paired F (xs ++ xs') (ys ++ ys')
  | _, _, _, _, .nil, q => q
  | _, _, _, _, .cons p r, q => .cons p (paired_app r q)
theorem pLen {α β : Type} {F : α → β → Prop} : ∀ {xs : List α} {ys : List β}, Paired F xs ys → xs.length = ys.length
  | _, _, .nil => rfl
  | _, _, .cons _ q => by simp [pLen q]
theorem storedV_rel {kvh : List (NestedKey × Addr × V)} {xs : List (NestedKey × Addr × Value)} (h : Paired (fun (p : NestedKey × Addr × V) (q : NestedKey × Addr × Value) => p.1 = q.1 ∧ p.2.1 = q.2.1 ∧ RelV p.2.2 q.2.2) kvh xs) {k : NestedKey} {a : Addr} {v : V} {u : Value} (r : RelV v u) :
    Paired (fun (p : NestedKey × Addr × V) (q : NestedKey × Addr × Value) => p.1 = q.1 ∧ p.2.1 = q.2.1 ∧ RelV p.2.2 q.2.2) (storedV kvh k a v) (storedH xs k a u) := by
  have key : (kvh.find? fun x => decide (x.1 = k)).isSome = (atKey xs k).isSome := by
    unfold atKey
    induction h with
    | nil => rfl
    | @cons p q ps qs h1 h2 ih =>
      by_cases hk : p.1 = k
      · have hk' : q.1 = k := h1.1 ▸ hk
        simp [List.find?_cons, hk, hk']
      · have hk' : ¬ q.1 = k := fun z => hk (h1.1.trans z)
        simpa [List.find?_cons, hk, hk'] using ih
  unfold storedV storedH
  rw [key]
  split
  · refine paired_map (fun p q hpq => ?_) h
    unfold putAt
    by_cases hk : p.1 = k
    · rw [if_pos hk, if_pos (hpq.1 ▸ hk)]
      exact ⟨hpq.1, hpq.2.1, r⟩
    · rw [if_neg hk, if_neg (fun z => hk (hpq.1.trans z))]
      exact hpq
  · exact paired_app h (.cons ⟨rfl, rfl, r⟩ .nil)
theorem dset_rel {K : PySem.W.Frag} {ρ : List Addr} {H : Hp} {kvs : List (D × D)} {kvh : List (NestedKey × Addr × V)}
    (hp : Paired (fun (p : D × D) (q : NestedKey × Addr × V) => q.1 = p.1.key ∧ p.1.isKey = true ∧ RD K ρ H p.1 (.ref q.2.1) ∧ RD K ρ H p.2 q.2.2) kvs kvh) {k d : D} {a : Addr} {v : V} (hk : k.isKey = true) (rk : RD K ρ H k (.ref a)) (rd : RD K ρ H d v) :
    Paired (fun (p : D × D) (q : NestedKey × Addr × V) => q.1 = p.1.key ∧ p.1.isKey = true ∧ RD K ρ H p.1 (.ref q.2.1) ∧ RD K ρ H p.2 q.2.2) (dset kvs k d) (storedV kvh k.key a v) := by
  have key : (dget kvs k).isSome = (kvh.find? fun x => decide (x.1 = k.key)).isSome := by
    unfold dget
    induction hp with
    | nil => rfl
    | @cons p q ps qs h1 h2 ih =>
      by_cases hk : p.1.key = k.key
      · have hk' : q.1 = k.key := h1.1.trans hk
        simp [List.find?_cons, hk, hk']
      · have hk' : ¬ q.1 = k.key := fun z => hk (h1.1.symm.trans z)
        simpa [List.find?_cons, hk, hk'] using ih
  unfold dset storedV
  rw [key]
  split
  · refine paired_map (fun p q hpq => ?_) hp
    by_cases h2 : p.1.key = k.key
    · rw [if_pos h2, if_pos (hpq.1.trans h2)]
      exact ⟨hpq.1, hpq.2.1, hpq.2.2.1, rd⟩
    · rw [if_neg h2, if_neg (fun z => h2 (hpq.1.symm.trans z))]
      exact hpq
  · exact paired_app hp (.cons ⟨rfl, hk, rk, rd⟩ .nil)
section
variable {X : Cx}
theorem dictPhi_stable (P : Program) (w : World) (a : Addr) (kvh : List (NestedKey × Addr × V)) : ∀ h1 h2 : Heap, DictPhi P w a kvh h1 → (∀ o, h1.get? a = some o → h2.get? a = some o) → DictPhi P w a kvh h2 := by
  rintro h1 h2 ⟨z, s, xs, r, o, es, ep, e1, e2⟩ k
  exact ⟨z, s, xs, r, o, es, ep, k o e1, e2⟩
theorem DictPhi.of {P : Program} {w : World} {a : Addr} {kvh : List (NestedKey × Addr × V)} {xs : List (NestedKey × Addr × Value)} {h : Heap} (z : kvh.length ≤ sizeLine) (hs : (a == sysModules) = false)
    (r : Paired (fun (p : NestedKey × Addr × V) (q : NestedKey × Addr × Value) => p.1 = q.1 ∧ p.2.1 = q.2.1 ∧ RelV p.2.2 q.2.2) kvh xs) (hd : h.DictOfH (nestedKind P w) a xs) : DictPhi P w a kvh h := by
  obtain ⟨o, es, ep, e1, e2, e3, e4, _, e5⟩ := hd
  exact ⟨z, hs, xs, r, o, es, ep, e1, e2, e3, e4, e5⟩
theorem DictPhi.ok {P : Program} {w : World} {H : Hp} {a : Addr} {kvh : List (NestedKey × Addr × V)} {h : Heap} (p : DictPhi P w a kvh h) : ObjOk P w H h a (.ext (DictPhi P w a kvh)) := by
  refine ⟨p, ?_, dictPhi_stable P w a kvh⟩
  obtain ⟨_, _, _, _, o, _, _, e1, _⟩ := p
  exact ⟨o, e1⟩
/-- the dict at a is written -/
theorem Inv.dput {pins : List (Addr × Obj)} {τ : L2.St} {H : Hp} {s : Shared} {a : Addr} {kvh kvh' : List (NestedKey × Addr × V)} {h' : Heap} {t' : Nat} (I : Inv X pins τ H s) (hH : H a = some (.ext (DictPhi X.prog X.w a kvh))) (hs : Heap.SameBut a s.heap h')
    (p : DictPhi X.prog X.w a kvh' h') : Inv X pins τ (upd H a (.ext (DictPhi X.prog X.w a kvh'))) { s with heap := h', toks := t' } := by
  refine I.write (x := a) (e := a) (by rw [hH]; trivial) (.inl rfl) (fun b u hb q => ?_) ?_ p.ok
  · exact (hs.2 b hb).trans q
  · obtain ⟨_, _, _, _, o, _, _, e1, _⟩ := p
    exact ⟨o, e1⟩
end
end Lb

set_option Elab.async false
set_option linter.all false
set_option maxRecDepth 100000
set_option maxHeartbeats 4000000
namespace Lb
open PySem PySem.Spec PyProof.Rows L2

/-! ### o[i] = v -/
def sPut (A O J : Ev) : Sv := fun e h => (A e h).st e fun v h1 => (O e h1).st e fun o h2 => (J e h2).st e fun i h3 => (setD o i v h3).st e fun _ h4 => .nx e h4
section
variable {X : Cx} {pos : Pos} {a : Expr} {A : Ev}
def GU (X : Cx) (ρ : List Addr) (H : Hp) (r : R Unit) : Hp → Prop := fun H' => ∃ σ' ρ', r = .ok () σ' ∧ Ext ρ ρ' H H' ∧ RS X.prog X.w X.K X.mg ρ' σ' H'
theorem set_nb {o i v : D} {h : Hs} (nb : setD o i v h ≠ .bad) :
    (∃ n k xs j, o = .ref n ∧ i = .int k ∧ h[n]? = some (.lst xs) ∧ ixN xs.length k = some j ∧ setD o i v h = .ok () (h.set n (.lst (xs.set j v)))) ∨
    ∃ n kvs, o = .ref n ∧ i.isKey = true ∧ h[n]? = some (.dict kvs) ∧ kvs.length < sizeLine ∧ setD o i v h = .ok () (h.set n (.dict (dset kvs i v))) := by
  unfold setD at nb ⊢
  split at nb
  · rename_i n k
    cases hn : h[n]? with
    | none => rw [hn] at nb; exact absurd rfl nb
    | some ob =>
      cases ob with
      | lst xs =>
        rw [hn] at nb
        dsimp only at nb
        cases hj : ixN xs.length k with
        | none => rw [hj] at nb; exact absurd rfl nb
        | some j => exact .inl ⟨n, k, xs, j, rfl, rfl, hn, hj, by simp only [hn, hj]⟩
      | _ => rw [hn] at nb; exact absurd rfl nb
  · rename_i n ks
    cases hn : h[n]? with
    | none => rw [hn] at nb; exact absurd rfl nb
    | some ob =>
      cases ob with
      | dict kvs =>
        rw [hn] at nb
        dsimp only at nb
        by_cases hk : ((D.tup ks).isKey && decide (kvs.length < sizeLine)) = true
        · have h2 := hk
          simp only [Bool.and_eq_true, decide_eq_true_eq] at h2
          exact .inr ⟨n, kvs, rfl, h2.1, hn, h2.2, by simp only [hn, if_pos hk]⟩
        · rw [if_neg hk] at nb; exact absurd rfl nb
      | _ => rw [hn] at nb; exact absurd rfl nb
  · exact absurd rfl nb
theorem set_ok (g : Good X) {pins s τ H ρ} {e : En} {σ : Hs} {o i v : D} {vo vi vv : V} {uo ui uv : Value} (I : SR X pins ρ e σ τ H s) (ro : RD X.K ρ H o vo) (rvo : RelV vo uo) (ri : RD X.K ρ H i vi) (rvi : RelV vi ui) (rv : RD X.K ρ H v vv) (rvv : RelV vv uv)
    (nb : setD o i v σ ≠ .bad) : wpAny (model X.prog X.w) X.A (setItem uo ui uv) (fun _ s' => ∃ H', Inv X pins τ H' s' ∧ GU X ρ H (setD o i v σ) H') X.xe s := by
  rcases set_nb nb with ⟨n, k, xs, j, rfl, rfl, hn, hj, e1⟩ | ⟨n, kvs, rfl, hk, hn, hz, e1⟩
  · rw [e1]
    obtain ⟨a, ws, rfl, ha, t, rr⟩ := I.rs.lst ro hn
    cases ri
    refine set_list pins s τ H _ _ _ uo ui uv _ I.inv rvo rvi rvv ⟨a, ws, k, j, rfl, rfl, t, by rw [← rr.length]; exact hj, ?_⟩
    exact ⟨_, ρ, rfl, Ext.put (List.mem_of_getElem? ha), I.rs.put ha ⟨_, upd_same, RDs.ext (Ext.put (List.mem_of_getElem? ha)) _ _ (rr.set j rv)⟩⟩
  · rw [e1]
    obtain ⟨a, kvh, xs, rfl, ha, hH, hzz, hsm, hp, hx, hd⟩ := I.dict ro hn
    obtain ⟨ks, ek, _⟩ := isKey_spec hk
    subst ek
    obtain ⟨c, vs, rfl, _⟩ := id ri
    cases rvo
    cases rvi
    have key := I.key hk ri
    have hroom : (nestedKind X.prog X.w).room X.A.in1 := by show X.A.units + 1 + 8 < cLine; have := g.un; omega
    have l1 := pLen hp
    have l2 := pLen hx
    refine wpAny_setItem_heap (knd := nestedKind X.prog X.w) hroom key hd (fun h' hd' hsb => ?_) (by rw [← l2]; exact hzz)
    have p : DictPhi X.prog X.w a (storedV kvh (D.tup ks).key c vv) h' := DictPhi.of (Nat.le_trans (storedV_length _ _ _ _) (by omega)) hsm (storedV_rel hx rvv) hd'
    have xe : Ext ρ ρ H (upd H a (.ext (DictPhi X.prog X.w a (storedV kvh (D.tup ks).key c vv)))) := Ext.put (List.mem_of_getElem? ha)
    refine ⟨_, Inv.dput I.inv hH hsb p, _, ρ, rfl, xe, I.rs.put ha ⟨_, upd_same, ?_⟩⟩
    exact pimp (dset_rel hp hk ri rv) fun p q ⟨h1, h2, h3, h4⟩ => ⟨h1, h2, RD.ext xe _ _ h3, RD.ext xe _ _ h4⟩
theorem ds_put (g : Good X) {o i : Expr} {O J : Ev} {tpos : Pos} (ha : DE X a A) (ho : DE X o O) (hi : DE X i J)
    (hs : swapsWithSole [.Subscript o i tpos] a pos.line X.env = pure false := by rfl) (hw : swappedStores [.Subscript o i tpos] a X.env = pure none := by rfl)
    (hsub : ∀ v, assign (.Subscript o i tpos) X.env v = (do
      let ov ← holding [v] (eval o X.env)
      let iv ← holding [v, ov] (eval i X.env)
      standAt tpos
      holding [v, ov, iv] (setItem ov iv v)
      release [v, ov, iv] []) := by intro _; rfl)
    (h1 : (assignEach [.Subscript o i tpos] X.env).map (·.2) = [assign (.Subscript o i tpos) X.env] := by rfl) : DS X (.Assign [.Subscript o i tpos] a pos) (sPut A O J) := by
  refine ⟨fun {pins s τ H ρ e σ} I h => ?_⟩
  refine wpAny_Assign_stores (thn (ha.run I (SafeF.of I h)) fun u s1 ⟨v, H1, i1, rv, d, σ1, ρ1, q1, x1, rs1, rd⟩ => ?_) hs hw
  have I1 := I.next i1 x1 rs1
  have k1 : SafeF X ρ1 H1 ((O e σ1).st e fun o h2 => (J e h2).st e fun i h3 => (setD o i d h3).st e fun _ h4 => .nx e h4) := SafeF.right (k := fun v h1 => (O e h1).st e fun o h2 => (J e h2).st e fun i h3 => (setD o i v h3).st e fun _ h4 => .nx e h4) h q1 x1
  rw [h1]
  show wpAny _ _ (assign (.Subscript o i tpos) X.env u) _ _ _
  rw [hsub]
  refine wpAny_bind (wpAny_holding (thn (ho.run I1 (SafeF.of I1 k1)) fun uo s2 ⟨vo, H2, i2, rvo, o2, σ2, ρ2, q2, x2, rs2, ro⟩ => ?_))
  have I2 := I1.next i2 x2 rs2
  have k2 : SafeF X ρ2 H2 ((J e σ2).st e fun i h3 => (setD o2 i d h3).st e fun _ h4 => .nx e h4) := SafeF.right (k := fun o h2 => (J e h2).st e fun i h3 => (setD o i d h3).st e fun _ h4 => .nx e h4) k1 q2 x2
  refine wpAny_bind (wpAny_holding (thn (hi.run I2 (SafeF.of I2 k2)) fun ui s3 ⟨vi, H3, i3, rvi, i3', σ3, ρ3, q3, x3, rs3, ri⟩ => ?_))
  have I3 := I2.next i3 x3 rs3
  have k3 : SafeF X ρ3 H3 ((setD o2 i3' d σ3).st e fun _ h4 => .nx e h4) := SafeF.right (k := fun i h3 => (setD o2 i d h3).st e fun _ h4 => .nx e h4) k2 q3 x3
  refine wpAny_bind (wpAny_standAt (wpAny_bind (wpAny_holding (thn (set_ok g I3 (RD.ext x3 _ _ ro) rvo ri rvi (RD.ext (x2.trans x3) _ _ rd) rv (SafeF.of I3 k3).nb) fun _ s4 ⟨H4, i4, σ4, ρ4, q4, x4, rs4⟩ => ?_))))
  refine wpAny_release ⟨τ, H4, i4, e, σ4, ρ4, ?_, x1.trans (x2.trans (x3.trans x4)), rs4, ((((I.re.ext x1).ext x2).ext x3).ext x4)⟩
  unfold sPut
  rw [q1]
  show ((O e σ1).st e fun o h2 => (J e h2).st e fun i h3 => (setD o i d h3).st e fun _ h4 => .nx e h4) = _
  rw [q2]
  show ((J e σ2).st e fun i h3 => (setD o2 i d h3).st e fun _ h4 => .nx e h4) = _
  rw [q3]
  show ((setD o2 i3' d σ3).st e fun _ h4 => .nx e h4) = _
  rw [q4]
  rfl

/-! ### a, b = .. -/
def sPar2 (i j : Nat) (A : Es) : Sv := fun e h => (A e h).st e fun ds h1 => match ds with
  | [x, y] => .nx ((e.set i (some x)).set j (some y)) h1
  | _ => .bad
def sPar3 (i j l : Nat) (A : Es) : Sv := fun e h => (A e h).st e fun ds h1 => match ds with
  | [x, y, z] => .nx (((e.set i (some x)).set j (some y)).set l (some z)) h1
  | _ => .bad
/-- target = value, the target a tuple -/
def sAsg (A : Ev) (G : Tg) : Sv := fun e h => (A e h).st e fun d h1 => match G d e with
  | some e1 => .nx e1 h1
  | none => .bad
def toTA (X : Cx) (A : Es) : TA := fun τ H Q => ∃ ρ e σ, RS X.prog X.w X.K X.mg ρ σ H ∧ RE X.K ρ H e τ ∧ Safe X ρ H τ (A e σ) ∧ ∀ v H', GA X ρ H (A e σ) v H' → Q v H'
theorem pa_of {x : List Expr} {A : Es} (h : DA X x A) : PA X x (toTA X A) := ⟨fun pos pins s τ H Q I ⟨ρ, e, σ, rs, re, sf, k⟩ => thn (h.run pos ⟨I, rs, re⟩ sf) fun u s1 t => api t k⟩
theorem ds_par2 (g : Good X) {i j : Nat} {x y : Str} {a b : Expr} {AS : Es} {px py pt : Pos} {kt k2 pt2} (hi : X.N[i]? = some x) (hj : X.N[j]? = some y) (hij : i ≠ j)
    (hx : X.env.scope.names.lookup x = some .local) (hy : X.env.scope.names.lookup y = some .local) (ha : DA X [a, b] AS)
    (hw : swappedStores [.Tuple [.Name x px, .Name y py] kt pt] (.Tuple [a, b] k2 pt2) X.env = pure (some [x, y]))
    (hs : swapsWithSole [.Tuple [.Name x px, .Name y py] kt pt] (.Tuple [a, b] k2 pt2) pos.line X.env = pure false := by rfl) :
    DS X (.Assign [.Tuple [.Name x px, .Name y py] kt pt] (.Tuple [a, b] k2 pt2) pos) (sPar2 i j AS) := by
  refine ds_of (ps_par g.calm g.nd hi hj hij hx hy (pa_of ha) hw hs) fun {pins s τ H ρ e σ} I sf => ⟨ρ, e, σ, I.rs, I.re, SafeF.of I sf, fun vs H' ⟨ds, σ', ρ', q, x1, rs, rds⟩ => ?_⟩
  have k1 := SafeF.right (k := fun ds h1 => match ds with
    | [x, y] => .nx ((e.set i (some x)).set j (some y)) h1
    | _ => .bad) sf q x1
  match ds, rds, k1, q with
  | [], _, k1, _ => exact absurd rfl k1.nb
  | [_], _, k1, _ => exact absurd rfl k1.nb
  | _ :: _ :: _ :: _, _, k1, _ => exact absurd rfl k1.nb
  | [d1, d2], rds, k1, q =>
    obtain ⟨v, w, rfl, r1, r2⟩ := rds2 rds
    exact ⟨v, w, rfl, _, σ', ρ', by unfold sPar2; rw [q]; rfl, x1, rs, ((I.re.ext x1).set i r1).set j r2⟩
theorem rds3 {K : PySem.W.Frag} {ρ : List Addr} {H : Hp} {x y z : D} {vs : List V} (r : RDs K ρ H [x, y, z] vs) : ∃ u v w, vs = [u, v, w] ∧ RD K ρ H x u ∧ RD K ρ H y v ∧ RD K ρ H z w := by
  obtain ⟨v, r', rfl, h1, h2⟩ := r
  obtain ⟨w, u, rfl, h3, h4⟩ := rds2 h2
  exact ⟨v, w, u, rfl, h1, h3, h4⟩
theorem ds_par3 (g : Good X) {i j l : Nat} {x y z : Str} {a b c : Expr} {AS : Es} {px py pz pt : Pos} {kt k2 pt2} (hi : X.N[i]? = some x) (hj : X.N[j]? = some y) (hl : X.N[l]? = some z) (hij : i ≠ j) (hil : i ≠ l) (hjl : j ≠ l)
    (hx : X.env.scope.names.lookup x = some .local) (hy : X.env.scope.names.lookup y = some .local) (hz : X.env.scope.names.lookup z = some .local) (ha : DA X [a, b, c] AS)
    (hw : swappedStores [.Tuple [.Name x px, .Name y py, .Name z pz] kt pt] (.Tuple [a, b, c] k2 pt2) X.env = pure (some [x, y, z]))
    (hs : swapsWithSole [.Tuple [.Name x px, .Name y py, .Name z pz] kt pt] (.Tuple [a, b, c] k2 pt2) pos.line X.env = pure false := by rfl) :
    DS X (.Assign [.Tuple [.Name x px, .Name y py, .Name z pz] kt pt] (.Tuple [a, b, c] k2 pt2) pos) (sPar3 i j l AS) := by
  refine ds_of (ps_par3 g.calm g.nd hi hj hl hij hil hjl hx hy hz (pa_of ha) hw hs) fun {pins s τ H ρ e σ} I sf => ⟨ρ, e, σ, I.rs, I.re, SafeF.of I sf, fun vs H' ⟨ds, σ', ρ', q, x1, rs, rds⟩ => ?_⟩
  have k1 := SafeF.right (k := fun ds h1 => match ds with
    | [x, y, z] => .nx (((e.set i (some x)).set j (some y)).set l (some z)) h1
    | _ => .bad) sf q x1
  match ds, rds, k1, q with
  | [], _, k1, _ => exact absurd rfl k1.nb
  | [_], _, k1, _ => exact absurd rfl k1.nb
  | [_, _], _, k1, _ => exact absurd rfl k1.nb
  | _ :: _ :: _ :: _ :: _, _, k1, _ => exact absurd rfl k1.nb
  | [d1, d2, d3], rds, k1, q =>
    obtain ⟨u, v, w, rfl, r1, r2, r3⟩ := rds3 rds
    exact ⟨u, v, w, rfl, _, σ', ρ', by unfold sPar3; rw [q]; rfl, x1, rs, (((I.re.ext x1).set i r1).set j r2).set l r3⟩
theorem ds_asg {tg : Expr} {G : Tg} {is : List Nat} (ha : DE X a A) (hg : DG X tg G is) (hs : swapsWithSole [tg] a pos.line X.env = pure false := by rfl) (hw : swappedStores [tg] a X.env = pure none := by rfl)
    (h1 : (assignEach [tg] X.env).map (·.2) = [assign tg X.env] := by rfl) : DS X (.Assign [tg] a pos) (sAsg A G) := by
  refine ⟨fun {pins s τ H ρ e σ} I h => ?_⟩
  refine wpAny_Assign_stores (thn (ha.run I (SafeF.of I h)) fun u s1 ⟨v, H1, i1, rv, d, σ1, ρ1, q1, x1, rs1, rd⟩ => ?_) hs hw
  have I1 := I.next i1 x1 rs1
  have k1 := SafeF.right (k := fun d h1 => match G d e with
    | some e1 => .nx e1 h1
    | none => .bad) h q1 x1
  rw [h1]
  cases hG : G d e with
  | none => rw [hG] at k1; exact absurd rfl k1.nb
  | some e1 =>
    refine thn (hg.run I1 rd rv hG) fun _ s2 ⟨τ', I2, _, _⟩ => ⟨τ', H1, I2.inv, e1, σ1, ρ1, ?_, x1, I2.rs, I2.re⟩
    unfold sAsg
    rw [q1]
    show (match G d e with | some e1 => Fl.nx e1 σ1 | none => .bad) = _
    rw [hG]
end

/-! ### x op= e -/
def sAug (i : Nat) (F : D → D → Hs → R D) (A : Ev) : Sv := fun e h => match e[i]? with
  | some (some x) => ((A e h).bind fun y h1 => F x y h1).st e fun z h2 => .nx (e.set i (some z)) h2
  | _ => .bad
section
variable {X : Cx} {pos : Pos} {a : Expr} {A : Ev}
def toTIp (X : Cx) (F : D → D → Hs → R D) : TIp := fun x y H Q => ∃ ρ e σ τ d1 d2, RS X.prog X.w X.K X.mg ρ σ H ∧ RE X.K ρ H e τ ∧ RD X.K ρ H d1 x ∧ RD X.K ρ H d2 y ∧ Safe X ρ H τ (F d1 d2 σ) ∧ ∀ v H', GD X ρ H (F d1 d2 σ) v H' → Q v H'
theorem ds_augI (g : Good X) {i : Nat} {x : Str} {op : Operator} {f : Int → Int → Int} {F : D → D → Hs → R D} {pos' : Pos} (hip : PIp X op (ipI f)) (hF : ∀ x y h, F x y h ≠ .bad → ∃ i j, x = .int i ∧ y = .int j ∧ F x y h = .ok (.int (f i j)) h)
    (hi : X.N[i]? = some x) (hx : Loc X.env.scope x) (ha : DE X a A) (hf : X.fn x = true ∨ X.env.scope.names.lookup x = some .local := by first | exact .inl rfl | exact .inr rfl | assumption) :
    DS X (.AugAssign (.Name x pos') op a pos) (sAug i F A) := by
  refine ds_of (ps_aug g.nd hi hx (pe_of ha) hip hf) fun {pins s τ H ρ e σ} I sf => ?_
  cases hq : e[i]? with
  | none => exact absurd (by simp [sAug, hq]) sf.nb
  | some o =>
    cases o with
    | none => exact absurd (by simp [sAug, hq]) sf.nb
    | some d =>
      have e1 : sAug i F A e σ = ((A e σ).bind fun y h1 => F d y h1).st e fun z h2 => .nx (e.set i (some z)) h2 := by simp [sAug, hq]
      rw [e1] at sf ⊢
      obtain ⟨v, hv, rd⟩ := I.re.2 i d hq
      have s1 := SafeF.of I sf
      refine ⟨v, hv, ρ, e, σ, I.rs, I.re, s1.left, fun y H' ⟨d2, σ', ρ', q, x1, rs, rd2⟩ => ?_⟩
      have s2 := s1.right q x1
      obtain ⟨i1, j1, rfl, rfl, e2⟩ := hF d d2 σ' s2.nb
      have rd' := RD.ext x1 _ _ rd
      cases rd'
      cases rd2
      refine ⟨i1, j1, rfl, rfl, _, σ', ρ', ?_, x1, rs, (I.re.ext x1).set i (show RD X.K ρ' H' (.int (f i1 j1)) (.int (f i1 j1)) from rfl)⟩
      rw [q]
      show (F (.int i1) (.int j1) σ').st e _ = _
      rw [e2]
      rfl
end

/-! ### names of the module -/
section
variable {X : Cx} {pos : Pos}
theorem de_glob {x : Str} {v : V} {u : Value} {d : D} (hg : Gl X x) (hm : X.mg x = some u) (r : RelV v u) (rd : ∀ ρ H, RD X.K ρ H d v) (hd : (x == ("__debug__" : Str)) = false := by decide) : DE X (.Name x pos) (eC d) := de_of (pe_glob hg hm r hd) rd
end
end Lb

set_option Elab.async false
set_option linter.all false
set_option maxRecDepth 100000
set_option maxHeartbeats 4000000
namespace Lb
open PySem PySem.Spec PyProof.Rows L2

/-! ### the items of what is gone through at once: list(x), sorted(x) -/
def allOf (h : Hs) (x : D) : Option (List D) := match seqOf h x with
  | some ys => some ys
  | none => match x with
    | .ref n => match h[n]? with
      | some (.dict kvs) => some (kvs.map (·.1))
      | _ => none
    | _ => none
def sortOk (ds : List D) : Bool := ds.all (D.fit 40) && ds.all (fun a => ds.all fun b => PySem.W.alike a.data b.data) &&
  (ds.all (fun d => match d with | .tup (_ :: _) => true | _ => false) || ds.all (fun d => match d with | .tup _ => false | .non => false | .ref _ => false | .scr _ => false | _ => true)) && decide (ds.length ≤ sizeLine)
/-- Insertion sort, structural, so that the kernel can run it; it is the stable sort (isort_is). -/
def insBy {α : Type} (le : α → α → Bool) (x : α) : List α → List α
  | [] => [x]
  | y :: ys => cond (le x y) (x :: y :: ys) (y :: insBy le x ys)
def isortBy {α : Type} (le : α → α → Bool) : List α → List α
  | [] => []
  | x :: xs => insBy le x (isortBy le xs)
theorem insBy_mid {α : Type} {le : α → α → Bool} {a : α} : ∀ {l1 l2 : List α}, (∀ b ∈ l1, (!le a b) = true) → (∀ b ∈ l2, le a b = true) → insBy le a (l1 ++ l2) = l1 ++ a :: l2
  | [], [], _, _ => rfl
  | [], b :: l2, _, h => by
    show cond (le a b) _ _ = _
    rw [h b (List.mem_cons_self ..)]
    rfl
  | b :: l1, l2, h1, h2 => by
    show cond (le a b) _ _ = _
    have := h1 b (List.mem_cons_self ..)
    rw [Bool.not_eq_true'] at this
    rw [this]
    show b :: insBy le a (l1 ++ l2) = _
    rw [insBy_mid (fun c hc => h1 c (List.mem_cons_of_mem _ hc)) h2]
    rfl
theorem isort_is {α : Type} {le : α → α → Bool} (h : PySem.W.TotalLe le) : ∀ l : List α, isortBy le l = l.mergeSort le
  | [] => by simp [isortBy]
  | a :: l => by
    obtain ⟨l1, l2, e1, e2, h3⟩ := List.mergeSort_cons (le := le) (fun a b c => h.trans a b c) (fun a b => by
      rcases h.total a b with q | q <;> simp [q]) a l
    have pw := PySem.W.sort_pairwise h (a :: l)
    rw [e1] at pw ⊢
    show insBy le a (isortBy le l) = _
    rw [isort_is h l, e2]
    exact insBy_mid h3 fun b hb => (List.pairwise_cons.mp (List.pairwise_append.mp pw).2.1).1 b hb
def srt (ds : List D) : List D := isortBy (PySem.W.dataLe false D.data) ds
theorem srt_merge (ds : List D) : srt ds = ds.mergeSort (PySem.W.dataLe false D.data) := isort_is (PySem.W.sortLe_total _ _ _) ds
def sortedL (xs : List D) (h : Hs) : R (List D) := match xs with
  | [x] => match allOf h x with
    | some ys => if sortOk ys then .ok (srt ys) h else .bad
    | none => .bad
  | _ => .bad
def listAL (xs : List D) (h : Hs) : R (List D) := match xs with
  | [x] => match allOf h x with
    | some ys => .ok ys h
    | none => .bad
  | _ => .bad
section
variable {prog : Program} {w : World} {A : Around} {E : Value → Shared → Prop} {s : Shared}
theorem collect_tuple {l : Addr} {vs : List Value} {Q : List Value → Shared → Prop} (hl : s.heap.IsTuple l vs.toArray)
    (h : Q vs { s with heap := (s.heap.push (seqObj "list" #[] 0)).update s.heap.objs.size (Obj.mapSeq (· ++ vs.toArray)) }) (hsz : vs.length ≤ sizeLine := by size_fits) :
    wpAny (model prog w) A (collect (.ref l)) Q E s := by
  obtain ⟨o, ho, hc, n, hd⟩ := id hl
  unfold collect
  refine wpAny_bind (wpAny_runValue (codeAny_builtin entry_proto_collect' ?_))
  show wpAny _ _ (do again (.builtin "list.__iadd__" ⟨[← newList [], .ref l], []⟩)) _ _ s
  refine wpAny_bind (wpAny_newList (wpAny_pure ⟨Code.quiet_builtin _ (by decide +kernel), codeAny_builtin entry_list_iadd' ?_⟩))
  show wpAny _ _ (Builtin.List.listExtendWith (.ref s.heap.objs.size) (.ref l) (.ref s.heap.objs.size)) _ _ { s with heap := s.heap.push (seqObj "list" #[] 0) }
  unfold Builtin.List.listExtendWith
  have ho' : (s.heap.push (seqObj "list" #[] 0)).get? l = some o := Heap.get?_push_of_some _ ho
  refine wpAny_bind (wpAny_typeOf (T := "tuple") ⟨o, ho', hc⟩ ?_)
  have ht : (Value.type "tuple" == Value.type "tuple") = true := by rfl
  rw [if_pos (by rw [ht]; simp)]
  refine wpAny_bind (listItems_at ho' hd ?_)
  refine wpAny_bind (listItems_at (xs := #[]) (n := 0) (Heap.get?_push_size _ rfl) rfl ?_)
  rw [if_neg (by simp)]
  refine wpAny_bind (listUpdate_at (xs := #[]) (n := 0) (Heap.get?_push_size _ rfl) rfl ?_ (Nat.zero_le _) (by show (#[] ++ vs.toArray).size ≤ sizeLine + 1; simp only [Array.size_append, List.size_toArray, List.length_nil]; omega))
  refine wpAny_pure ?_
  show wpAny (model prog w) A (do
      let o ← load s.heap.objs.size
      match o.data with
      | .seq xs _ => pure xs.toList
      | _ => unsupported "internal:collect") Q E { s with heap := (s.heap.push (seqObj "list" #[] 0)).update s.heap.objs.size (Obj.mapSeq (· ++ vs.toArray)) }
  refine wpAny_bind (wpAny_load (get?_update_seq (Heap.get?_push_size _ rfl) _) ?_)
  show wpAny _ _ (pure ((#[] : Array Value) ++ vs.toArray).toList) Q E _
  rw [show ((#[] : Array Value) ++ vs.toArray).toList = vs by simp]
  exact wpAny_pure h
/-- sorted(u) from what collect gives -/
theorem sorted_coll {u : Value} {Q : Value → Shared → Prop} (h : wpAny (model prog w) A.in1 (collect u) (fun acc s1 => acc.length ≤ sizeLine ∧
      wpAny (model prog w) A.in1 (call (.builtin "list.sort") [.ref s1.heap.objs.size]) (fun _ s' => Q (.ref s1.heap.objs.size) s') E { s1 with heap := s1.heap.push (seqObj "list" acc.toArray 0) }) E s) :
    wpAny (model prog w) A (call (.builtin "sorted") [u]) Q E s := by
  refine Calls.call_function_entry PyProof.Rows.kind_sorted PyProof.Rows.plain_sorted PyProof.Rows.entry_sorted (PyProof.Rows.args_sorted1 _) ?_
  unfold Builtin.«sorted»
  refine wpAny_bind (m := checkCount "sorted" 1 1 _) (wpAny_pure ?_)
  refine wpAny_bind (thn h fun acc s1 ⟨hz, hs⟩ => ?_)
  refine wpAny_bind (wpAny_newList ?_ hz)
  refine wpAny_bind (wpAny_holding (thn hs fun _ s' x => ?_))
  exact wpAny_pure ⟨_, rfl, x⟩
end
mutual
theorem reads_lt {h : Heap} : ∀ (d : PyData) (v : Value) (as : List Addr), PySem.W.alike d d = true → Reads h v d as → ∀ a ∈ as, a < h.objs.size
  | .none, _, _, _, r, _, hm => by cases r; simp at hm
  | .bool _, _, _, _, r, _, hm => by cases r; simp at hm
  | .int _, _, _, _, r, _, hm => by cases r; simp at hm
  | .str _, _, _, _, r, _, hm => by cases r; simp at hm
  | .list xs, _, _, hal, r, a, hm => by
    cases r with
    | list h1 h2 h3 h4 =>
      rcases List.mem_cons.mp hm with rfl | hm
      · exact Heap.lt_size h1
      · exact readsAll_lt xs _ _ (by simpa [PySem.W.alike] using hal) h4 a hm
  | .tuple xs, _, _, hal, r, a, hm => by
    cases r with
    | tuple h1 h2 h3 h4 => exact readsAll_lt xs _ _ (by simpa [PySem.W.alike] using hal) h4 a hm
  | .dict _, _, _, hal, _, _, _ => absurd hal (by simp [PySem.W.alike])
theorem readsAll_lt {h : Heap} : ∀ (ds : List PyData) (vs : List Value) (as : List Addr), PySem.W.alikeAll ds ds = true → ReadsAll h vs ds as → ∀ a ∈ as, a < h.objs.size
  | [], _, _, _, r, _, hm => by cases r; simp at hm
  | d :: ds, _, _, hal, r, a, hm => by
    cases r with
    | cons h1 h2 =>
      rcases List.mem_append.mp hm with hm | hm
      · exact reads_lt d _ _ (PySem.W.alike_all_cons hal).1 h1 a hm
      · exact readsAll_lt ds _ _ (PySem.W.alike_all_cons hal).2 h2 a hm
end
section
variable {X : Cx}
/-- the items stand for the values -/
def Each (K : PySem.W.Frag) (ρ : List Addr) (H : Hp) : Value → D → Prop := fun u d => ∃ v, RelV v u ∧ RD K ρ H d v
theorem each_of {K : PySem.W.Frag} {ρ : List Addr} {H : Hp} : ∀ {ds : List D} {vs : List V} {us : List Value}, RDs K ρ H ds vs → Vals vs us → PySem.W.EachIs (Each K ρ H) us ds
  | [], _, _, r, q => by cases r; cases q; exact .nil
  | d :: ds, _, _, ⟨v, r', e, h1, h2⟩, q => by
    subst e
    cases q with
    | cons q1 q2 => exact .cons ⟨v, q1, h1⟩ (each_of h2 q2)
theorem of_each {K : PySem.W.Frag} {ρ : List Addr} {H : Hp} {ds : List D} {us : List Value} (h : PySem.W.EachIs (Each K ρ H) us ds) : ∃ vs, RDs K ρ H ds vs ∧ Vals vs us := by
  induction h with
  | nil => exact ⟨[], rfl, .nil⟩
  | cons h1 _ ih =>
    obtain ⟨v, q1, r1⟩ := h1
    obtain ⟨vs, r2, q2⟩ := ih
    exact ⟨v :: vs, ⟨v, vs, rfl, r1, r2⟩, .cons q1 q2⟩
theorem keys_acc {P : Program} {w : World} {es : Array DictEntry} {xs : List (NestedKey × Addr × Value)} {acc : Array Value} (e4 : es.toList = xs.map (entryOfKey (nestedKind P w))) (hacc : ItemsOf (fun i v => ∃ hi : i < es.size, v = es[i].key) acc es.size) (hes : es.size = xs.length) :
    acc.toList = xs.map fun x => Value.ref x.2.1 := by
  apply List.ext_getElem?
  intro i
  by_cases hi : i < acc.toList.length
  · have e7 : acc.toList[i]? = some acc.toList[i] := by simp [hi]
    obtain ⟨hj, e8⟩ := hacc.2 i _ (by rw [← Array.getElem?_toList]; exact e7)
    rw [e7, e8, List.getElem?_map]
    have e9 : es[i]? = (xs[i]?).map (entryOfKey (nestedKind P w)) := entry_at e4 i
    have e10 : es[i]? = some es[i] := by simp [hj]
    rw [e10] at e9
    cases hxi : xs[i]? with
    | none => rw [hxi] at e9; cases e9
    | some y =>
      rw [hxi] at e9
      have e11 : es[i] = entryOfKey (nestedKind P w) y := Option.some.inj e9
      rw [e11]; rfl
  · have hl : acc.toList.length = xs.length := by rw [Array.length_toList, hacc.1, hes]
    rw [List.getElem?_eq_none (by omega), List.getElem?_eq_none (by rw [List.length_map]; omega)]
theorem each_keysD {K : PySem.W.Frag} {ρ : List Addr} {H : Hp} : ∀ {kvs : List (D × D)} {kvh : List (NestedKey × Addr × V)} {xs : List (NestedKey × Addr × Value)},
    Paired (fun (p : D × D) (q : NestedKey × Addr × V) => q.1 = p.1.key ∧ p.1.isKey = true ∧ RD K ρ H p.1 (.ref q.2.1) ∧ RD K ρ H p.2 q.2.2) kvs kvh →
    Paired (fun (p : NestedKey × Addr × V) (q : NestedKey × Addr × Value) => p.1 = q.1 ∧ p.2.1 = q.2.1 ∧ RelV p.2.2 q.2.2) kvh xs → PySem.W.EachIs (Each K ρ H) (xs.map fun x => Value.ref x.2.1) (kvs.map (·.1))
  | _, _, _, .nil, .nil => .nil
  | _, _, _, .cons p1 p2, .cons q1 q2 => .cons ⟨.ref _, rfl, by rw [← q1.2.1]; exact p1.2.2.1⟩ (each_keysD p2 q2)
/-- all at once: collect -/
theorem collect_ok (g : Good X) {A' : Around} (hA : A'.handled = none) {pins s τ H ρ} {e : En} {σ : Hs} {x : D} {v : V} {u : Value} {ds : List D} {R : List Value → Shared → Prop} {E : Value → Shared → Prop} (I : SR X pins ρ e σ τ H s) (rd : RD X.K ρ H x v) (rv : RelV v u) (ha : allOf σ x = some ds)
    (h : ∀ h' tk acc, (∀ b o, s.heap.get? b = some o → h'.get? b = some o) → PySem.W.EachIs (Each X.K ρ H) acc ds → ds.length ≤ sizeLine → R acc { s with heap := h', toks := tk }) :
    wpAny (model X.prog X.w) A' (collect u) R E s := by
  unfold allOf at ha
  cases hx : seqOf σ x with
  | some ys =>
    rw [hx] at ha
    cases ha
    obtain ⟨p, vs, rfl, hq, rr⟩ := seq_at I.rs rd hx
    cases rv
    have fin : ∀ acc : List Value, Vals vs acc → vs.length ≤ sizeLine → R acc { s with heap := (s.heap.push (seqObj "list" #[] 0)).update s.heap.objs.size (Obj.mapSeq (· ++ acc.toArray)) } := fun acc r hz => by
      refine h _ s.toks acc (fun b o e => ?_) (each_of rr r) (by rw [rr.length]; exact hz)
      exact (Heap.get?_update_other _ _ (Nat.ne_of_gt (Heap.lt_size e))).trans (Heap.get?_push_of_some _ e)
    rcases hq with hq | hq
    · obtain ⟨its, r, pl, hz⟩ := I.inv.list hq
      exact collect_list pl.isList (fin its r hz) (by rw [← r.length]; exact hz)
    · obtain ⟨its, r, pl, hz⟩ := I.inv.tuple hq
      exact collect_tuple (show s.heap.IsTuple p its.toArray from pl) (fin its r hz) (by rw [← r.length]; exact hz)
  | none =>
    rw [hx] at ha
    cases x with
    | ref n =>
      dsimp only at ha
      cases hn : σ[n]? with
      | none => rw [hn] at ha; cases ha
      | some o =>
        cases o with
        | dict kvs =>
          rw [hn] at ha
          cases ha
          obtain ⟨a, kvh, xs, rfl, ha, hH, hzz, hsm, hp, hx, hd⟩ := I.dict rd hn
          cases rv
          have l1 := pLen hp
          have l2 := pLen hx
          obtain ⟨o, es, ep, e1, e2, e3, e4, e5⟩ := id hd
          have hraw : s.heap.DictRaw a es ep := ⟨o, e1, e2, e3⟩
          have hes : es.size = xs.length := by rw [← Array.length_toList, e4, List.length_map]
          refine PySem.W.kdu_collect (KdlSrc.rawDict (prog := X.prog) (w := X.w) (es := es) (ep := ep) hsm) hA hraw (by rw [hes, ← l2]; exact hzz) fun h' tk acc hk hacc => ?_
          refine h h' tk acc.toList hk ?_ (by rw [List.length_map, l1]; exact hzz)
          have e6 : acc.toList = xs.map fun x => Value.ref x.2.1 := keys_acc e4 hacc hes
          rw [e6]
          exact each_keysD hp hx
        | _ => rw [hn] at ha; cases ha
    | _ => cases ha
theorem sortOk_spec {ds : List D} (h : sortOk ds = true) : ds.all (D.fit 40) = true ∧ PySem.W.AllAlike (ds.map D.data) ∧ PySem.W.Sortable (ds.map D.data) ∧ ds.length ≤ sizeLine := by
  unfold sortOk at h
  simp only [Bool.and_eq_true, Bool.or_eq_true, decide_eq_true_eq] at h
  obtain ⟨⟨⟨h1, h2⟩, h3⟩, h4⟩ := h
  refine ⟨h1, fun d hd d' hd' => ?_, ?_, h4⟩
  · obtain ⟨a, ha, rfl⟩ := List.mem_map.mp hd
    obtain ⟨b, hb, rfl⟩ := List.mem_map.mp hd'
    exact List.all_eq_true.mp (List.all_eq_true.mp h2 a ha) b hb
  · rcases h3 with h3 | h3
    · refine .inl fun d hd => ?_
      obtain ⟨a, ha, rfl⟩ := List.mem_map.mp hd
      have := List.all_eq_true.mp h3 a ha
      cases a with
      | tup xs =>
        cases xs with
        | nil => simp at this
        | cons y ys => exact ⟨y.data, D.datas ys, by simp [D.data, D.datas]⟩
      | _ => simp at this
    · refine .inr fun d hd => ?_
      obtain ⟨a, ha, rfl⟩ := List.mem_map.mp hd
      have := List.all_eq_true.mp h3 a ha
      have hf := List.all_eq_true.mp h1 a ha
      cases a <;> first | (simp at this; done) | (simp [D.data]; done)
theorem sorted_nb {xs : List D} {h : Hs} (nb : sortedL xs h ≠ .bad) : ∃ x ys, xs = [x] ∧ allOf h x = some ys ∧ sortOk ys = true ∧ sortedL xs h = .ok (srt ys) h := by
  unfold sortedL at nb ⊢
  split at nb
  · rename_i x
    cases q : allOf h x with
    | none => rw [q] at nb; exact absurd rfl nb
    | some ys =>
      rw [q] at nb
      dsimp only at nb
      have hk := nbad2 nb
      exact ⟨x, ys, rfl, q, hk, by simp only [q, if_pos hk]⟩
  · exact absurd rfl nb
theorem listAL_nb {xs : List D} {h : Hs} (nb : listAL xs h ≠ .bad) : ∃ x ys, xs = [x] ∧ allOf h x = some ys ∧ listAL xs h = .ok ys h := by
  unfold listAL at nb ⊢
  split at nb
  · rename_i x
    cases q : allOf h x with
    | none => rw [q] at nb; exact absurd rfl nb
    | some ys => exact ⟨x, ys, rfl, q, rfl⟩
  · exact absurd rfl nb
theorem each_length {K : PySem.W.Frag} {ρ : List Addr} {H : Hp} {ds : List D} {us : List Value} (h : PySem.W.EachIs (Each K ρ H) us ds) : us.length = ds.length := h.length
theorem op_sorted (g : Good X) : OpL X (.builtin "sorted") sortedL := by
  intro pins s τ H ρ e σ xs vs us I rds rvs h
  obtain ⟨x, ys, rfl, ha, hk, e1⟩ := sorted_nb h.nb
  rw [e1, srt_merge]
  obtain ⟨v, rfl, rd⟩ := rds1 rds
  obtain ⟨u, rfl, ru⟩ := rvs.one
  obtain ⟨k1, k2, k3, k4⟩ := sortOk_spec hk
  refine sorted_coll (collect_ok g (A' := X.A.in1) (I.inv.ok.hd g.calm) I rd ru ha fun h' tk acc hkeep each hz => ⟨by rw [each.length]; exact hz, ?_⟩)
  have I1 : Inv X pins τ H { s with heap := h', toks := tk } := I.inv.kept hkeep
  have hkeep2 : ∀ b o, h'.get? b = some o → (h'.push (seqObj "list" acc.toArray 0)).get? b = some o := fun b o e => Heap.get?_push_of_some _ e
  have I2 : Inv X pins τ H { s with heap := h'.push (seqObj "list" acc.toArray 0), toks := tk } := I1.kept hkeep2
  have rds2 : PySem.W.EachIs (fun u d => ∃ as, Reads (h'.push (seqObj "list" acc.toArray 0)) u d.data as ∧ h'.objs.size ∉ as) acc ys := by
    refine (PySem.W.each_mem each).mono fun u d ⟨⟨v, rv, rd⟩, hd⟩ => ?_
    have hf := List.all_eq_true.mp k1 d hd
    obtain ⟨as, r⟩ := Dp.reads I1 _ _ u (dp_of 40 d v hf rd) rv
    refine ⟨as, PyProof.Rows.Reads.keeps hkeep2 r, fun hm => ?_⟩
    exact Nat.lt_irrefl _ (reads_lt _ _ _ (k2 _ (List.mem_map.mpr ⟨d, hd, rfl⟩) _ (List.mem_map.mpr ⟨d, hd, rfl⟩)) r _ hm)
  refine PySem.W.list_sort_data (β := D) (enc := D.data) (R := Each X.K ρ H) (a := h'.objs.size) (n := 0) (Heap.get?_push_size _ rfl) each rds2 k2 k3 k4 (fun d hd => ?_) fun out hl eo => ?_
  · have hf := (fit_spec 40 d (List.all_eq_true.mp k1 d hd)).2
    have := g.un
    show X.A.units + 1 + 1 + _ < cLine
    omega
  · obtain ⟨ws, rr, rw'⟩ := of_each eo
    have hp : H h'.objs.size = none := I1.hok.fresh (Nat.le_refl _)
    have hat : (h'.push (seqObj "list" acc.toArray 0)).get? h'.objs.size = some (seqObj "list" acc.toArray 0) := Heap.get?_push_size _ rfl
    obtain ⟨c, hc⟩ := sortedHeap_at (out := List.toArray out) hat
    refine ⟨.ref h'.objs.size, upd H h'.objs.size (.lst ws), I1.laid (t' := tk) (fun b o e => ?_) (Nat.le_refl _) ?_, rfl, gn_ok I hp rr⟩
    · have hb := Heap.lt_size e
      exact (sortedHeap_old (Nat.ne_of_lt hb) (Heap.lt_size (hkeep2 b o e))).trans (hkeep2 b o e)
    · exact ⟨by rw [rw'.length, hl]; exact k4, out, c, rw', hc⟩
theorem op_list (g : Good X) : OpL X (.type "list") listAL := by
  intro pins s τ H ρ e σ xs vs us I rds rvs h
  obtain ⟨x, ys, rfl, ha, e1⟩ := listAL_nb h.nb
  rw [e1]
  obtain ⟨v, rfl, rd⟩ := rds1 rds
  unfold allOf at ha
  cases hx : seqOf σ x with
  | some zs =>
    rw [hx] at ha
    cases ha
    obtain ⟨p, vs, rfl, hq, rr⟩ := seq_at I.rs rd hx
    exact call_list_of pins s τ H _ us _ I.inv rvs ⟨p, vs, rfl, hq, fun l hl => gn_ok I hl rr⟩
  | none =>
    rw [hx] at ha
    cases x with
    | ref n =>
      dsimp only at ha
      cases hn : σ[n]? with
      | none => rw [hn] at ha; cases ha
      | some o =>
        cases o with
        | dict kvs =>
          rw [hn] at ha
          cases ha
          obtain ⟨u, rfl, ru⟩ := rvs.one
          obtain ⟨a, kvh, xs, rfl, ha, hH, hzz, hsm, hp, hx, hd⟩ := I.dict rd hn
          cases ru
          have l1 := pLen hp
          have l2 := pLen hx
          obtain ⟨o, es, ep, e1, e2, e3, e4, e5⟩ := id hd
          have hraw : s.heap.DictRaw a es ep := ⟨o, e1, e2, e3⟩
          have hes : es.size = xs.length := by rw [← Array.length_toList, e4, List.length_map]
          refine PySem.W.kdl_call (KdlSrc.rawDict (prog := X.prog) (w := X.w) (es := es) (ep := ep) hsm) (I.inv.ok.hd g.calm) hraw (by rw [hes, ← l2]; exact hzz) fun h' tk acc c hk hS hacc => ?_
          have e6 : acc.toList = xs.map fun x => Value.ref x.2.1 := keys_acc e4 hacc hes
          obtain ⟨ws, rr, rw'⟩ := of_each (by rw [e6]; exact each_keysD hp hx : PySem.W.EachIs (Each X.K ρ H) acc.toList (kvs.map (·.1)))
          have hpn : H s.heap.objs.size = none := I.inv.hok.fresh (Nat.le_refl _)
          refine ⟨.ref s.heap.objs.size, upd H s.heap.objs.size (.lst ws), I.inv.laid (t' := tk) hk (Nat.le_refl _) ?_, rfl, gn_ok I hpn rr⟩
          exact ⟨by rw [← rr.length, List.length_map, l1]; exact hzz, acc.toList, c, rw', by simpa using hS⟩
        | _ => rw [hn] at ha; cases ha
    | _ => cases ha
end
end Lb

set_option Elab.async false
set_option linter.all false
set_option maxRecDepth 100000
set_option maxHeartbeats 4000000
namespace Lb
open PySem PySem.Spec PyProof.Rows L2

/-! ### a walk that changes the store -/
def walkL (one : D → En → Hs → R Unit) : List D → En → Hs → R Unit
  | [], _, h => .ok () h
  | x :: xs, e, h => (one x e h).bind fun _ h1 => walkL one xs e h1
def walkR (m : Nat) (one : D → En → Hs → R Unit) : Nat → Nat → En → Hs → R Unit
  | 0, _, _, _ => .bad
  | k + 1, i, e, h => match h[m]? with
    | some (.lst xs) => match xs[i]? with
      | none => .ok () h
      | some x => (one x e h).bind fun _ h1 => walkR m one k (i + 1) e h1
    | _ => .bad
def walkS (one : D → En → Hs → R Unit) : Src → En → Hs → R Unit
  | .fix xs => walkL one xs
  | .lref m => walkR m one fuel 0
theorem walk_inv {X : Cx} {J : It} {src : Src} {ρ1 ρ0 : List Addr} {H1 H0 : Hp} {σ0 h2 : Hs} {one : D → En → Hs → R Unit} {e0 : En} {Qend : Hp → Prop} {Body : V → Hp → (Hp → Prop) → Prop} (jok : JOk X ρ1 H1 src J) (x0 : Ext ρ1 ρ0 H1 H0) (rs0 : RS X.prog X.w X.K X.mg ρ0 σ0 H0)
    (hr : walkS one src e0 σ0 = .ok () h2) (fin : ∀ H' ρ', Ext ρ0 ρ' H0 H' → RS X.prog X.w X.K X.mg ρ' h2 H' → Qend H')
    (turn : ∀ x y ρ2 H2 σ2 σ3 Nx, Ext ρ0 ρ2 H0 H2 → RS X.prog X.w X.K X.mg ρ2 σ2 H2 → RD X.K ρ2 H2 x y → one x e0 σ2 = .ok () σ3 → (∀ H' ρ', Ext ρ0 ρ' H0 H' → RS X.prog X.w X.K X.mg ρ' σ3 H' → Nx H') → Body y H2 Nx) :
    ∃ W : Nat → Nat → Hp → Prop, (∃ m, W 0 m H0) ∧ ∀ i m H, W i m H → (J.stop i H ∧ Qend H) ∨ (J.go i H ∧ ∃ Nx : Hp → Prop, (∀ H', Nx H' → ∃ m', m' < m ∧ W (i + 1) m' H') ∧ ∀ x H', J.yld i H x H' → Body x H' Nx) := by
  cases src with
  | fix xs =>
    refine ⟨fun i m H2 => m = xs.length - i ∧ i ≤ xs.length ∧ ∃ ρ2 σ2, Ext ρ0 ρ2 H0 H2 ∧ RS X.prog X.w X.K X.mg ρ2 σ2 H2 ∧ walkL one (xs.drop i) e0 σ2 = .ok () h2,
      ⟨xs.length, by simp, Nat.zero_le _, ρ0, _, Ext.refl, rs0, hr⟩, ?_⟩
    rintro i m H2 ⟨rfl, hi', ρ2, σ2, x2, rs2, hr2⟩
    obtain ⟨jg, js⟩ := jok ρ2 H2 σ2 (x0.trans x2) rs2
    by_cases hlt : i < xs.length
    · have hx : xs[i]? = some xs[i] := by simp [hlt]
      obtain ⟨go, yl⟩ := jg i xs[i] hx
      rw [List.drop_eq_getElem_cons hlt] at hr2
      obtain ⟨_, σ3, hone, hrest⟩ := bind_ok (show (one xs[i] e0 σ2).bind (fun _ h1 => walkL one (xs.drop (i + 1)) e0 h1) = .ok () h2 from hr2)
      refine .inr ⟨go, fun H' => ∃ ρ3 σ3, Ext ρ0 ρ3 H0 H' ∧ RS X.prog X.w X.K X.mg ρ3 σ3 H' ∧ walkL one (xs.drop (i + 1)) e0 σ3 = .ok () h2,
        fun H' z => ⟨xs.length - (i + 1), by omega, rfl, hlt, z⟩, fun y H3 hy => ?_⟩
      obtain ⟨x3, rs3, rd3⟩ := yl y H3 hy
      exact turn _ _ _ _ _ _ _ (x2.trans x3) rs3 rd3 hone fun H' ρ' xe rse => ⟨ρ', σ3, xe, rse, hrest⟩
    · have hi2 : i = xs.length := by omega
      subst hi2
      rw [List.drop_length] at hr2
      cases hr2
      exact .inl ⟨js, fin H2 ρ2 x2 rs2⟩
  | lref m0 =>
    refine ⟨fun i m H2 => ∃ ρ2 σ2, Ext ρ0 ρ2 H0 H2 ∧ RS X.prog X.w X.K X.mg ρ2 σ2 H2 ∧ walkR m0 one m i e0 σ2 = .ok () h2,
      ⟨fuel, ρ0, _, Ext.refl, rs0, hr⟩, ?_⟩
    rintro i m H2 ⟨ρ2, σ2, x2, rs2, hr2⟩
    cases m with
    | zero => cases hr2
    | succ m =>
      have hr2 : (match σ2[m0]? with
        | some (.lst xs) => match xs[i]? with
          | none => R.ok () σ2
          | some x => (one x e0 σ2).bind fun _ h1 => walkR m0 one m (i + 1) e0 h1
        | _ => R.bad) = R.ok () h2 := hr2
      cases hn : σ2[m0]? with
      | none => rw [hn] at hr2; cases hr2
      | some o =>
        cases o with
        | lst xs =>
          rw [hn] at hr2
          dsimp only at hr2
          obtain ⟨jg, js⟩ := jok ρ2 H2 σ2 (x0.trans x2) rs2 xs hn
          cases hx : xs[i]? with
          | none =>
            rw [hx] at hr2
            cases hr2
            exact .inl ⟨js i (List.getElem?_eq_none_iff.mp hx), fin H2 ρ2 x2 rs2⟩
          | some d0 =>
            rw [hx] at hr2
            dsimp only at hr2
            obtain ⟨go, yl⟩ := jg i d0 hx
            obtain ⟨_, σ3, hone, hrest⟩ := bind_ok hr2
            refine .inr ⟨go, fun H' => ∃ ρ3 σ3, Ext ρ0 ρ3 H0 H' ∧ RS X.prog X.w X.K X.mg ρ3 σ3 H' ∧ walkR m0 one m (i + 1) e0 σ3 = .ok () h2,
              fun H' z => ⟨m, by omega, z⟩, fun y H3 hy => ?_⟩
            obtain ⟨x3, rs3, rd3⟩ := yl y H3 hy
            exact turn _ _ _ _ _ _ _ (x2.trans x3) rs3 rd3 hone fun H' ρ' xe rse => ⟨ρ', σ3, xe, rse, hrest⟩
        | _ => rw [hn] at hr2; cases hr2

/-! ### dict comprehensions -/
/-- d[k] = v of a comprehension, a display -/
def dputD (n : Nat) (k v : D) (h : Hs) : R Unit := match h[n]? with
  | some (.dict kvs) => if k.isKey && decide (kvs.length < sizeLine) then .ok () (h.set n (.dict (dset kvs k v))) else .bad
  | _ => .bad
def dOne (n : Nat) (G : Tg) (T : Ts) (B A : Ev) (x : D) (e : En) (h : Hs) : R Unit := match G x e with
  | none => .bad
  | some e1 => match T e1 h with
    | .ok true h1 => match B e1 h1 with
      | .ok k h2 => match A e1 h2 with
        | .ok y h3 => dputD n k y h3
        | _ => .bad
      | _ => .bad
    | .ok false h1 => .ok () h1
    | _ => .bad
def eDComp (I : Iv) (is : List Nat) (G : Tg) (T : Ts) (B A : Ev) : Ev := fun e h => (I e h).bind fun s h1 => match walkS (dOne h1.length G T B A) s (wipeE e is) (h1 ++ [.dict []]) with
  | .ok _ h2 => .ok (.ref h1.length) h2
  | _ => .bad
section
variable {X : Cx} {pos spos : Pos} {kx vx tg iter : Expr} {ifs : List Expr} {scope : Scope} {own : List (Str × Nat)} {E : Iv} {G : Tg} {T : Ts} {A B : Ev}
/-- what a turn of the comprehension has to do with its dict -/
def StepD (X : Cx) (Dp : Addr) (y z : V) (H5 : Hp) (Nx : Hp → Prop) : Prop := ∀ (X' : Cx) (pins : List (Addr × Obj)) (σ : L2.St) (s : Shared) (u r : Value) (EE : Value → Shared → Prop), X'.prog = X.prog → X'.w = X.w → X'.K = X.K → Inv X' pins σ H5 s → RelV y u → RelV z r →
  wpAny (model X.prog X.w) X.A (dictSet Dp u r) (fun _ s' => ∃ H', Inv X' pins σ H' s' ∧ Nx H') EE s
def tDd (X : Cx) (wi : TI) (g : TG) (tt : TT) (tk tv : TE) (vs : List Nat) : TE := fun σ H Q => wi σ H fun J H1 => ∀ D, H1 D = none → (D == sysModules) = false → ∃ W : Nat → Nat → Hp → Prop, (∃ m, W 0 m (upd H1 D (.ext (DictPhi X.prog X.w D [])))) ∧ ∀ i m H, W i m H →
  (J.stop i H ∧ Q (.ref D) H) ∨ (J.go i H ∧ ∃ Nx : Hp → Prop, (∀ H', Nx H' → ∃ m', m' < m ∧ W (i + 1) m' H') ∧ ∀ x H', J.yld i H x H' → g x (wipe σ vs) H' fun σ2 H2 => wipe σ2 vs = wipe σ vs ∧ tt σ2 H2 fun b H3 =>
    if b = true then tk σ2 H3 fun y H4 => tv σ2 H4 fun z H5 => StepD X D y z H5 Nx else Nx H3)
theorem dictPhi_new {X : Cx} {H : Hp} {a : Addr} {h : Heap} (hs : (a == sysModules) = false) (e : h.get? a = some { cls := .type "dict", data := .dict #[] }) : ObjOk X.prog X.w H h a (.ext (DictPhi X.prog X.w a [])) :=
  DictPhi.ok ⟨Nat.zero_le _, hs, [], .nil, _, #[], 0, e, ⟨rfl, rfl, rfl⟩, rfl, rfl, List.nodup_nil⟩

/-- the block of a dict comprehension -/
theorem dd_core {pins : List (Addr × Obj)} {s : Shared} {σ : L2.St} {H : Hp} {Q : VK} {pos' : Pos} {wi : TI} {g : TG} {tt : TT} {tk tv : TE} {use : Option (Value → Sem Unit)} {Qf : Value → Shared → Prop}
    (hc : X.calm = true) (hN : X.N.Nodup) (I : Inv X pins σ H s) (hi : PI X tg iter wi) (ok : BlkOk X.N X.env.scope scope own)
    (hg : ∀ (s : Shared) (H : Hp) (C : Addr) (cl : List (Str × Addr)) (fp : List Addr), PG (X.blk s H scope (compEnvC scope cl C X.env) fp) tg g) (ht : ∀ (s : Shared) (H : Hp) (C : Addr) (cl : List (Str × Addr)) (fp : List Addr), PTs (X.blk s H scope (compEnvC scope cl C X.env) fp) ifs tt)
    (hk : ∀ (s : Shared) (H : Hp) (C : Addr) (cl : List (Str × Addr)) (fp : List Addr), PE (X.blk s H scope (compEnvC scope cl C X.env) fp) kx tk)
    (he : ∀ (s : Shared) (H : Hp) (C : Addr) (cl : List (Str × Addr)) (fp : List Addr), PE (X.blk s H scope (compEnvC scope cl C X.env) fp) vx tv) (hs : ∀ x, foldedSetIterable iter X.env x = pure x)
    (h : tDd X wi g tt tk tv (own.map (·.2)) σ H Q)
    (hRR : ∀ D C s' m H', Inv X pins σ H' s' → Q (.ref D) H' → s'.heap.Ns C m → FpOk X pins H' C → compPost (model X.prog X.w) X.A X.xe use Qf (.ref D) C (.ok .next) s') :
    wpAny (model X.prog X.w) X.A (comprehension (.DictComp kx vx [⟨tg, iter, ifs, 0⟩] scope pos) scope X.env pos' newDict false (eval iter X.env) use) Qf X.xe s := by
  have hfree : ∀ y ∈ scope.names, y.2 = .free → ∃ c, X.env.cells.lookup y.1 = some c := fun y hy e => (ok.free y hy e).elim (fun k => I.ok.has _ (.inl k)) fun k => I.ok.has _ (.inr k)
  refine wpAny_comprehension_free (use := use) rfl hs (closure_ok hfree) ok.kind (fun y hy e => by rw [ok.uniq y hy, e])
    (thn (hi.run pins s σ H _ I h) fun xv s1 hx => thn hx fun itv s2 ⟨it, fp, tn, J, H2, ee, I2, T, st2, f2, q⟩ => ?_)
  subst ee
  refine wpAny_newObj_type (newEnv_comp ?_)
  generalize hD : s2.heap.objs.size = D
  have hDn : H2 D = none := I2.hok.fresh (Nat.le_of_eq hD)
  have hDs : (D == sysModules) = false := beq_eq_false_iff_ne.mpr (by rw [← hD]; exact Ne.symm (Nat.ne_of_lt I2.big))
  obtain ⟨W, ⟨m0, w0⟩, turn⟩ := q D hDn hDs
  generalize hs3 : ({ s2 with heap := s2.heap.push { cls := .type "dict", data := .dict #[] } } : Shared) = s3
  have I3 : Inv X pins σ (upd H2 D (.ext (DictPhi X.prog X.w D []))) s3 := by
    rw [← hs3]
    exact I2.laid (t' := s2.toks) (fun b o e => Heap.get?_push_of_some _ e) (Nat.le_of_eq hD) (dictPhi_new hDs (by rw [← hD]; exact Heap.get?_push_size _ rfl))
  have h3 : s3.heap = s2.heap.push { cls := .type "dict", data := .dict #[] } := by rw [← hs3]
  have sz : ∀ b ∈ fp, b < s2.heap.objs.size := fun b hb => let ⟨o, e, _⟩ := T.obj _ _ st2 b hb; Heap.lt_size e
  have f3 : ∀ b ∈ fp, FpOk X pins (upd H2 D (.ext (DictPhi X.prog X.w D []))) b ∧ b < s3.heap.objs.size := fun b hb => by
    have hlt := sz b hb
    refine ⟨⟨?_, (f2 b hb).2⟩, by rw [h3, Heap.size_push]; exact Nat.lt_succ_of_lt hlt⟩
    rw [upd_ne (by rw [← hD]; exact Nat.ne_of_lt hlt)]
    exact (f2 b hb).1
  have st3 : tn 0 s3.heap := T.keep _ _ _ st2 fun b _ o e => by rw [h3]; exact Heap.get?_push_of_some _ e
  have I4 := block_start I3 ok hN f3
  have pg := hg s3 (upd H2 D (.ext (DictPhi X.prog X.w D []))) s3.heap.objs.size (cellsFrom (s3.heap.objs.size + 1) scope.names (cloFrom X.env.cells scope.names [])) fp
  have pt := ht s3 (upd H2 D (.ext (DictPhi X.prog X.w D []))) s3.heap.objs.size (cellsFrom (s3.heap.objs.size + 1) scope.names (cloFrom X.env.cells scope.names [])) fp
  have pk := hk s3 (upd H2 D (.ext (DictPhi X.prog X.w D []))) s3.heap.objs.size (cellsFrom (s3.heap.objs.size + 1) scope.names (cloFrom X.env.cells scope.names [])) fp
  have pe := he s3 (upd H2 D (.ext (DictPhi X.prog X.w D []))) s3.heap.objs.size (cellsFrom (s3.heap.objs.size + 1) scope.names (cloFrom X.env.cells scope.names [])) fp
  show codeAny _ _ (.compStart (.DictComp kx vx [⟨tg, iter, ifs, 0⟩] scope pos) 0 (.ref it) (.ref D) (compEnvC scope (cellsFrom (s3.heap.objs.size + 1) scope.names (cloFrom X.env.cells scope.names [])) s3.heap.objs.size X.env)) (compPost (model X.prog X.w) X.A X.xe use Qf (.ref D) s3.heap.objs.size) { s3 with heap := pushCells (s3.heap.push { cls := .type "dict", data := .dict #[] }) scope.names }
  have nfp : ∀ b ∈ fp, (upd H2 D (.ext (DictPhi X.prog X.w D []))) b = none := fun b hb => (f3 b hb).1.1
  generalize hce : compEnvC scope (cellsFrom (s3.heap.objs.size + 1) scope.names (cloFrom X.env.cells scope.names [])) s3.heap.objs.size X.env = ce at I4 pg pt pk pe ⊢
  have cL : ce.locals = s3.heap.objs.size := by subst hce; rfl
  generalize hH3 : upd H2 D (.ext (DictPhi X.prog X.w D [])) = H3 at I3 I4 pg pt pk pe w0 nfp f3
  generalize hs4 : ({ s3 with heap := pushCells (s3.heap.push { cls := .type "dict", data := .dict #[] }) scope.names } : Shared) = s4 at I4 ⊢
  have st4 : tn 0 s4.heap := T.keep _ _ _ st3 fun b _ o e => by rw [← hs4]; exact pushCells_keeps _ _ _ _ (Heap.get?_push_of_some _ e)
  have stat : ∀ {σ' : L2.St} {H' : Hp} {s' : Shared}, Inv (X.blk s3 H3 scope ce fp) [] σ' H' s' → (∀ b ∈ fp, H' b = none) → ∀ b ∈ fp, FpOk (X.blk s3 H3 scope ce fp) [] H' b := fun {σ' H' s'} I' hn b hb =>
    ⟨hn b hb, (I'.ok.exf b hb).1, I'.ok.exfs b hb, .inl hb, fun x c e => (I'.ok.exf b hb).2 x c e, fun p hp => absurd (show p ∈ ([] : List (Addr × Obj)) ++ [] from hp) (by simp)⟩
  have loop : codeAny (model X.prog X.w) X.A (.compLoop (.DictComp kx vx [⟨tg, iter, ifs, 0⟩] scope pos) 0 (.ref it) (.ref D) ce) (compPost (model X.prog X.w) X.A X.xe use Qf (.ref D) s3.heap.objs.size) s4 := by
    refine compLoop_anyD (fun n s' => ∃ i H', Inv (X.blk s3 H3 scope ce fp) [] (L2.wipe σ (own.map (·.2))) H' s' ∧ tn i s'.heap ∧ (∀ b ∈ fp, H' b = none) ∧ W i n H') ?_ m0 ⟨0, H3, I4, st4, nfp, w0⟩
    rintro n s5 ⟨i, H5, I5, st5, n5, w5⟩
    rcases turn i n H5 w5 with ⟨stop, qq⟩ | ⟨go, Nx, hNx, step⟩
    · refine thnF (T.done (X.blk s3 H3 scope ce fp) rfl rfl rfl hc i [] s5 _ H5 (fun _ _ => False) I5 (stat I5 n5) st5 stop) fun r s6 ⟨hr, I6⟩ => ?_
      subst hr
      have I7 : Inv X pins σ H5 s6 := I3.call' (ch := fp) I6.os I6.base I6.hok I6.bare fun b hb => ⟨(f3 b hb).1.2.2.2.1, (f3 b hb).1.2.1, (f3 b hb).1.2.2.2.2.1, (f3 b hb).1.2.2.2.2.2⟩
      have nC : H5 s3.heap.objs.size = none := by rw [← cL]; exact I6.free
      obtain ⟨m, hn, _⟩ := I6.loc
      have hn : s6.heap.Ns ce.locals m := hn
      rw [cL] at hn
      exact hRR D s3.heap.objs.size s6 m H5 I7 qq hn (I3.fpOk (Nat.le_refl _) nC)
    · refine thnF (T.item (X.blk s3 H3 scope ce fp) rfl rfl rfl hc i [] s5 _ H5 (fun _ _ => False) I5 (stat I5 n5) st5 go) fun r s6 ⟨u, hr, h6⟩ => ?_
      subst hr
      refine thnF h6 fun _ s7 ⟨x, H7, I7, r7, y7, st7, n7⟩ => ?_
      have I7' := I7.pinned (stat I7 n7) (T.obj _ _ st7)
      refine thnF (pg.run _ s7 _ H7 x u _ I7' r7 (step x H7 y7)) fun _ s8 ⟨σ8, H8, I8, hw8, q8⟩ => ?_
      refine thnF (pt.run _ s8 σ8 H8 _ I8 q8) fun b s9 ⟨H9, I9, q9⟩ => ?_
      have fin : ∀ {s' : Shared} {H' : Hp}, Inv (X.blk s3 H3 scope ce fp) ([] ++ pinsAt fp s7.heap) σ8 H' s' → Nx H' → ∃ m, m < n ∧ ∃ i H', Inv (X.blk s3 H3 scope ce fp) [] (L2.wipe σ (own.map (·.2))) H' s' ∧ tn i s'.heap ∧ (∀ b ∈ fp, H' b = none) ∧ W i m H' := fun {s' H'} I' nx => by
        obtain ⟨m', hm, w'⟩ := hNx H' nx
        have pin' : ∀ b ∈ fp, ∀ o, s7.heap.get? b = some o → s'.heap.get? b = some o ∧ H' b = none := fun b hb o e =>
          let z := I'.pin (b, o) (List.mem_append_right _ (List.mem_append_right _ (mem_pinsAt hb e)))
          ⟨z.1, z.2.1⟩
        have hl : (L2.wipe σ (own.map (·.2))).length = σ8.length := by rw [← hw8, wipe_length]
        refine ⟨m', hm, i + 1, H', (I'.unpinned (pins := [])).weak hl (fun j v e => ?_), T.keep _ _ _ st7 fun b hb o e => (pin' b hb o e).1, fun b hb => ?_, w'⟩
        · rw [← hw8] at e
          exact (wipe_some e).1
        · obtain ⟨o, e, _⟩ := T.obj _ _ st7 b hb
          exact (pin' b hb o e).2
      cases b with
      | false =>
        simp only [Bool.false_eq_true, if_false] at q9 ⊢
        exact fin I9 q9
      | true =>
        simp only [if_true] at q9 ⊢
        refine thnF (pk.run _ s9 σ8 H9 _ I9 q9) fun z s10 ⟨yk, H10, I10, r10, q10⟩ => ?_
        refine thnF (pe.run _ s10 σ8 H10 _ I10 q10) fun z2 s11 ⟨yv, H11, I11, r11, stp⟩ => ?_
        exact thnF (stp (X.blk s3 H3 scope ce fp) _ σ8 s11 z z2 _ rfl rfl rfl I11 r10 r11) fun _ s12 ⟨H12, I12, nx⟩ => fin I12 nx
  exact codeAny_compStart_dict loop (T.self X.A 0 _ _ _ st4 loop)
theorem dput_nb {n : Nat} {k v : D} {h h' : Hs} (e : dputD n k v h = .ok () h') : ∃ kvs, h[n]? = some (.dict kvs) ∧ k.isKey = true ∧ kvs.length < sizeLine ∧ h' = h.set n (.dict (dset kvs k v)) := by
  unfold dputD at e
  cases hn : h[n]? with
  | none => rw [hn] at e; cases e
  | some o =>
    cases o with
    | dict kvs =>
      rw [hn] at e
      dsimp only at e
      by_cases hk : (k.isKey && decide (kvs.length < sizeLine)) = true
      · rw [if_pos hk] at e
        cases e
        simp only [Bool.and_eq_true, decide_eq_true_eq] at hk
        exact ⟨kvs, rfl, hk.1, hk.2, rfl⟩
      · rw [if_neg hk] at e; cases e
    | _ => rw [hn] at e; cases e
/-- the store into the dict, by any block -/
theorem step_ok (g : Good X) {n : Nat} {k v : D} {σ5 σ3 : Hs} {ρ5 : List Addr} {H5 : Hp} {vk vv : V} {Dp : Addr} {Nx : Hp → Prop} (e : dputD n k v σ5 = .ok () σ3) (rs : RS X.prog X.w X.K X.mg ρ5 σ5 H5) (hn : ρ5[n]? = some Dp) (rk : RD X.K ρ5 H5 k vk) (rv : RD X.K ρ5 H5 v vv)
    (nx : ∀ H', Ext ρ5 ρ5 H5 H' → RS X.prog X.w X.K X.mg ρ5 σ3 H' → Nx H') : StepD X Dp vk vv H5 Nx := by
  intro X' pins σ s u r EE e1 e2 e3 I ru rr
  obtain ⟨kvs, hd, hk, hz, rfl⟩ := dput_nb e
  obtain ⟨kvh, hH, hp⟩ := rs.at_ n Dp _ hn hd
  obtain ⟨hzz, hsm, xs, hx, o, es, ep, q1, q2, q3, q4, q5⟩ := (I.hok Dp _ hH).1
  obtain ⟨ks, ek, hko, hdep⟩ := isKey_spec hk
  subst ek
  obtain ⟨c, ws, rfl, _⟩ := id rk
  cases ru
  have kin := I.kIn
  rw [e3] at kin
  have isOf : ∀ {d : D} {a : Addr}, d.isKey = true → RD X.K ρ5 H5 d (.ref a) → (nestedKind X.prog X.w).is s.heap d.key a := fun {d a} hk2 r2 => by
    obtain ⟨_, _, z1, z2⟩ := isKey_spec hk2
    exact ⟨nested_is I.hok kin d _ _ z1 r2 rfl, z2⟩
  have l1 := pLen hp
  have l2 := pLen hx
  have his : ∀ x ∈ xs, (nestedKind X.prog X.w).is s.heap x.1 x.2.1 := by
    clear q4 q5 l1 l2 hzz hH
    clear hd hz nx e
    induction hp generalizing xs with
    | nil => cases hx; intro x hx2; simp at hx2
    | @cons p q ps qs p1 p2 ih =>
      cases hx with
      | @cons _ x _ xs q1' q2' =>
        intro y hy
        rcases List.mem_cons.mp hy with rfl | hy
        · rw [← q1'.1, p1.1, ← q1'.2.1]
          exact isOf p1.2.1 p1.2.2.1
        · exact ih xs q2' y hy
  have hdo : s.heap.DictOfH (nestedKind X.prog X.w) Dp xs := ⟨o, es, ep, q1, q2, q3, q4, his, q5⟩
  have hroom : (nestedKind X.prog X.w).room X.A := by show X.A.units + 8 < cLine; have := g.un; omega
  refine wpAny_dictSet_heap (knd := nestedKind X.prog X.w) hroom (isOf hk rk) hdo (fun h' hd' hsb => ?_) (by rw [← l2]; exact hzz)
  have p : DictPhi X.prog X.w Dp (storedV kvh (D.tup ks).key c vv) h' := DictPhi.of (Nat.le_trans (storedV_length _ _ _ _) (by omega)) hsm (storedV_rel hx rr) hd'
  have xe : Ext ρ5 ρ5 H5 (upd H5 Dp (.ext (DictPhi X.prog X.w Dp (storedV kvh (D.tup ks).key c vv)))) := Ext.put (List.mem_of_getElem? hn)
  refine ⟨_, ?_, nx _ xe (rs.put hn ⟨_, upd_same, ?_⟩)⟩
  · have := Inv.dput (X := X') (kvh' := storedV kvh (D.tup ks).key c vv) (t' := s.toks + (nestedKind X.prog X.w).draws (D.tup ks).key) I (by rw [e1, e2]; exact hH) hsb (by rw [e1, e2]; exact p)
    rw [e1, e2] at this
    exact this
  · exact pimp (dset_rel hp hk rk rv) fun p q ⟨h1, h2, h3, h4⟩ => ⟨h1, h2, RD.ext xe _ _ h3, RD.ext xe _ _ h4⟩
end
end Lb

set_option Elab.async false
set_option linter.all false
set_option maxRecDepth 100000
set_option maxHeartbeats 4000000
namespace Lb
open PySem PySem.Spec PyProof.Rows L2
section
variable {X : Cx} {pos spos : Pos} {kx vx tg iter : Expr} {ifs : List Expr} {scope : Scope} {own : List (Str × Nat)} {E : Iv} {G : Tg} {T : Ts} {A B : Ev}
theorem dcomp_turn (g : Good X) {ρ2 : List Addr} {H2 : Hp} {σ2 σ3 : Hs} {e0 : En} {τ0 : L2.St} {is : List Nat} {n : Nat} {Dp : Addr} {x : D} {y : V} {Nx : Hp → Prop} {H1 : Hp} {ρ1 : List Addr} (hw : ∀ τ', τ'.length = (L2.wipe τ0 is).length → (∀ i, i ∉ is → τ'[i]? = (L2.wipe τ0 is)[i]?) → L2.wipe τ' is = L2.wipe τ0 is)
    (x2 : Ext ρ1 ρ2 H1 H2) (rs2 : RS X.prog X.w X.K X.mg ρ2 σ2 H2) (re2 : RE X.K ρ2 H2 e0 (L2.wipe τ0 is)) (hn : ρ1[n]? = some Dp) (rd : RD X.K ρ2 H2 x y) (hr : dOne n G T B A x e0 σ2 = .ok () σ3)
    (hN : ∀ H' ρ', Ext ρ1 ρ' H1 H' → RS X.prog X.w X.K X.mg ρ' σ3 H' → Nx H') :
    toTG X G is y (L2.wipe τ0 is) H2 fun τ4 H4 => L2.wipe τ4 is = L2.wipe τ0 is ∧ blTT X T τ4 H4 fun b H5 =>
      if b = true then blTE X B τ4 H5 fun k H6 => blTE X A τ4 H6 fun z H7 => StepD X Dp k z H7 Nx else Nx H5 := by
  unfold dOne at hr
  cases hG : G x e0 with
  | none => rw [hG] at hr; cases hr
  | some e3 =>
    rw [hG] at hr
    dsimp only at hr
    refine ⟨ρ2, e0, σ2, x, e3, rs2, re2, rd, hG, fun τ4 re4 hl hk => ⟨hw τ4 hl hk, ?_⟩⟩
    cases hT : T e3 σ2 with
    | exc _ _ => rw [hT] at hr; cases hr
    | bad => rw [hT] at hr; cases hr
    | ok b σ5 =>
      rw [hT] at hr
      refine ⟨ρ2, e3, σ2, b, σ5, rs2, re4, hT, ?_⟩
      rintro k H5 ⟨σ5', ρ5, q5, x5, rs5⟩
      rw [hT] at q5
      cases q5
      cases b with
      | false =>
        rw [if_neg Bool.false_ne_true]
        have e5 : σ5 = σ3 := by have : (R.ok () σ5) = R.ok () σ3 := hr; cases this; rfl
        subst e5
        exact hN H5 ρ5 (x2.trans x5) rs5
      | true =>
        rw [if_pos rfl]
        dsimp only at hr
        cases hB : B e3 σ5 with
        | exc _ _ => rw [hB] at hr; cases hr
        | bad => rw [hB] at hr; cases hr
        | ok kd σ6 =>
          rw [hB] at hr
          dsimp only at hr
          refine ⟨ρ5, e3, σ5, kd, σ6, rs5, re4.ext x5, hB, ?_⟩
          rintro kv H6 ⟨d', σ6', ρ6, q6, x6, rs6, rd6⟩
          rw [hB] at q6
          cases q6
          cases hA : A e3 σ6 with
          | exc _ _ => rw [hA] at hr; cases hr
          | bad => rw [hA] at hr; cases hr
          | ok vd σ7 =>
            rw [hA] at hr
            dsimp only at hr
            refine ⟨ρ6, e3, σ6, vd, σ7, rs6, (re4.ext x5).ext x6, hA, ?_⟩
            rintro zv H7 ⟨d', σ7', ρ7, q7, x7, rs7, rd7⟩
            rw [hA] at q7
            cases q7
            have xx := x2.trans (x5.trans (x6.trans x7))
            exact step_ok g hr rs7 (xx.get hn) (RD.ext x7 _ _ rd6) rd7 fun H' xe rse => hN H' ρ7 (xx.trans xe) rse
theorem dd_app (g : Good X) (hi : DI X tg iter E) {pins : List (Addr × Obj)} {s : Shared} {τ : L2.St} {H : Hp} {ρ : List Addr} {e : En} {σ : Hs} {Qv : VK} (I : SR X pins ρ e σ τ H s) (h : Safe X ρ H τ (eDComp E (own.map (·.2)) G T B A e σ))
    (kq : ∀ v H', GD X ρ H (eDComp E (own.map (·.2)) G T B A e σ) v H' → Qv v H') : tDd X (toTI X E) (toTG X G (own.map (·.2))) (blTT X T) (blTE X B) (blTE X A) (own.map (·.2)) τ H Qv := by
  refine ⟨ρ, e, σ, I.rs, I.re, h.left, fun J H1 ⟨src, σ1, ρ1, q1, x1, rs1, jok⟩ Dp hD hDs => ?_⟩
  have h1 := h.right q1 x1
  cases hc : walkS (dOne σ1.length G T B A) src (wipeE e (own.map (·.2))) (σ1 ++ [.dict []]) with
  | exc c hh => exact absurd (by simp [hc]) h1.nb
  | bad => exact absurd (by simp [hc]) h1.nb
  | ok _ h2 =>
    have hres : eDComp E (own.map (·.2)) G T B A e σ = .ok (.ref σ1.length) h2 := by unfold eDComp; rw [q1]; show (match walkS (dOne σ1.length G T B A) src (wipeE e (own.map (·.2))) (σ1 ++ [.dict []]) with | .ok _ h2 => R.ok (D.ref σ1.length) h2 | _ => .bad) = _; rw [hc]
    have hn0 : (ρ1 ++ [Dp])[σ1.length]? = some Dp := by rw [← rs1.len, List.getElem?_append_right (Nat.le_refl _)]; simp
    have rs0 : RS X.prog X.w X.K X.mg (ρ1 ++ [Dp]) (σ1 ++ [.dict []]) (upd H1 Dp (.ext (DictPhi X.prog X.w Dp []))) := rs1.new (ob := .dict []) hD ⟨[], upd_same, .nil⟩
    have x0 : Ext ρ1 (ρ1 ++ [Dp]) H1 (upd H1 Dp (.ext (DictPhi X.prog X.w Dp []))) := Ext.new hD
    have re0 := ((I.re.ext x1).ext x0).wiped (own.map (·.2))
    exact walk_inv (Body := fun y H2 Nx => toTG X G (own.map (·.2)) y (L2.wipe τ (own.map (·.2))) H2 fun τ4 H4 => L2.wipe τ4 (own.map (·.2)) = L2.wipe τ (own.map (·.2)) ∧ blTT X T τ4 H4 fun b H5 =>
      if b = true then blTE X B τ4 H5 fun k H6 => blTE X A τ4 H6 fun z H7 => StepD X Dp k z H7 Nx else Nx H5) jok x0 rs0 hc
      (fun H' ρ' xe rse => kq _ _ ⟨.ref σ1.length, h2, ρ', hres, x1.trans (x0.trans xe), rse, Dp, rfl, xe.get hn0⟩)
      fun x y ρ2 H2 σ2 σ3 Nx xe rse rd hone hN => dcomp_turn g (fun τ' a b => (wipe_same a b).trans (wipe_wipe τ _)) xe rse (re0.ext xe) hn0 rd hone hN
theorem de_dcomp (g : Good X) (hi : DI X tg iter E) (ok : BlkOk X.N X.env.scope scope own)
    (hg : ∀ (s : Shared) (H : Hp) (C : Addr) (cl : List (Str × Addr)) (fp : List Addr), DG (X.blk s H scope (compEnvC scope cl C X.env) fp) tg G (own.map (·.2)))
    (ht : ∀ (s : Shared) (H : Hp) (C : Addr) (cl : List (Str × Addr)) (fp : List Addr), DTs (X.blk s H scope (compEnvC scope cl C X.env) fp) ifs T)
    (hk : ∀ (s : Shared) (H : Hp) (C : Addr) (cl : List (Str × Addr)) (fp : List Addr), DE (X.blk s H scope (compEnvC scope cl C X.env) fp) kx B)
    (he : ∀ (s : Shared) (H : Hp) (C : Addr) (cl : List (Str × Addr)) (fp : List Addr), DE (X.blk s H scope (compEnvC scope cl C X.env) fp) vx A) (hs : ∀ x, foldedSetIterable iter X.env x = pure x := by intro _; rfl) :
    DE X (.DictComp kx vx [⟨tg, iter, ifs, 0⟩] scope pos) (eDComp E (own.map (·.2)) G T B A) := by
  refine ⟨fun {pins s τ H ρ e σ} I h => ?_⟩
  rw [arm_eval_DictComp]
  refine dd_core g.calm g.nd I.inv (pi_of hi) ok (fun s H C cl fp => (show PG (X.blk s H scope (compEnvC scope cl C X.env) fp) tg (toTG X G (own.map (·.2))) from pg_of (hg s H C cl fp))) (fun s H C cl fp => blPTs (ht s H C cl fp)) (fun s H C cl fp => blPE (hk s H C cl fp)) (fun s H C cl fp => blPE (he s H C cl fp)) hs (dd_app g hi I h fun _ _ z => z) fun D C s' m H' I' q hn f => ⟨m, hn, fun h'' sb => ?_⟩
  obtain ⟨f0, f1, f2, f3, f4, f5⟩ := f
  exact ⟨.ref D, H', I'.turned (t' := s'.toks) (fun b o hb e => (sb.2 b hb).trans e) f0 f1 f3 f4 f5, rfl, q⟩
/-- name = {..} on one line -/
theorem ds_setDc (g : Good X) {i : Nat} {y : Str} {py : Pos} (hy : X.N[i]? = some y) (hyl : X.env.scope.names.lookup y = some .local)
    (hsw : swapsWith (.DictComp kx vx [⟨tg, iter, ifs, 0⟩] scope pos) (some (.Name y py)) spos.line X.env = pure true) (hi : DI X tg iter E) (ok : BlkOk X.N X.env.scope scope own)
    (hg : ∀ (s : Shared) (H : Hp) (C : Addr) (cl : List (Str × Addr)) (fp : List Addr), DG (X.blk s H scope (compEnvC scope cl C X.env) fp) tg G (own.map (·.2)))
    (ht : ∀ (s : Shared) (H : Hp) (C : Addr) (cl : List (Str × Addr)) (fp : List Addr), DTs (X.blk s H scope (compEnvC scope cl C X.env) fp) ifs T)
    (hk : ∀ (s : Shared) (H : Hp) (C : Addr) (cl : List (Str × Addr)) (fp : List Addr), DE (X.blk s H scope (compEnvC scope cl C X.env) fp) kx B)
    (he : ∀ (s : Shared) (H : Hp) (C : Addr) (cl : List (Str × Addr)) (fp : List Addr), DE (X.blk s H scope (compEnvC scope cl C X.env) fp) vx A) (hs : ∀ x, foldedSetIterable iter X.env x = pure x := by intro _; rfl) :
    DS X (.Assign [.Name y py] (.DictComp kx vx [⟨tg, iter, ifs, 0⟩] scope pos) spos) (sSet i (eDComp E (own.map (·.2)) G T B A)) := by
  refine ⟨fun {pins s τ H ρ e σ} I h => ?_⟩
  rw [exec_Assign_Name_used _ _ _ _ hsw]
  refine wpAny_bind (wpAny_standAt (wpAny_bind ?_))
  show wpAny _ X.A (do let _ ← comprehension (.DictComp kx vx [⟨tg, iter, ifs, 0⟩] scope pos) scope X.env (firstIterPos [⟨tg, iter, ifs, 0⟩] pos) newDict false (eval iter X.env) (some (assign (.Name y py) X.env))) _ _ s
  refine wpAny_bind (thn (dd_core (Qf := fun _ s' => SP X pins (EF X ρ H (sSet i (eDComp E (own.map (·.2)) G T B A) e σ)) .next s') g.calm g.nd I.inv (pi_of hi) ok (fun s H C cl fp => (show PG (X.blk s H scope (compEnvC scope cl C X.env) fp) tg (toTG X G (own.map (·.2))) from pg_of (hg s H C cl fp))) (fun s H C cl fp => blPTs (ht s H C cl fp)) (fun s H C cl fp => blPE (hk s H C cl fp)) (fun s H C cl fp => blPE (he s H C cl fp)) hs (dd_app g hi I (SafeF.of I h) fun _ _ z => z) fun L C s' m H' I' q hn f => ?_) fun _ s' hq => wpAny_pure (wpAny_pure hq))
  show wpAny _ _ (assign (.Name y py) X.env (.ref L)) _ _ _
  refine wpAny_assign_Name (store_ok2 (v := V.ref L) I' g.nd hy (.inl hyl) rfl (fun s2 I2 ⟨a, sb, ha⟩ => ?_) (.inr hyl))
  obtain ⟨f0, f1, f2, f3, f4, f5⟩ := f
  have haC : C ≠ a := by
    rcases ha with z | z
    · rw [z]; exact f1
    · exact fun e => f4 y a z e.symm
  refine ⟨m, hn.sameBut sb haC, fun h3 sb3 => ?_⟩
  obtain ⟨d, σ', ρ', q1, x1, rs, rd⟩ := q
  exact ⟨_, H', I2.turned (t' := s2.toks) (fun b o hb e => (sb3.2 b hb).trans e) f0 f1 f3 f4 f5, e.set i (some d), σ', ρ', by unfold sSet; rw [q1]; rfl, x1, rs, (I.re.ext x1).set i rd⟩
theorem sw_trueD {elt kx vx : Expr} {gs : List Comprehension} {scope : Scope} {pos py : Pos} {y : Str} {l : Nat} {env : Env} (hk : env.scope.kind = .function) (hy : env.scope.names.lookup y = some .local) (hl : (py.line == pos.line) = true)
    (ha : (scope.names.any fun (n, k) => n == y && (k == .local || k == .cell)) = false) : swapsWith (.DictComp kx vx gs scope pos) (some (.Name y py)) l env = pure true := by
  have ky : env.kindOf y = some .local := hy
  have hb : env.blockKind = .function := by unfold Env.blockKind; rw [hk]; rfl
  unfold swapsWith
  simp only [hb, ky, ha, Expr.pos, hl]
  rfl
end
end Lb

set_option Elab.async false
set_option linter.all false
set_option maxRecDepth 100000
set_option maxHeartbeats 4000000
namespace Lb
open PySem PySem.Spec PyProof.Rows L2

/-! ### {k: v} -/
def eDict1 (B A : Ev) : Ev := fun e h => (B e (h ++ [.dict []])).bind fun k h1 => (A e h1).bind fun v h2 => match h2[h.length]? with
  | some (.dict []) => (match dputD h.length k v h2 with
    | .ok _ h3 => .ok (.ref h.length) h3
    | _ => .bad)
  | _ => .bad
section
variable {X : Cx} {pos : Pos} {kx vx : Expr} {A B : Ev}
theorem Inv.dputK {pins : List (Addr × Obj)} {τ : L2.St} {H : Hp} {s : Shared} {a : Addr} {kvh kvh' : List (NestedKey × Addr × V)} {h' : Heap} {t' : Nat} (I : Inv X pins τ H s) (hH : H a = some (.ext (DictPhi X.prog X.w a kvh))) (hs : ∀ b u, b ≠ a → s.heap.get? b = some u → h'.get? b = some u)
    (p : DictPhi X.prog X.w a kvh' h') : Inv X pins τ (upd H a (.ext (DictPhi X.prog X.w a kvh'))) { s with heap := h', toks := t' } := by
  refine I.write (x := a) (e := a) (by rw [hH]; trivial) (.inl rfl) hs ?_ p.ok
  obtain ⟨_, _, _, _, o, _, _, e1, _⟩ := p
  exact ⟨o, e1⟩
theorem de_dict1 (g : Good X) (hk : DE X kx B) (hv : DE X vx A)
    (hshape : (evalEachOpt [some kx] X.env).zip ((evalEach [vx] X.env).map fun v => do let x ← v; standAt pos; pure x) = [((eval kx X.env), (do let x ← eval vx X.env; standAt pos; pure x : Sem Value))].map fun p => (some p.1, p.2) := by rfl) :
    DE X (.Dict [some kx] [vx] pos) (eDict1 B A) := by
  refine ⟨fun {pins s τ H ρ e σ} I h => ?_⟩
  have hn := I.inv.hok.fresh (Nat.le_refl s.heap.objs.size)
  have hDs : (s.heap.objs.size == sysModules) = false := beq_eq_false_iff_ne.mpr (Ne.symm (Nat.ne_of_lt I.inv.big))
  have I0 := I.inv.laid (a := s.heap.objs.size) (o := .ext (DictPhi X.prog X.w s.heap.objs.size [])) (h' := s.heap.push { cls := .type "dict", data := .dict #[] }) (t' := s.toks) (fun _ _ q => Heap.get?_push_of_some _ q) (Nat.le_refl _) (dictPhi_new hDs (Heap.get?_push_size _ rfl))
  have x0 : Ext ρ (ρ ++ [s.heap.objs.size]) H (upd H s.heap.objs.size (.ext (DictPhi X.prog X.w s.heap.objs.size []))) := Ext.new hn
  have rs0 : RS X.prog X.w X.K X.mg (ρ ++ [s.heap.objs.size]) (σ ++ [.dict []]) (upd H s.heap.objs.size (.ext (DictPhi X.prog X.w s.heap.objs.size []))) := I.rs.new (ob := .dict []) hn ⟨[], upd_same, .nil⟩
  have hn0 : (ρ ++ [s.heap.objs.size])[σ.length]? = some s.heap.objs.size := by rw [← I.rs.len, List.getElem?_append_right (Nat.le_refl _)]; simp
  have SR0 : SR X pins (ρ ++ [s.heap.objs.size]) e (σ ++ [.dict []]) τ (upd H s.heap.objs.size (.ext (DictPhi X.prog X.w s.heap.objs.size []))) { s with heap := s.heap.push { cls := .type "dict", data := .dict #[] }, toks := s.toks } := ⟨I0, rs0, I.re.ext x0⟩
  have h0 : Safe X (ρ ++ [s.heap.objs.size]) (upd H s.heap.objs.size (.ext (DictPhi X.prog X.w s.heap.objs.size []))) τ (eDict1 B A e σ) := ⟨h.nb, h.tk.imp fun c d τ' H' ⟨y, σ', ρ', e1, e2, x', q⟩ => ⟨y, σ', ρ', e1, e2, x0.trans x', q⟩⟩
  have hroom : (nestedKind X.prog X.w).room X.A := by show X.A.units + 8 < cLine; have := g.un; omega
  rw [arm_eval_Dict, hshape, dictDisplay_pairs _ (by simp) (by simp)]
  refine wpAny_bind (wpAny_standAt (wpAny_bind (wpAny_subDictH (knd := nestedKind X.prog X.w) (Q := fun d s' => wpAny (model X.prog X.w) X.A (pure (Value.ref d)) (EP X pins τ (GD X ρ H (eDict1 B A e σ))) X.xe s') hroom (by simp) (evalPairs_cons ?_))))
  refine hk.thenD SR0 h0 fun k σ1 ρ1 v1 u1 H1 s1 q1 I1 x1 rd1 rv1 h1 => wpAny_bind (hv.thenD I1 h1 fun v σ2 ρ2 v2 u2 H2 s2 q2 I2 x2 rd2 rv2 h2 => wpAny_bind (wpAny_standAt (wpAny_pure (evalPairs_nil ?_))))
  cases hd : σ2[σ.length]? with
  | none => exact absurd (by simp [hd]) h2.nb
  | some ob =>
    cases ob with
    | dict kvs =>
      cases kvs with
      | cons _ _ => exact absurd (by simp [hd]) h2.nb
      | nil =>
        cases hput : dputD σ.length k v σ2 with
        | exc _ _ => exact absurd (by simp [hd, hput]) h2.nb
        | bad => exact absurd (by simp [hd, hput]) h2.nb
        | ok _ σ3 =>
          obtain ⟨kvs, hd', hk, hz, rfl⟩ := dput_nb hput
          rw [hd] at hd'
          cases hd'
          have xx := x1.trans x2
          have ha := xx.get hn0
          obtain ⟨a, kvh, xs, ea, ha', hH, hzz, hsm, hp, hx, hdo⟩ := I2.dict (v := .ref s.heap.objs.size) ⟨_, rfl, ha⟩ hd
          cases ea
          cases hp
          cases hx
          obtain ⟨ks, ek, _⟩ := isKey_spec hk
          subst ek
          have rdk := RD.ext x2 _ _ rd1
          obtain ⟨c, vs, rfl, _⟩ := id rdk
          cases rv1
          have key := I2.key hk rdk
          refine ⟨[((D.tup ks).key, c, u2)], ⟨rfl, rfl, key, trivial⟩, hdo, fun h' tk hd' hsb => ?_⟩
          have hd2 : h'.DictOfH (nestedKind X.prog X.w) s.heap.objs.size (storedH [] (D.tup ks).key c u2) := hd'
          have p : DictPhi X.prog X.w s.heap.objs.size (storedV [] (D.tup ks).key c v2) h' := DictPhi.of (Nat.le_trans (storedV_length _ _ _ _) (by show 0 + 1 ≤ sizeLine; rw [sizeLine_eq]; omega)) hsm (storedV_rel .nil rv2) hd2
          have xe : Ext ρ2 ρ2 H2 (upd H2 s.heap.objs.size (.ext (DictPhi X.prog X.w s.heap.objs.size (storedV [] (D.tup ks).key c v2)))) := Ext.put (List.mem_of_getElem? ha)
          refine wpAny_pure ⟨.ref s.heap.objs.size, _, Inv.dputK (t' := tk) I2.inv hH (fun b u hb q => (hsb.2 b hb).trans q) p, rfl, ?_⟩
          refine ⟨.ref σ.length, σ2.set σ.length (.dict (dset [] (.tup ks) v)), ρ2, ?_, x0.trans (xx.trans xe), I2.rs.put ha ⟨_, upd_same, ?_⟩, s.heap.objs.size, rfl, xe.get ha⟩
          · unfold eDict1
            rw [q1]
            show ((A e σ1).bind fun v h2 => _) = _
            rw [q2]
            simp [hd, hput]
          · exact pimp (dset_rel (kvs := []) (kvh := []) .nil hk rdk rd2) fun p q ⟨h1, h2, h3, h4⟩ => ⟨h1, h2, RD.ext xe _ _ h3, RD.ext xe _ _ h4⟩
    | _ => exact absurd (by simp [hd]) h2.nb
end
end Lb

set_option Elab.async false
set_option linter.all false
set_option maxRecDepth 100000
set_option maxHeartbeats 4000000
namespace Lb
open PySem PySem.Spec PyProof.Rows L2

/-! ### d.update(pairs) -/
def pairsOf : List D → Option (List (D × D))
  | [] => some []
  | .tup [k, v] :: r => if k.isKey then (pairsOf r).map ((k, v) :: ·) else none
  | _ => none
def dupd (kvs ps : List (D × D)) : List (D × D) := ps.foldl (fun acc p => dset acc p.1 p.2) kvs
def updD (x : D) (xs : List D) (h : Hs) : R D := match x, xs with
  | .ref n, [y] => match h[n]? with
    | some (.dict kvs) => (match listOf h y with
      | some items => (match pairsOf items with
        | some ps => if kvs.length + ps.length ≤ sizeLine then .ok .non (h.set n (.dict (dupd kvs ps))) else .bad
        | none => .bad)
      | none => .bad)
    | _ => .bad
  | _, _ => .bad
/-- a row: the pair's tuple, its key's tuple, its value -/
abbrev PRow := Addr × Addr × V
theorem pairs_rows {K : PySem.W.Frag} {ρ : List Addr} {H : Hp} : ∀ {items : List D} {vs : List V} {ps : List (D × D)}, RDs K ρ H items vs → pairsOf items = some ps →
    ∃ rows : List PRow, vs = rows.map (fun r => V.ref r.1) ∧ Paired (fun (p : D × D) (r : PRow) => p.1.isKey = true ∧ RD K ρ H p.1 (.ref r.2.1) ∧ RD K ρ H p.2 r.2.2 ∧ SqT K H r.1 [.ref r.2.1, r.2.2]) ps rows
  | [], _, _, r, e => by cases r; cases e; exact ⟨[], rfl, .nil⟩
  | x :: items, _, ps, ⟨v, r', e1, h1, h2⟩, e => by
    subst e1
    unfold pairsOf at e
    split at e
    · rename_i h0; cases h0
    · rename_i k w r0 h0
      cases h0
      by_cases hk : k.isKey = true
      · rw [if_pos hk] at e
        cases hp : pairsOf items with
        | none => rw [hp] at e; cases e
        | some ps' =>
          rw [hp] at e
          cases e
          obtain ⟨rows, rfl, pr⟩ := pairs_rows h2 hp
          obtain ⟨t, us, rfl, tt, rr⟩ := h1
          obtain ⟨kv, wv, rfl, r1, r2⟩ := rds2 rr
          obtain ⟨ks, ek, _⟩ := isKey_spec hk
          subst ek
          obtain ⟨b, ws, rfl, _⟩ := id r1
          exact ⟨(t, b, wv) :: rows, rfl, .cons ⟨hk, r1, r2, tt.seq⟩ pr⟩
      · rw [if_neg hk] at e; cases e
    · cases e
/-- as they stand in the heap: with the value -/
abbrev HRow := Addr × Addr × Value
theorem rows_heap {X : Cx} {pins : List (Addr × Obj)} {τ : L2.St} {H : Hp} {s : Shared} {ρ : List Addr} (I : Inv X pins τ H s) : ∀ {ps : List (D × D)} {rows : List PRow},
    Paired (fun (p : D × D) (r : PRow) => p.1.isKey = true ∧ RD X.K ρ H p.1 (.ref r.2.1) ∧ RD X.K ρ H p.2 r.2.2 ∧ SqT X.K H r.1 [.ref r.2.1, r.2.2]) ps rows →
    ∃ hr : List HRow, Paired (fun (r : PRow) (q : HRow) => q.1 = r.1 ∧ q.2.1 = r.2.1 ∧ RelV r.2.2 q.2.2 ∧ s.heap.IsTuple q.1 #[.ref q.2.1, q.2.2]) rows hr
  | _, _, .nil => ⟨[], .nil⟩
  | _, _, .cons h t => by
    rename_i r _ _
    obtain ⟨hr, ph⟩ := rows_heap I t
    obtain ⟨its, rv, pl, _⟩ := I.tuple h.2.2.2
    cases rv with
    | @cons _ u1 _ us q1 q2 =>
      cases q2 with
      | @cons _ u2 _ us2 q3 q4 =>
        cases q4
        cases q1
        exact ⟨(r.1, r.2.1, u2) :: hr, .cons ⟨rfl, rfl, q3, pl⟩ ph⟩
theorem vals_rows {rows : List PRow} {hr : List HRow} {its : List Value} {P : PRow → HRow → Prop} (h : Paired P rows hr) (f : ∀ r q, P r q → q.1 = r.1) (r : Vals (rows.map fun r => V.ref r.1) its) : its = hr.map fun q => Value.ref q.1 := by
  induction h generalizing its with
  | nil => cases r; rfl
  | cons h1 _ ih =>
    cases r with
    | cons q1 q2 =>
      cases q1
      rw [ih q2, List.map_cons, f _ _ h1]
theorem dupd_rel {K : PySem.W.Frag} {ρ : List Addr} {H : Hp} {s : Shared} {ps : List (D × D)} {rows : List PRow} {hr : List HRow}
    (h1 : Paired (fun (p : D × D) (r : PRow) => p.1.isKey = true ∧ RD K ρ H p.1 (.ref r.2.1) ∧ RD K ρ H p.2 r.2.2 ∧ SqT K H r.1 [.ref r.2.1, r.2.2]) ps rows)
    (h2 : Paired (fun (r : PRow) (q : HRow) => q.1 = r.1 ∧ q.2.1 = r.2.1 ∧ RelV r.2.2 q.2.2 ∧ s.heap.IsTuple q.1 #[.ref q.2.1, q.2.2]) rows hr) :
    ∃ ps3 : List (NestedKey × Addr × Value), ps3.length = ps.length ∧ Paired (fun (p : D × D) (x : NestedKey × Addr × Value) => x.1 = p.1.key ∧ p.1.isKey = true ∧ RD K ρ H p.1 (.ref x.2.1)) ps ps3 ∧ Paired (fun (q : HRow) (x : NestedKey × Addr × Value) => x.2.1 = q.2.1 ∧ x.2.2 = q.2.2) hr ps3 ∧
      ∀ (kvs : List (D × D)) (kvh : List (NestedKey × Addr × V)) (xs : List (NestedKey × Addr × Value)),
        Paired (fun (p : D × D) (q : NestedKey × Addr × V) => q.1 = p.1.key ∧ p.1.isKey = true ∧ RD K ρ H p.1 (.ref q.2.1) ∧ RD K ρ H p.2 q.2.2) kvs kvh →
        Paired (fun (p : NestedKey × Addr × V) (q : NestedKey × Addr × Value) => p.1 = q.1 ∧ p.2.1 = q.2.1 ∧ RelV p.2.2 q.2.2) kvh xs →
        ∃ kvh', kvh'.length ≤ kvh.length + ps.length ∧ Paired (fun (p : D × D) (q : NestedKey × Addr × V) => q.1 = p.1.key ∧ p.1.isKey = true ∧ RD K ρ H p.1 (.ref q.2.1) ∧ RD K ρ H p.2 q.2.2) (dupd kvs ps) kvh' ∧
          Paired (fun (p : NestedKey × Addr × V) (q : NestedKey × Addr × Value) => p.1 = q.1 ∧ p.2.1 = q.2.1 ∧ RelV p.2.2 q.2.2) kvh' (storedAllH xs ps3) := by
  induction h1 generalizing hr with
  | nil =>
    cases h2
    exact ⟨[], rfl, .nil, .nil, fun kvs kvh xs hp hx => ⟨kvh, Nat.le_refl _, hp, hx⟩⟩
  | @cons p r ps rows a1 a2 ih =>
    cases h2 with
    | @cons _ q _ hr b1 b2 =>
      obtain ⟨ps3, l, c1, c2, c3⟩ := ih b2
      refine ⟨(p.1.key, r.2.1, q.2.2) :: ps3, by simp [l], .cons ⟨rfl, a1.1, a1.2.1⟩ c1, .cons ⟨b1.2.1.symm, rfl⟩ c2, fun kvs kvh xs hp hx => ?_⟩
      obtain ⟨kvh', l', d1, d2⟩ := c3 (dset kvs p.1 p.2) (storedV kvh p.1.key r.2.1 r.2.2) (storedH xs p.1.key r.2.1 q.2.2) (dset_rel hp a1.1 a1.2.1 a1.2.2.1) (storedV_rel hx b1.2.2.1)
      refine ⟨kvh', ?_, d1, d2⟩
      have := storedV_length kvh p.1.key r.2.1 r.2.2
      simp only [List.length_cons]
      omega
theorem pget {α β : Type} {F : α → β → Prop} : ∀ {xs : List α} {ys : List β} {i : Nat} {a : α}, Paired F xs ys → xs[i]? = some a → ∃ b, ys[i]? = some b ∧ F a b
  | _, _, _, _, .nil, h => by simp at h
  | _, _, 0, _, .cons h _, e => by simp at e; subst e; exact ⟨_, rfl, h⟩
  | _, _, i + 1, _, .cons _ t, e => by obtain ⟨b, h1, h2⟩ := pget (i := i) t (by simpa using e); exact ⟨b, by simpa using h1, h2⟩
theorem pget' {α β : Type} {F : α → β → Prop} : ∀ {xs : List α} {ys : List β} {i : Nat} {b : β}, Paired F xs ys → ys[i]? = some b → ∃ a, xs[i]? = some a ∧ F a b
  | _, _, _, _, .nil, h => by simp at h
  | _, _, 0, _, .cons h _, e => by simp at e; subst e; exact ⟨_, rfl, h⟩
  | _, _, i + 1, _, .cons _ t, e => by obtain ⟨b, h1, h2⟩ := pget' (i := i) t (by simpa using e); exact ⟨b, by simpa using h1, h2⟩
theorem upd_nb {x : D} {xs : List D} {h : Hs} (nb : updD x xs h ≠ .bad) : ∃ n y kvs items ps, x = .ref n ∧ xs = [y] ∧ h[n]? = some (.dict kvs) ∧ listOf h y = some items ∧ pairsOf items = some ps ∧ kvs.length + ps.length ≤ sizeLine ∧ updD x xs h = .ok .non (h.set n (.dict (dupd kvs ps))) := by
  unfold updD at nb ⊢
  split at nb
  · rename_i n y
    cases hn : h[n]? with
    | none => rw [hn] at nb; exact absurd rfl nb
    | some o =>
      cases o with
      | dict kvs =>
        rw [hn] at nb
        dsimp only at nb
        cases hl : listOf h y with
        | none => rw [hl] at nb; exact absurd rfl nb
        | some items =>
          rw [hl] at nb
          dsimp only at nb
          cases hp : pairsOf items with
          | none => rw [hp] at nb; exact absurd rfl nb
          | some ps =>
            rw [hp] at nb
            dsimp only at nb
            have hz := nbad2 nb
            exact ⟨n, y, kvs, items, ps, rfl, rfl, hn, hl, hp, hz, by simp only [hn, hl, hp, if_pos hz]⟩
      | _ => rw [hn] at nb; exact absurd rfl nb
  · exact absurd rfl nb
theorem om_update {X : Cx} (g : Good X) : OpM X "dict.update" updD := by
  intro pins s τ H ρ e σ x xs v vs u us I rd rv rds rvs h
  obtain ⟨n, y, kvs, items, ps, rfl, rfl, hn, hl, hp, hz, e1⟩ := upd_nb h.nb
  rw [e1]
  obtain ⟨a, kvh, xs3, rfl, ha, hH, hzz, hsm, hpp, hx, hd⟩ := I.dict rd hn
  cases rv
  obtain ⟨vy, rfl, ry⟩ := rds1 rds
  obtain ⟨uy, rfl, ru⟩ := rvs.one
  obtain ⟨p, ws, rfl, hq, rr⟩ := list_at I.rs ry hl
  cases ru
  obtain ⟨rows, rfl, prow⟩ := pairs_rows rr hp
  obtain ⟨hr, ph⟩ := rows_heap I.inv prow
  obtain ⟨its, rv, pl, hz2⟩ := I.inv.list hq
  have eits := vals_rows ph (fun r q z => z.1) rv
  subst eits
  obtain ⟨ps3, l3, c1, c2, c3⟩ := dupd_rel prow ph
  obtain ⟨kvh', lk, d1, d2⟩ := c3 kvs kvh xs3 hpp hx
  have lh : hr.length = ps.length := by rw [← pLen ph, ← pLen prow]
  have l1 := pLen hpp
  have l2 := pLen hx
  have hroom : (nestedKind X.prog X.w).room X.A.in1 := by show X.A.units + 1 + 8 < cLine; have := g.un; omega
  let Ts : Nat → Addr := fun j => (hr[j]?.map (·.1)).getD 0
  let pv : List (Value × Value) := hr.map fun q => (.ref q.2.1, q.2.2)
  have ok : PlainSeq "list" s.heap p (hr.map fun q => Value.ref q.1).toArray ∧ PairItems s.heap (hr.map fun q => Value.ref q.1).toArray Ts pv := by
    refine ⟨?_, by simp [pv], fun j k v hj => ?_⟩
    · obtain ⟨o, m, w1, w2, w3, w4⟩ := pl
      exact ⟨o, m, w1, w2, w3, w4⟩
    · have hj' : (hr[j]?).map (fun q : HRow => (Value.ref q.2.1, q.2.2)) = some (k, v) := by rw [← List.getElem?_map]; exact hj
      cases hq : hr[j]? with
      | none => rw [hq] at hj'; cases hj'
      | some q =>
        rw [hq] at hj'
        cases hj'
        obtain ⟨r0, _, w⟩ := pget' ph hq
        refine ⟨by simp [Ts, hq], .inl ?_⟩
        show s.heap.IsTuple ((hr[j]?.map (·.1)).getD 0) _
        rw [hq]
        exact w.2.2.2
  have hdf : a ∉ p :: (List.range pv.length).map Ts := by
    obtain ⟨o, es, ep, w1, w2, _⟩ := id hd
    intro hm
    rcases List.mem_cons.mp hm with rfl | hm
    · obtain ⟨o2, m, w3, w4, _⟩ := pl
      rw [w1] at w3; cases w3
      rw [w2.1] at w4
      injection w4 with w4
      exact absurd w4 (by decide)
    · obtain ⟨j, hj, ej⟩ := List.mem_map.mp hm
      have hj2 : j < hr.length := by simpa [pv] using hj
      have hq : hr[j]? = some hr[j] := by simp [hj2]
      obtain ⟨r0, _, w⟩ := pget' ph hq
      have e2 : Ts j = hr[j].1 := by simp [Ts, hq]
      obtain ⟨o2, w3, w4, _⟩ := w.2.2.2
      rw [← e2, ej, w1] at w3
      cases w3
      rw [w2.1] at w4
      injection w4 with w4
      exact absurd w4 (by decide)
  have hc : PairsHaveH (nestedKind X.prog X.w) pv.length (PairRel pv) ps3 := by
    refine ⟨by rw [l3]; simp [pv, lh], fun i key v hi => ?_⟩
    have hi' : (hr[i]?).map (fun q : HRow => (Value.ref q.2.1, q.2.2)) = some (key, v) := by rw [← List.getElem?_map]; exact hi
    cases hq : hr[i]? with
    | none => rw [hq] at hi'; cases hi'
    | some q =>
      rw [hq] at hi'
      cases hi'
      obtain ⟨x, hx3, w1, w2⟩ := pget c2 hq
      exact ⟨x.1, x.2.1, by rw [hx3, ← w2], by rw [w1]⟩
  have his3 : ∀ x ∈ ps3, (nestedKind X.prog X.w).is s.heap x.1 x.2.1 := fun x hx3 => by
    obtain ⟨i, hi⟩ := List.getElem?_of_mem hx3
    obtain ⟨p0, _, w1, w2, w3⟩ := pget' c1 hi
    rw [w1]
    exact I.key w2 w3
  obtain ⟨_, _, _, _, _, _, _, hisx, _⟩ := id hd
  refine call_update_pairsH (PairArg.list p _ Ts pv) (I.inv.ok.hd g.calm) hroom ok hdf hc (fun h' hk x hx3 => ?_) hd (by rw [← l2, ← l1]; simp [pv, lh]; exact hz) fun h' tk hd' hk => ?_
  · have hs2 : ∀ b o vs n, s.heap.get? b = some o → o.data = .seq vs n → h'.get? b = some o := fun b o vs n e1 e2 => by
      refine hk b o (fun z => ?_) (fun z => by cases z) e1
      subst z
      obtain ⟨o2, es, ep, w1, w2, w3, _⟩ := id hd
      rw [w1] at e1; cases e1
      rw [w3] at e2; cases e2
    refine nestedKind_stays.stays (fun b o vs n e1 e2 => hs2 b o vs n e1 e2) ?_
    rcases List.mem_append.mp hx3 with z | z
    · exact hisx x z
    · exact his3 x z
  · have xe : Ext ρ ρ H (upd H a (.ext (DictPhi X.prog X.w a kvh'))) := Ext.put (List.mem_of_getElem? ha)
    have pp : DictPhi X.prog X.w a kvh' h' := DictPhi.of (by omega) hsm d2 hd'
    refine ⟨.non, _, Inv.dputK (t' := tk) I.inv hH (fun b o hb q => hk b o hb (fun z => by cases z) q) pp, rfl, .non, _, ρ, rfl, xe, I.rs.put ha ⟨_, upd_same, ?_⟩, rfl⟩
    exact pimp d1 fun p q ⟨h1, h2, h3, h4⟩ => ⟨h1, h2, RD.ext xe _ _ h3, RD.ext xe _ _ h4⟩
end Lb

set_option Elab.async false
set_option linter.all false
set_option maxRecDepth 100000
set_option maxHeartbeats 4000000
namespace Lb
open PySem PySem.Spec PyProof.Rows L2

/-! ### sum -/
theorem args_sum2 (a b : Value) : argsOk "sum" ⟨[a, b], []⟩ := by unfold argsOk; kernel_rfl
section
variable {prog : Program} {w : World} {A : Around} {E : Value → Shared → Prop} {R : Result → Shared → Prop}
theorem cat_list {s : Shared} {l b : Addr} {vs ws : List Value} {Q : Value → Shared → Prop} (hl : s.heap.IsList l vs.toArray) (hb : s.heap.IsList b ws.toArray)
    (h : Q (.ref s.heap.objs.size) { s with heap := s.heap.push { cls := .type "list", data := .seq (vs ++ ws).toArray } }) (hsz : vs.length + ws.length ≤ sizeLine) :
    wpAny (model prog w) A (binaryOp .Add (.ref l) (.ref b)) Q E s := by
  obtain ⟨⟨cls, dd, data, sl⟩, ho, hc, n, hd⟩ := id hl
  obtain ⟨⟨cls2, dd2, data2, sl2⟩, ho2, hc2, n2, hd2⟩ := id hb
  simp only at hc hd hc2 hd2
  subst hc hd hc2 hd2
  have e : vs.toArray ++ ws.toArray = (vs ++ ws).toArray := by simp
  refine concat_meets ⟨_, ho, rfl⟩ ⟨_, ho2, rfl⟩ noFill_list_add seq_list_add PySem.F.slot_list_add PySem.F.entry_list_add (PySem.F.args_list_add_2 _ _) (list_addW l b vs.toArray ws.toArray n n2 dd dd2 sl sl2 (by simpa using hsz)) ⟨ho, ho2, ?_⟩
  rw [e]
  exact h
/-- the walk: h0 the heap before, i items gone -/
structure SumAt (t0 : Addr) (h0 h : Heap) (I l S t : Addr) (i : Nat) (acc : List Value) : Prop where
  keep : ∀ b o, h0.get? b = some o → h.get? b = some o
  it : h.IsListIter I l i
  lo : h0.objs.size ≤ I
  so : h0.objs.size ≤ S
  ne : I ≠ S
  st : ∃ c, h.get? S = some { cls := .type "list", dict := none, data := .seq #[.ref t] c, slots := #[] }
  ac : h.IsList t acc.toArray
  nI : t ≠ I
  nS : t ≠ S
  ob : t = t0 ∨ (h0.objs.size ≤ t ∧ ∃ n, h.get? t = some { cls := .type "list", data := .seq acc.toArray n })
theorem isList_at {h h' : Heap} {a : Addr} {xs : Array Value} (x : h.IsList a xs) (k : ∀ o, h.get? a = some o → h'.get? a = some o) : h'.IsList a xs := let ⟨o, e, r⟩ := x; ⟨o, k o e, r⟩
def preCat (acc : List Value) (parts : List (Addr × List Value)) : List Value := acc ++ (parts.map (·.2)).flatten
theorem sum_lists_loop (hh : A.handled = none) {t0 : Addr} {h0 : Heap} {l I S : Addr} {parts : List (Addr × List Value)} (hl : h0.IsList l (parts.map fun p => Value.ref p.1).toArray) (hp : ∀ p ∈ parts, h0.IsList p.1 p.2.toArray) :
    ∀ (k i : Nat) (s : Shared) (t : Addr) (acc : List Value), parts.length - i = k → i ≤ parts.length → SumAt t0 h0 s.heap I l S t i acc → (preCat acc (parts.drop i)).length ≤ sizeLine →
    (∀ s' t', (∀ b o, h0.get? b = some o → s'.heap.get? b = some o) → s'.heap.IsList t' (preCat acc (parts.drop i)).toArray → (t' = t0 ∨ (h0.objs.size ≤ t' ∧ ∃ n, s'.heap.get? t' = some { cls := .type "list", data := .seq (preCat acc (parts.drop i)).toArray n })) → s' = { s with heap := s'.heap, toks := s'.toks } → R (.ok (.ret (.ref t'))) s') →
    codeAny (model prog w) A (.builtin "sum.loop" ⟨[.ref I, .ref S, rawInt 2, rawInt 0], []⟩) R s := by
  intro k
  induction k with
  | zero =>
    intro i s t acc hk hi hst hz hR
    have hin : i = parts.length := by omega
    subst hin
    obtain ⟨c, hS⟩ := hst.st
    have hl' : s.heap.IsList l (parts.map fun p => Value.ref p.1).toArray := isList_at hl (hst.keep l)
    refine codeAny_builtin PySem.F.entry_sum_loop ?_
    rw [Around.under_plainId PySem.F.plain_sum_loop _]
    show wpAny _ A.in1 (seqItems? (.ref S) >>= _) _ _ s
    refine wpAny_bind (wpAny_seqItems hS rfl ?_)
    show wpAny _ A.in1 (tryCatch (pyNext (.ref I)) _ >>= _) _ _ s
    refine wpAny_bind (wpAny_tryCatch (wpAny_pyNext_list_end hh hst.it hl' (by simp) fun h' he => ?_))
    have e1 : preCat acc (parts.drop parts.length) = acc := by simp [preCat]
    refine wpAny_pure (hR { s with heap := h' } t (fun b o e => ?_) ?_ (hst.ob.imp id fun z => ⟨z.1, let ⟨n, e⟩ := z.2; ⟨n, by rw [e1]; exact he t _ hst.nI e⟩⟩) rfl)
    · exact he b o (Nat.ne_of_lt (Nat.lt_of_lt_of_le (Heap.lt_size e) hst.lo)) (hst.keep b o e)
    · rw [e1]
      exact isList_at hst.ac fun o e => he t o hst.nI e
  | succ k ih =>
    intro i s t acc hk hi hst hz hR
    have hlt : i < parts.length := by omega
    obtain ⟨c, hS⟩ := hst.st
    have hl' : s.heap.IsList l (parts.map fun p => Value.ref p.1).toArray := isList_at hl (hst.keep l)
    have hpi : parts[i]? = some parts[i] := by simp [hlt]
    have hpl := hp parts[i] (List.getElem_mem hlt)
    refine codeAny_builtin PySem.F.entry_sum_loop ?_
    rw [Around.under_plainId PySem.F.plain_sum_loop _]
    show wpAny _ A.in1 (seqItems? (.ref S) >>= _) _ _ s
    refine wpAny_bind (wpAny_seqItems hS rfl ?_)
    show wpAny _ A.in1 (tryCatch (pyNext (.ref I)) _ >>= _) _ _ s
    refine wpAny_bind (wpAny_tryCatch (wpAny_pyNext_list_item (x := .ref parts[i].1) hst.it hl' (by simp [hlt]) fun h' hit he => ?_))
    have kp : ∀ b o, b ≠ I → s.heap.get? b = some o → h'.get? b = some o := fun b o hb e => (he.2 b hb).trans e
    have ac' : h'.IsList t acc.toArray := isList_at hst.ac fun o e => kp t o hst.nI e
    have pl' : h'.IsList parts[i].1 parts[i].2.toArray := isList_at hpl fun o e => kp _ o (Nat.ne_of_lt (Nat.lt_of_lt_of_le (Heap.lt_size e) hst.lo)) (hst.keep _ o e)
    have ed : parts.drop i = parts[i] :: parts.drop (i + 1) := List.drop_eq_getElem_cons hlt
    have ez : preCat acc (parts.drop i) = preCat (acc ++ parts[i].2) (parts.drop (i + 1)) := by
      rw [ed]
      show acc ++ ((parts[i] :: parts.drop (i + 1)).map (·.2)).flatten = (acc ++ parts[i].2) ++ ((parts.drop (i + 1)).map (·.2)).flatten
      rw [List.map_cons, List.flatten_cons, List.append_assoc]
    have hz1 : acc.length + parts[i].2.length ≤ sizeLine := by
      rw [ez] at hz
      unfold preCat at hz
      rw [List.length_append, List.length_append] at hz
      omega
    have hSh : h'.get? S = some { cls := .type "list", dict := none, data := .seq #[.ref t] c, slots := #[] } := kp S _ (Ne.symm hst.ne) hS
    have sz : h'.objs.size = s.heap.objs.size := he.1
    show wpAny _ A.in1 ((holding [Value.ref parts[i].1] (binaryOp .Add (.ref t) (.ref parts[i].1))).attempt >>= _) _ _ _
    refine wpAny_bind (wpAny_attempt (wpAny_holding (cat_list (s := { s with heap := h' }) ac' pl' ?_ hz1)))
    generalize hT : h'.objs.size = T
    generalize hH2 : h'.push { cls := .type "list", data := .seq (acc ++ parts[i].2).toArray } = h2
    have k2 : ∀ b o, h'.get? b = some o → h2.get? b = some o := fun b o e => by rw [← hH2]; exact Heap.get?_push_of_some _ e
    have tT : h2.get? T = some { cls := .type "list", data := .seq (acc ++ parts[i].2).toArray } := by rw [← hH2, ← hT]; exact Heap.get?_push_size _ rfl
    have hS2 := k2 _ _ hSh
    show wpAny _ A.in1 (updateSeq S (fun _ => #[.ref T]) >>= _) _ _ _
    refine wpAny_bind (wpAny_updateSeq hS2 rfl ?_)
    have hS3 := Heap.get?_update_self (Obj.mapSeq fun _ => #[Value.ref T]) hS2 rfl
    refine wpAny_bind (wpAny_letGo ?_)
    refine wpAny_bind (wpAny_updateSeq hS3 rfl (wpAny_pure ⟨plainId_quiet PySem.F.plain_sum_loop _, ?_⟩))
    have hS4 := Heap.get?_update_self (Obj.mapSeq fun _ => #[Value.ref T]) hS3 rfl
    have k4 : ∀ b o, b ≠ S → h2.get? b = some o → ((h2.update S (Obj.mapSeq fun _ => #[Value.ref T])).update S (Obj.mapSeq fun _ => #[Value.ref T])).get? b = some o := fun b o hb e =>
      (Heap.get?_update_other _ _ (Ne.symm hb)).trans ((Heap.get?_update_other _ _ (Ne.symm hb)).trans e)
    have hIlt : I < h'.objs.size := by
      obtain ⟨o, e, _⟩ := id hit
      exact Heap.lt_size e
    have hSlt : S < h'.objs.size := Heap.lt_size hSh
    have nTS : T ≠ S := by rw [← hT]; exact Nat.ne_of_gt hSlt
    have nTI : T ≠ I := by rw [← hT]; exact Nat.ne_of_gt hIlt
    refine ih (i + 1) _ T (acc ++ parts[i].2) (by omega) hlt ⟨fun b o e => ?_, ?_, hst.lo, hst.so, hst.ne, ⟨_, hS4⟩, ?_, nTI, nTS, .inr ⟨by rw [← hT, sz]; exact Nat.le_of_lt (Nat.lt_of_le_of_lt hst.lo (by obtain ⟨o, e, _⟩ := hst.it; exact Heap.lt_size e)), 0, k4 T _ nTS tT⟩⟩ (by rw [← ez]; exact hz) fun s' t' q1 q2 q3 q4 => ?_
    · have hb := Heap.lt_size e
      exact k4 b o (Nat.ne_of_lt (Nat.lt_of_lt_of_le hb hst.so)) (k2 b o (kp b o (Nat.ne_of_lt (Nat.lt_of_lt_of_le hb hst.lo)) (hst.keep b o e)))
    · obtain ⟨o, e, r⟩ := id hit
      exact ⟨o, k4 I o hst.ne (k2 I o e), r⟩
    · exact ⟨_, k4 T _ nTS tT, rfl, _, rfl⟩
    · exact hR s' t' q1 (by rw [ez]; exact q2) (by rw [ez]; exact q3) q4
theorem call_sum_lists {s : Shared} (hh : A.handled = none) {l t : Addr} {parts : List (Addr × List Value)} {acc : List Value} {Q : Value → Shared → Prop} (hl : s.heap.IsList l (parts.map fun p => Value.ref p.1).toArray) (hp : ∀ p ∈ parts, s.heap.IsList p.1 p.2.toArray)
    (ht : s.heap.IsList t acc.toArray) (hz : (preCat acc parts).length ≤ sizeLine)
    (h : ∀ h' tk t', (∀ b o, s.heap.get? b = some o → h'.get? b = some o) → h'.IsList t' (preCat acc parts).toArray → (t' = t ∨ (s.heap.objs.size ≤ t' ∧ ∃ n, h'.get? t' = some { cls := .type "list", data := .seq (preCat acc parts).toArray n })) → Q (.ref t') { s with heap := h', toks := tk }) :
    wpAny (model prog w) A (call (.builtin "sum") [.ref l, .ref t]) Q E s := by
  refine call_function_tree PySem.F.kind_sum PySem.F.plain_sum PySem.F.entry_sum (args_sum2 _ _) ?_
  unfold Builtin.«sum»
  simp only [List.length_cons, List.length_nil]
  rw [if_neg (by decide)]
  refine wpAny_bind (wpAny_of_eq (show Builtin.Builtins.bindParams "sum" ["start"] 0 ⟨[.ref t], []⟩ = pure [some (.ref t)] from rfl) ?_)
  refine wpAny_bind (wpAny_pyIter_list hl ?_)
  refine wpAny_bind (wpAny_pure ?_)
  have kI : ∀ b o, s.heap.get? b = some o → (s.heap.push { cls := .type "list_iterator", data := .fields #[.ref l, .int 0 0] }).get? b = some o := fun b o e => Heap.get?_push_of_some _ e
  have iI : (s.heap.push { cls := .type "list_iterator", data := .fields #[.ref l, .int 0 0] }).IsListIter s.heap.objs.size l 0 := ⟨_, Heap.get?_push_size _ rfl, rfl, rfl⟩
  have hty : ({ s with heap := s.heap.push { cls := .type "list_iterator", data := .fields #[.ref l, .int 0 0] } } : Shared).TypeIs (.ref t) "list" := (isList_at ht fun o e => kI t o e).typeIs
  have szI : (s.heap.push { cls := .type "list_iterator", data := .fields #[.ref l, .int 0 0] }).objs.size = s.heap.objs.size + 1 := Heap.size_push ..
  generalize s.heap.push { cls := .type "list_iterator", data := .fields #[.ref l, .int 0 0] } = h1 at kI iI hty szI ⊢
  simp only [List.forIn_cons, List.forIn_nil]
  refine wpAny_bind (wpAny_bind (wpAny_bind (wpAny_isInstance (T := "list") (b := false) hty PySem.F.sub_list_str ?_)))
  simp only [Bool.false_eq_true, if_false]
  refine wpAny_pure (wpAny_bind (wpAny_bind (wpAny_isInstance (T := "list") (b := false) hty PySem.F.sub_list_bytes ?_)))
  simp only [Bool.false_eq_true, if_false]
  refine wpAny_pure (wpAny_bind (wpAny_bind (wpAny_isInstance (T := "list") (b := false) hty PySem.F.sub_list_bytearray ?_)))
  simp only [Bool.false_eq_true, if_false]
  refine wpAny_pure (wpAny_pure ?_)
  refine wpAny_bind (wpAny_newObj_type ?_)
  have kS : ∀ b o, h1.get? b = some o → (h1.push { cls := .type "list", data := .seq ([.ref t] : List Value).toArray }).get? b = some o := fun b o e => Heap.get?_push_of_some _ e
  have hS : (h1.push { cls := .type "list", data := .seq ([.ref t] : List Value).toArray }).get? h1.objs.size = some { cls := .type "list", data := .seq ([.ref t] : List Value).toArray } := Heap.get?_push_size _ rfl
  have ltt : t < s.heap.objs.size := let ⟨o, e, _⟩ := ht; Heap.lt_size e
  refine wpAny_pure ⟨plainId_quiet PySem.F.plain_sum_loop _, sum_lists_loop (A := A) hh hl hp parts.length 0 _ t acc (Nat.sub_zero _) (Nat.zero_le _)
    ⟨fun b o e => kS b o (kI b o e), let ⟨o, e, r⟩ := iI; ⟨o, kS _ o e, r⟩, Nat.le_refl _, by rw [szI]; exact Nat.le_succ _, by rw [szI]; exact Nat.ne_of_lt (Nat.lt_succ_self _), ⟨0, hS⟩, isList_at ht fun o e => kS _ o (kI _ o e), Nat.ne_of_lt ltt, by rw [szI]; exact Nat.ne_of_lt (Nat.lt_succ_of_lt ltt), .inl rfl⟩
    (by simpa using hz) fun s' t' q1 q2 q3 q4 => ?_⟩
  rw [q4]
  exact h s'.heap s'.toks t' q1 (by simpa using q2) (by simpa using q3)
end
/-! #### the rules -/
def intsOf : List D → Option (List Int)
  | [] => some []
  | .int i :: r => (intsOf r).map (i :: ·)
  | _ => none
def partsOf (h : Hs) : List D → Option (List (List D))
  | [] => some []
  | x :: r => match listOf h x, partsOf h r with
    | some ys, some yss => some (ys :: yss)
    | _, _ => none
def sumD (xs : List D) (h : Hs) : R D := match xs with
  | [x] => match listOf h x with
    | some ys => match intsOf ys with
      | some ns => .ok (.int ns.sum) h
      | none => .bad
    | none => .bad
  | [x, .lst []] => match listOf h x with
    | some ys => match partsOf h ys with
      | some yss => if yss.flatten.length ≤ sizeLine then .ok (.lst yss.flatten) h else .bad
      | none => .bad
    | none => .bad
  | _ => .bad
section
variable {X : Cx}
theorem ints_rds {K : PySem.W.Frag} {ρ : List Addr} {H : Hp} : ∀ {ys : List D} {ns : List Int} {vs : List V}, intsOf ys = some ns → RDs K ρ H ys vs → vs = ns.map V.int
  | [], ns, vs, e, r => by cases e; cases r; rfl
  | y :: ys, ns, vs, e, r => by
    obtain ⟨v, r', rfl, h1, h2⟩ := r
    cases y with
    | int i =>
      cases q : intsOf ys with
      | none => simp [intsOf, q] at e
      | some ms =>
        have e' : i :: ms = ns := by simpa [intsOf, q] using e
        subst e'
        cases h1
        rw [ints_rds q h2]; rfl
    | _ => simp [intsOf] at e
theorem parts_rds {pins : List (Addr × Obj)} {s : Shared} {τ : L2.St} {H : Hp} {ρ : List Addr} {e : En} {σ : Hs} (I : SR X pins ρ e σ τ H s) : ∀ {ys : List D} {yss : List (List D)} {vs : List V} {us : List Value}, partsOf σ ys = some yss → RDs X.K ρ H ys vs → Vals vs us →
    ∃ parts : List (Addr × List Value), us = parts.map (fun p => Value.ref p.1) ∧ (∀ p ∈ parts, s.heap.IsList p.1 p.2.toArray) ∧ ∃ wss : List (List V), wss.length = parts.length ∧ RDs X.K ρ H yss.flatten wss.flatten ∧ Vals wss.flatten (parts.map (·.2)).flatten
  | [], yss, vs, us, e, r, q => by cases e; cases r; cases q; exact ⟨[], rfl, by simp, [], rfl, rfl, .nil⟩
  | y :: ys, yss, vs, us, e, r, q => by
    obtain ⟨v, r', rfl, h1, h2⟩ := r
    cases q with
    | cons q1 q2 =>
      cases p1 : listOf σ y with
      | none => simp [partsOf, p1] at e
      | some zs =>
        cases p2 : partsOf σ ys with
        | none => simp [partsOf, p1, p2] at e
        | some zss =>
          have e' : zs :: zss = yss := by simpa [partsOf, p1, p2] using e
          subst e'
          obtain ⟨p, ws, rfl, hq, rr⟩ := list_at I.rs h1 p1
          cases q1
          obtain ⟨its, rv, pl, _⟩ := I.inv.list hq
          obtain ⟨parts, e1, e2, wss, e3, e4, e5⟩ := parts_rds I p2 h2 q2
          refine ⟨(p, its) :: parts, by rw [e1]; rfl, fun z hz => ?_, ws :: wss, by simp [e3], ?_, ?_⟩
          · rcases List.mem_cons.mp hz with rfl | hz
            · exact pl.isList
            · exact e2 z hz
          · simp only [List.flatten_cons]; exact rr.append e4
          · simp only [List.map_cons, List.flatten_cons]; exact rv.append e5
theorem sum_nb {xs : List D} {h : Hs} (nb : sumD xs h ≠ .bad) : (∃ x ys ns, xs = [x] ∧ listOf h x = some ys ∧ intsOf ys = some ns ∧ sumD xs h = .ok (.int ns.sum) h) ∨
    ∃ x ys yss, xs = [x, .lst []] ∧ listOf h x = some ys ∧ partsOf h ys = some yss ∧ yss.flatten.length ≤ sizeLine ∧ sumD xs h = .ok (.lst yss.flatten) h := by
  unfold sumD at nb ⊢
  split at nb
  · rename_i x
    cases q : listOf h x with
    | none => rw [q] at nb; exact absurd rfl nb
    | some ys =>
      rw [q] at nb
      dsimp only at nb
      cases q2 : intsOf ys with
      | none => rw [q2] at nb; exact absurd rfl nb
      | some ns => exact .inl ⟨x, ys, ns, rfl, q, q2, by simp only [q, q2]⟩
  · rename_i x
    cases q : listOf h x with
    | none => rw [q] at nb; exact absurd rfl nb
    | some ys =>
      rw [q] at nb
      dsimp only at nb
      cases q2 : partsOf h ys with
      | none => rw [q2] at nb; exact absurd rfl nb
      | some yss =>
        rw [q2] at nb
        dsimp only at nb
        have hz := nbad2 nb
        exact .inr ⟨x, ys, yss, rfl, q, q2, hz, by simp only [q, q2, if_pos hz]⟩
  · exact absurd rfl nb
theorem op_sum (g : Good X) : OpN X (.builtin "sum") sumD := by
  intro pins s τ H ρ e σ xs vs us I rds rvs h
  rcases sum_nb h.nb with ⟨x, ys, ns, rfl, hx, hn, e1⟩ | ⟨x, ys, yss, rfl, hx, hn, hz, e1⟩
  · rw [e1]
    obtain ⟨v, rfl, rd⟩ := rds1 rds
    obtain ⟨p, ws, rfl, hq, rr⟩ := list_at I.rs rd hx
    have ew := ints_rds hn rr
    subst ew
    exact cr_sum g.calm pins s τ H _ us _ I.inv rvs ⟨p, ns, rfl, hq, gd_ok I rfl⟩
  · rw [e1]
    obtain ⟨v, v2, rfl, rd, rd2⟩ := rds2 rds
    obtain ⟨p, ws, rfl, hq, rr⟩ := list_at I.rs rd hx
    obtain ⟨t, ts, rfl, ⟨ht, hnt⟩, rts⟩ := id rd2
    cases rts
    obtain ⟨u, u2, rfl, ru, ru2⟩ := rvs.two
    cases ru
    cases ru2
    obtain ⟨its, rv, pl, _⟩ := I.inv.list hq
    obtain ⟨its2, rv2, pl2, _⟩ := I.inv.list (SqL.of ht)
    cases rv2
    obtain ⟨parts, rfl, hp, wss, _, rf, rvf⟩ := parts_rds I hn rr rv
    have hlen : (preCat [] parts).length ≤ sizeLine := by
      have : preCat [] parts = (parts.map (·.2)).flatten := rfl
      rw [this, ← rvf.length, ← rf.length]; exact hz
    refine call_sum_lists (I.inv.ok.hd g.calm) pl.isList hp pl2.isList hlen fun h' tk t' hk hl' ht' => ?_
    have e3 : preCat [] parts = (parts.map (·.2)).flatten := rfl
    rcases ht' with rfl | ⟨hge, n, hat⟩
    · have e4 : preCat [] parts = [] := by
        obtain ⟨o, e5, _, n, e6⟩ := hl'
        obtain ⟨o2, e7, _, n2, e8⟩ := isList_at pl2.isList fun o e => hk t' o e
        rw [e5] at e7; cases e7
        rw [e6] at e8
        injection e8 with e9 _
        simpa using e9
      have e10 : yss.flatten = [] := List.eq_nil_of_length_eq_zero (by rw [rf.length, rvf.length, ← e3, e4]; rfl)
      rw [e10]
      exact ⟨.ref t', H, I.inv.kept hk, rfl, gd_ok I rd2⟩
    · have hpn : H t' = none := I.inv.hok.fresh hge
      refine ⟨.ref t', upd H t' (.lst wss.flatten), I.inv.laid (t' := tk) hk hge ⟨by rw [rvf.length, ← e3]; exact hlen, preCat [] parts, n, rvf, hat⟩, rfl, ?_⟩
      exact ⟨.lst yss.flatten, σ, ρ, rfl, Ext.laid hpn, I.rs.laid hpn, t', wss.flatten, rfl, ⟨upd_same, I.rs.free hpn⟩, RDs.ext (Ext.laid hpn) _ _ rf⟩
end
end Lb

set_option Elab.async false
set_option linter.all false
set_option maxRecDepth 100000
set_option maxHeartbeats 4000000
namespace Lb
open PySem PySem.Spec PyProof.Rows L2
/-- a def of the program, at hand everywhere -/
structure DfF (P : Program) (w : World) (K : PySem.W.Frag) (mg : Str → Option Value) (base : Heap) (x : Str) (k : Nat) (ps : List Str) (F : Fn) (dds : List D) : Prop where
  ex : ∃ (f : Addr) (fd : FuncData) (ds : List Value) (dvs : List V), mg x = some (.ref f) ∧ PySem.W.keepIn K (.ref f) = true ∧ FnD P w K mg base k f fd ps F ∧ Binds K fd ps ds ∧ Vals dvs ds ∧ ∀ ρ H, RDs K ρ H dds dvs
theorem DfF.df {X : Cx} {x : Str} {k : Nat} {ps : List Str} {F : Fn} {dds : List D} (h : DfF X.prog X.w X.K X.mg X.base x k ps F dds) : Df X x k ps F dds := ⟨h.ex⟩
theorem DfF.at {X : Cx} {P : Program} {w : World} {K : PySem.W.Frag} {mg : Str → Option Value} {base : Heap} {x : Str} {k : Nat} {ps : List Str} {F : Fn} {dds : List D} (h : DfF P w K mg base x k ps F dds) (he : X.prog = P ∧ X.w = w ∧ X.K = K ∧ X.mg = mg ∧ X.base = base) : Df X x k ps F dds := by
  obtain ⟨rfl, rfl, rfl, rfl, rfl⟩ := he
  exact ⟨h.ex⟩
section
variable {X : Cx} {P : Program} {w : World} {K : PySem.W.Frag} {mg : Str → Option Value} {base : Heap} {k : Nat} {ps : List Str} {F : Fn} {dds : List D} {x : Str} {p pos : Pos} {a : Expr} {es : List Expr} {AS : Es}
theorem de_callF (D : DfF P w K mg base x k ps F dds) {k' : Nat} (hr : Room k' X.A) (hk : k ≤ k') (hg : Gl X x) (ha : DA X (a :: es) AS) (eq : X.prog = P ∧ X.w = w ∧ X.K = K ∧ X.mg = mg ∧ X.base = base := by exact ⟨rfl, rfl, rfl, rfl, rfl⟩) (hdb : (x == ("__debug__" : Str)) = false := by decide)
    (he : starEach (a :: es) X.env = (false, eval a X.env) :: starEach es X.env := by rfl) (hpl : (backTo pos (starEach es X.env)).any (·.1) = false := by rfl) : DE X (.Call (.Name x p) (a :: es) [] pos) (eCall (args ps.length dds (run F)) AS) := de_call (D.at eq) hr hk hg ha hdb he hpl
theorem de_callFX (D : DfF P w K mg base x k ps F dds) {k' : Nat} (hr : Room k' X.A) (hk : k ≤ k') (hg : Gl X x) (ha : DA X (a :: es) AS) (eq : X.prog = P ∧ X.w = w ∧ X.K = K ∧ X.mg = mg ∧ X.base = base := by exact ⟨rfl, rfl, rfl, rfl, rfl⟩) (hdb : (x == ("__debug__" : Str)) = false := by decide)
    (he : starEach (a :: es) X.env = (false, eval a X.env) :: starEach es X.env := by rfl) (hpl : (backTo pos (starEach es X.env)).any (·.1) = false := by rfl) : DE X (.Call (.Name x p) (a :: es) [] pos) (eCall (args ps.length dds F) AS) := de_callX (D.at eq) hr hk hg ha hdb he hpl
end
/-- a constant of the module -/
def GlD (K : PySem.W.Frag) (mg : Str → Option Value) (x : Str) (d : D) : Prop := ∃ v u, mg x = some u ∧ RelV v u ∧ ∀ ρ H, RD K ρ H d v
theorem de_globE {X : Cx} {pos : Pos} {x : Str} {d : D} (h : GlD X.K X.mg x d) (hg : Gl X x) (hd : (x == ("__debug__" : Str)) = false := by decide) : DE X (.Name x pos) (eC d) := by
  obtain ⟨v, u, h1, h2, h3⟩ := h
  exact de_glob hg h1 h2 h3 hd
/-- the law's promise: a script of at most m ints, True comes out -/
def spLaw (K : PySem.W.Frag) (m : Nat) : Sp := fun vs H Q _ => ∃ (a : Addr) (ns : List Int), vs = [.ref a] ∧ SqL K H a (ns.map V.int) ∧ ns.length ≤ m ∧ ∀ H', Q (.bl true) H'
theorem law_imp {P : Program} {w : World} {K : PySem.W.Frag} {mg : Str → Option Value} {base : Heap} {k m : Nat} {f : Addr} {fd : FuncData} {x : Str} {F : Fn} (main : ∀ ns : List Int, ns.length ≤ m → ∃ h, F [.scr ns] [] = .ok (.bl true) h) (hF : FnD P w K mg base k f fd [x] F) : FnOk P w K mg base (L2.CX P w) k f fd [x] (spLaw K m) := by
  refine FnOk.imp hF fun vs H Q E ⟨a, ns, e, hS, hl, q⟩ => ?_
  subst e
  obtain ⟨h, eq⟩ := main ns hl
  refine ⟨rfl, [], [.scr ns], [], ⟨rfl, List.nodup_nil, fun n a o h1 _ => by simp at h1⟩, ⟨.ref a, [], rfl, ⟨a, rfl, hS.imp (fun z => ⟨z, by simp⟩) id⟩, rfl⟩, (by rw [eq]; exact fun z => nomatch z), ?_, ?_⟩
  · rintro v H' ⟨d, σ', ρ', q1, q2, q3, q4⟩
    rw [eq] at q1
    cases q1
    cases q4
    exact q H'
  · rintro cls d H' ⟨c, σ', ρ', q1, _⟩
    rw [eq] at q1
    cases q1
theorem cx_end (P : Program) : ∀ (w : World) (H : Hp) (s : Shared) (e : Value) (s' : Shared), L2.CX P w [] H s (fun _ _ _ => False) e s' → False := by
  intro w H s e s' h
  unfold L2.CX at h
  simp at h
/-- ints alone, for op= -/
def addI (x y : D) (h : Hs) : R D := match x, y with
  | .int i, .int j => .ok (.int (i + j)) h
  | _, _ => .bad
def subI (x y : D) (h : Hs) : R D := match x, y with
  | .int i, .int j => .ok (.int (i - j)) h
  | _, _ => .bad
theorem addI_nb (x y : D) (h : Hs) (nb : addI x y h ≠ .bad) : ∃ i j, x = .int i ∧ y = .int j ∧ addI x y h = .ok (.int (i + j)) h := by
  unfold addI at nb ⊢; split at nb
  · exact ⟨_, _, rfl, rfl, rfl⟩
  · exact absurd rfl nb
theorem subI_nb (x y : D) (h : Hs) (nb : subI x y h ≠ .bad) : ∃ i j, x = .int i ∧ y = .int j ∧ subI x y h = .ok (.int (i - j)) h := by
  unfold subI at nb ⊢; split at nb
  · exact ⟨_, _, rfl, rfl, rfl⟩
  · exact absurd rfl nb
theorem ds_aug_add {X : Cx} {pos pos' : Pos} {a : Expr} {A : Ev} (g : Good X) {i : Nat} {x : Str} (hi : X.N[i]? = some x) (hx : Loc X.env.scope x) (ha : DE X a A) (hf : X.fn x = true ∨ X.env.scope.names.lookup x = some .local := by first | exact .inl rfl | exact .inr rfl | assumption) :
    DS X (.AugAssign (.Name x pos') .Add a pos) (sAug i addI A) := ds_augI g ip_add addI_nb hi hx ha hf
/-- the scope of a comprehension, seen -/
def blkB (N : List Str) (dn sn : List (Str × NameKind)) (own : List (Str × Nat)) : Bool :=
  sn.all (fun y => sn.lookup y.1 == some y.2) && own.all (fun p => N[p.2]? == some p.1) && sn.all (fun y => !(y.2 == .free) || (dn.lookup y.1 == some .cell || dn.lookup y.1 == some .free)) &&
    sn.all (fun y => !(y.2 == .local || y.2 == .cell) || ((own.map (·.1)).contains y.1 || !N.contains y.1))
theorem blkOk_of {N : List Str} {sc scope : Scope} {own : List (Str × Nat)} (hk : scope.kind = .function) (h : blkB N sc.names scope.names own = true) : BlkOk N sc scope own := by
  unfold blkB at h
  simp only [Bool.and_eq_true, List.all_eq_true] at h
  obtain ⟨⟨⟨h1, h2⟩, h3⟩, h4⟩ := h
  refine ⟨hk, fun y hy => by simpa using h1 y hy, fun p hp => by simpa using h2 p hp, fun y hy e => ?_, fun y hy e => ?_⟩
  · have := h3 y hy
    rw [e] at this
    simpa using this
  · have := h4 y hy
    rcases e with e | e <;> rw [e] at this <;> simpa using this
end Lb

set_option Elab.async false
set_option linter.all false
set_option maxRecDepth 100000
set_option maxHeartbeats 4000000
namespace Lb
open PySem PySem.Spec PyProof.Rows L2
theorem de_ofPE {X : Cx} {x : Expr} {t : TE} {A : Ev} (h : PE X x t) (k : ∀ {pins s τ H ρ e σ}, SR X pins ρ e σ τ H s → Safe X ρ H τ (A e σ) → t τ H (GD X ρ H (A e σ))) : DE X x A := ⟨fun {pins s τ H ρ e σ} I sf => h.run pins s τ H _ I.inv (k I sf)⟩
/-! ### isinstance(x, T), T a built-in type -/
def tyName (h : Hs) : D → Option String
  | .non => some "NoneType"
  | .bl _ => some "bool"
  | .int _ => some "int"
  | .str _ => some "str"
  | .tup _ => some "tuple"
  | .lst _ => some "list"
  | .scr _ => some "list"
  | .ref n => match h[n]? with
    | some (.lst _) => some "list"
    | some (.dks _) => some "dict"
    | _ => none
def isiD (T : String) (x : D) (h : Hs) : R D := match tyName h x with
  | some a => match L2.kitB a T with
    | some b => .ok (.bl b) h
    | none => .bad
  | none => .bad
theorem tyx_of {X : Cx} {H : Hp} {ρ : List Addr} {σ : Hs} {d : D} {v : V} {a : String} (I : RS X.prog X.w X.K X.mg ρ σ H) (r : RD X.K ρ H d v) (h : tyName σ d = some a) : TyX X.K H v (.type a) := by
  cases d with
  | non => cases h; cases r; exact .base .non
  | bl _ => cases h; cases r; exact .base (.bl _)
  | int _ => cases h; cases r; exact .base (.int _)
  | str _ => cases h; cases r; exact .base (.str _)
  | tup ds =>
    cases h
    obtain ⟨p, vs, rfl, t, _⟩ := r
    rcases t with ⟨(q | ⟨o, q⟩), _⟩ | ⟨o, its, n, q, c, _⟩
    · exact .base (.tup q)
    · exact .fTuple q
    · exact .kTuple q c
  | lst ds =>
    cases h
    obtain ⟨p, vs, rfl, t, _⟩ := r
    exact .base (.lst t.1)
  | scr ns =>
    cases h
    obtain ⟨p, rfl, t⟩ := r
    rcases t with ⟨(q | ⟨o, q⟩), _⟩ | ⟨o, its, n, q, c, _⟩
    · exact .base (.lst q)
    · exact .base (.frz q)
    · exact .kList q c
  | ref n =>
    cases hn : σ[n]? with
    | none => simp [tyName, hn] at h
    | some ob =>
      cases ob with
      | lst xs =>
        simp only [tyName, hn, Option.some.injEq] at h
        subst h
        obtain ⟨p, vs, rfl, _, t, _⟩ := I.lst r hn
        exact .base (.lst t)
      | dks xs =>
        simp only [tyName, hn, Option.some.injEq] at h
        subst h
        obtain ⟨p, rfl, hp⟩ := r
        obtain ⟨kvh, hH, _⟩ := I.at_ n p _ hp hn
        exact .base (.dK hH)
      | _ => simp [tyName, hn] at h
section
variable {X : Cx} {pos p p2 : Pos} {a b c : Expr} {A B C : Ev}
theorem de_isi {T : String} (hg : Gl X "isinstance") (hm : X.mg "isinstance" = none) (hgT : Gl X (Str.ofString T)) (hmT : X.mg (Str.ofString T) = none) (hvT : bootBuiltins (Str.ofString T) = some (.type T)) (ha : DE X a A)
    (hn : Str.ofString T ≠ "__name__" := by decide) (hdb : (Str.ofString T == ("__debug__" : Str)) = false := by decide) (he : starEach (a :: [.Name (Str.ofString T) p2]) X.env = (false, eval a X.env) :: starEach [.Name (Str.ofString T) p2] X.env := by rfl)
    (he2 : starEach [.Name (Str.ofString T) p2] X.env = (false, eval (.Name (Str.ofString T) p2) X.env) :: starEach [] X.env := by rfl) (hpl : (backTo pos (starEach [.Name (Str.ofString T) p2] X.env)).any (·.1) = false := by rfl) :
    DE X (.Call (.Name "isinstance" p) [a, .Name (Str.ofString T) p2] [] pos) (e1 (isiD T) A) := by
  have pt : PE X (.Name (Str.ofString T) p2) (tC (.ty T)) := pe_bltn hgT hmT hvT rfl hn hdb
  refine de_ofPE (pe_callB call_isi hg hm PyProof.Rows.boot_isinstance (pa_cons (pe_of ha) (pa_cons pt pa_nil he2) he) (he := he) (hpl := hpl)) fun {pins s τ H ρ e σ} I sf => ?_
  refine ⟨ρ, e, σ, I.rs, I.re, sf.left, fun v H' ⟨d, σ', ρ', q, x, rs, rd⟩ => ?_⟩
  have h1 := sf.right q x
  cases hT : tyName σ' d with
  | none => exact absurd (by simp [isiD, hT]) h1.nb
  | some ty =>
    cases hk : L2.kitB ty T with
    | none => exact absurd (by simp [isiD, hT, hk]) h1.nb
    | some k =>
      refine ⟨v, .ty T, .type ty, .type T, k, rfl, .ty T, tyx_of rs rd hT, kit_ty hk, .bl k, σ', ρ', ?_, x, rs, rfl⟩
      unfold e1
      rw [q]
      show isiD T d σ' = _
      simp only [isiD, hT, hk]
end
end Lb

set_option Elab.async false
set_option linter.all false
set_option maxRecDepth 100000
set_option maxHeartbeats 4000000
namespace Lb
open PySem PySem.Spec PyProof.Rows L2
/-! ### a op b op c -/
def NoX (F : D → D → Hs → R D) : Prop := ∀ x y h c h', F x y h ≠ .exc c h'
theorem nox_le : NoX leD := by intro x y h c h' e; unfold leD at e; split at e <;> cases e
theorem nox_ge : NoX geD := by intro x y h c h' e; unfold geD at e; split at e <;> cases e
theorem nox_gt : NoX gtD := by intro x y h c h' e; unfold gtD at e; split at e <;> cases e
theorem nox_b (f : Hs → D → D → Option Bool) : NoX (bD f) := by intro x y h c h' e; unfold bD at e; split at e <;> cases e
theorem nox_nb (f : Hs → D → D → Option Bool) : NoX (nbD f) := by intro x y h c h' e; unfold nbD at e; split at e <;> cases e
def chTail (F2 : D → D → Hs → R D) (C : Ev) (e : En) (y z : D) (h3 : Hs) : R D := match z with
  | .bl true => (C e h3).bind fun w h4 => F2 y w h4
  | .bl false => .ok (.bl false) h3
  | _ => .bad
def eChain (F1 F2 : D → D → Hs → R D) (A B C : Ev) : Ev := fun e h => (A e h).bind fun x h1 => (B e h1).bind fun y h2 => (F1 x y h2).bind fun z h3 => chTail F2 C e y z h3
def toR2 (X : Cx) (F : D → D → Hs → R D) : R2 := fun x y H Q => ∃ ρ σ d1 d2, RS X.prog X.w X.K X.mg ρ σ H ∧ RD X.K ρ H d1 x ∧ RD X.K ρ H d2 y ∧ F d1 d2 σ ≠ .bad ∧ ∀ v H', GD X ρ H (F d1 d2 σ) v H' → Q v H'
theorem opr_of {X : Cx} {f : Value → Value → Sem Value} {F : D → D → Hs → R D} (h : Op2 X f F) (nx : NoX F) : OpR X f (toR2 X F) := by
  intro pins s τ H x y v u Q I rx ry ⟨ρ, σ, d1, d2, rs, r1, r2, nb, k⟩
  have re : RE X.K ρ H (τ.map fun _ => none) τ := ⟨by simp, fun i d q => by rw [List.getElem?_map] at q; cases z : τ[i]? <;> rw [z] at q <;> cases q⟩
  have sf : Safe X ρ H τ (F d1 d2 σ) := ⟨nb, takes0.imp fun c d τ' H' ⟨y, σ', ρ', e, _⟩ => absurd e (nx _ _ _ _ _)⟩
  exact thn (h ⟨I, rs, re⟩ r1 rx r2 ry sf) fun w s1 t => epi t k
theorem tE_of {A : Ev} {e : En} {h h1 : Hs} {b : Bool} (q : A e h = .ok (.bl b) h1) : tE A e h = .ok b h1 := by unfold tE; rw [q]; rfl
theorem bl_le : ∀ x y h d h', leD x y h = .ok d h' → ∃ k, d = .bl k := by intro x y h d h' e; unfold leD at e; split at e <;> cases e; exact ⟨_, rfl⟩
theorem bl_b (f : Hs → D → D → Option Bool) : ∀ x y h d h', bD f x y h = .ok d h' → ∃ k, d = .bl k := by intro x y h d h' e; unfold bD at e; split at e <;> cases e; exact ⟨_, rfl⟩
section
variable {X : Cx} {pos : Pos} {a b c : Expr} {A B C : Ev} {F1 F2 : D → D → Hs → R D} {op op' : CmpOp}
theorem chain_tr {pins s τ H ρ} {e : En} {σ : Hs} {Qv : VK} (I : SR X pins ρ e σ τ H s) (sf : Safe X ρ H τ (eChain F1 F2 A B C e σ)) (kq : ∀ v H', GD X ρ H (eChain F1 F2 A B C e σ) v H' → Qv v H') : tChain (toR2 X F1) (toR2 X F2) (toTE X A) (toTE X B) (toTE X C) τ H Qv := by
  refine ⟨ρ, e, σ, I.rs, I.re, sf.left, fun x H1 ⟨d1, σ1, ρ1, q1, x1, rs1, r1⟩ => ?_⟩
  have s1 := sf.right q1 x1
  have re1 := I.re.ext x1
  refine ⟨ρ1, e, σ1, rs1, re1, s1.left, fun y H2 ⟨d2, σ2, ρ2, q2, x2, rs2, r2⟩ => ?_⟩
  have s2 := s1.right q2 x2
  refine ⟨ρ2, σ2, d1, d2, rs2, RD.ext x2 _ _ r1, r2, s2.left.nb, fun z H3 ⟨d3, σ3, ρ3, q3, x3, rs3, r3⟩ => ?_⟩
  have s3 := s2.right q3 x3
  have whole : eChain F1 F2 A B C e σ = chTail F2 C e d2 d3 σ3 := by
    unfold eChain
    rw [q1]
    show ((B e σ1).bind fun y h2 => (F1 d1 y h2).bind fun z h3 => chTail F2 C e y z h3) = _
    rw [q2]
    show ((F1 d1 d2 σ2).bind fun z h3 => chTail F2 C e d2 z h3) = _
    rw [q3]
    rfl
  have xx := x1.trans (x2.trans x3)
  cases d3 with
  | bl k =>
    cases r3
    refine ⟨k, rfl, ?_⟩
    cases k with
    | true =>
      rw [if_pos rfl]
      have s3' : Safe X ρ3 H3 τ ((C e σ3).bind fun w h4 => F2 d2 w h4) := s3
      refine ⟨ρ3, e, σ3, rs3, (re1.ext x2).ext x3, s3'.left, fun w H4 ⟨d4, σ4, ρ4, q4, x4, rs4, r4⟩ => ?_⟩
      have s4 := s3'.right q4 x4
      refine ⟨ρ4, σ4, d2, d4, rs4, RD.ext (x3.trans x4) _ _ r2, r4, s4.nb, fun v H5 ⟨d5, σ5, ρ5, q5, x5, rs5, r5⟩ => kq v H5 ⟨d5, σ5, ρ5, ?_, xx.trans (x4.trans x5), rs5, r5⟩⟩
      rw [whole]
      show ((C e σ3).bind fun w h4 => F2 d2 w h4) = _
      rw [q4]
      exact q5
    | false =>
      rw [if_neg Bool.false_ne_true]
      exact kq _ _ ⟨.bl false, σ3, ρ3, whole, xx, rs3, rfl⟩
  | _ => exact absurd rfl s3.nb
theorem de_chain (o1 : Op2 X (compareOp op) F1) (n1 : NoX F1) (o2 : Op2 X (compareOp op') F2) (n2 : NoX F2) (ha : DE X a A) (hb : DE X b B) (hc : DE X c C) (hm : lastMarks [op, op'] [b, c] = false := by with_unfolding_all rfl) :
    DE X (.Compare a [op, op'] [b, c] pos) (eChain F1 F2 A B C) := de_ofPE (pe_chain (opr_of o1 n1) (opr_of o2 n2) (pe_of ha) (pe_of hb) (pe_of hc) hm) fun I sf => chain_tr I sf fun _ _ z => z
theorem dt_chain (o1 : Op2 X (compareOp op) F1) (n1 : NoX F1) (o2 : Op2 X (compareOp op') F2) (n2 : NoX F2) (ha : DE X a A) (hb : DE X b B) (hc : DE X c C) (bl : ∀ x y h d h', F2 x y h = .ok d h' → ∃ k, d = .bl k) (hm : lastMarks [op, op'] [b, c] = false := by with_unfolding_all rfl) :
    DT X (.Compare a [op, op'] [b, c] pos) (tE (eChain F1 F2 A B C)) := by
  refine ⟨fun {pins s τ H ρ e σ} I sf => (pt_chain (opr_of o1 n1) (opr_of o2 n2) (pe_of ha) (pe_of hb) (pe_of hc) hm).run pins s τ H _ I.inv (chain_tr I sf.left fun v H' ⟨d, σ', ρ', q, x, rs, rd⟩ => ?_)⟩
  have isb : ∃ k, d = .bl k := by
    unfold eChain at q
    obtain ⟨x1, h1, e1, q⟩ := bind_ok q
    obtain ⟨x2, h2, e2, q⟩ := bind_ok q
    obtain ⟨x3, h3, e3, q⟩ := bind_ok q
    unfold chTail at q
    split at q
    · obtain ⟨x4, h4, e4, q⟩ := bind_ok q
      exact bl _ _ _ _ _ q
    · cases q; exact ⟨_, rfl⟩
    · cases q
  obtain ⟨k, rfl⟩ := isb
  cases rd
  exact ⟨k, rfl, σ', ρ', tE_of q, x, rs⟩
end
end Lb

set_option Elab.async false
set_option linter.all false
set_option maxRecDepth 100000
set_option maxHeartbeats 4000000
namespace Lb
open PySem PySem.Spec PyProof.Rows L2
/-! ### more methods of lists: what they give, what they leave -/
def popP (xs : List D) (ys : List D) : Option (D × List D) := match xs with
  | [] => (ys[ys.length - 1]?).map fun y => (y, ys.dropLast)
  | [.int i] => if -(2 ^ 63) ≤ i ∧ i < 2 ^ 63 then (seqIndex? i ys.length).bind fun k => (ys[k]?).map fun y => (y, ys.eraseIdx k) else none
  | _ => none
def clearP (xs : List D) (_ : List D) : Option (D × List D) := match xs with
  | [] => some (.non, [])
  | _ => none
def lstMD (P : List D → List D → Option (D × List D)) (x : D) (xs : List D) (h : Hs) : R D := match x with
  | .ref n => match h[n]? with
    | some (.lst ys) => match P xs ys with
      | some (d, zs) => .ok d (h.set n (.lst zs))
      | none => .bad
    | _ => .bad
  | _ => .bad
theorem lstM_nb {P : List D → List D → Option (D × List D)} {x : D} {xs : List D} {h : Hs} (nb : lstMD P x xs h ≠ .bad) : ∃ n ys d zs, x = .ref n ∧ h[n]? = some (.lst ys) ∧ P xs ys = some (d, zs) ∧ lstMD P x xs h = .ok d (h.set n (.lst zs)) := by
  unfold lstMD at nb ⊢
  split at nb
  · rename_i n
    cases hn : h[n]? with
    | none => rw [hn] at nb; exact absurd rfl nb
    | some o =>
      cases o with
      | lst ys =>
        rw [hn] at nb
        dsimp only at nb
        cases hp : P xs ys with
        | none => rw [hp] at nb; exact absurd rfl nb
        | some r => obtain ⟨d, zs⟩ := r; exact ⟨n, ys, d, zs, rfl, hn, hp, by simp only [hn, hp]⟩
      | _ => rw [hn] at nb; exact absurd rfl nb
  · exact absurd rfl nb
theorem RDs.dropLast {K : PySem.W.Frag} {ρ : List Addr} {H : Hp} {ds : List D} {vs : List V} (r : RDs K ρ H ds vs) : RDs K ρ H ds.dropLast vs.dropLast := by
  rw [List.dropLast_eq_take, List.dropLast_eq_take, ← r.length]
  exact r.take _
theorem RDs.eraseIdx {K : PySem.W.Frag} {ρ : List Addr} {H : Hp} : ∀ {ds : List D} {vs : List V} (k : Nat), RDs K ρ H ds vs → RDs K ρ H (ds.eraseIdx k) (vs.eraseIdx k)
  | [], _, _, r => by cases r; rfl
  | d :: ds, _, 0, ⟨v, r', e, h1, h2⟩ => by subst e; exact h2
  | d :: ds, _, k + 1, ⟨v, r', e, h1, h2⟩ => by subst e; exact ⟨v, _, rfl, h1, RDs.eraseIdx k h2⟩
section
variable {X : Cx}
theorem om_pop : OpM X "list.pop" (lstMD popP) := by
  intro pins s τ H ρ e σ x xs v vs u us I rd rv rds rvs h
  obtain ⟨n, ys, d, zs, rfl, hn, hp, e1⟩ := lstM_nb h.nb
  rw [e1]
  obtain ⟨a, ws, rfl, ha, t, rr⟩ := I.rs.lst rd hn
  unfold popP at hp
  split at hp
  · cases rds
    cases hl : ys[ys.length - 1]? with
    | none => rw [hl] at hp; cases hp
    | some y =>
      rw [hl] at hp
      cases hp
      obtain ⟨w, hw, rw'⟩ := rr.get hl
      exact mt_pop pins s τ H _ _ u us _ I.inv rv rvs ⟨a, ws, w, rfl, rfl, t, by rw [← rr.length]; exact hw, gd_put I ha rr.dropLast rw'⟩
  · rename_i i
    obtain ⟨w0, rfl, r0⟩ := rds1 rds
    cases r0
    split at hp
    · rename_i hb
      cases hk : seqIndex? i ys.length with
      | none => rw [hk] at hp; cases hp
      | some k =>
        rw [hk] at hp
        cases hl : ys[k]? with
        | none => simp [hl] at hp
        | some y =>
          simp only [Option.bind_some, hl, Option.map_some, Option.some.injEq, Prod.mk.injEq] at hp
          obtain ⟨rfl, rfl⟩ := hp
          obtain ⟨w, hw, rw'⟩ := rr.get hl
          exact mt_popAt pins s τ H _ _ u us _ I.inv rv rvs ⟨a, ws, i, k, w, rfl, rfl, t, hb.1, hb.2, by rw [← rr.length]; exact hk, hw, gd_put I ha (rr.eraseIdx k) rw'⟩
    · cases hp
  · cases hp
theorem om_clear : OpM X "list.clear" (lstMD clearP) := by
  intro pins s τ H ρ e σ x xs v vs u us I rd rv rds rvs h
  obtain ⟨n, ys, d, zs, rfl, hn, hp, e1⟩ := lstM_nb h.nb
  rw [e1]
  obtain ⟨a, ws, rfl, ha, t, rr⟩ := I.rs.lst rd hn
  unfold clearP at hp
  split at hp
  · cases hp
    cases rds
    exact mt_clear pins s τ H _ _ u us _ I.inv rv rvs ⟨a, ws, rfl, rfl, t, gd_put I ha (show RDs X.K ρ H [] [] from rfl) rfl⟩
  · cases hp
/-- xs.extend(ys), ys another list -/
def extendD (x : D) (xs : List D) (h : Hs) : R D := match x, xs with
  | .ref n, [.lst zs] => match h[n]? with
    | some (.lst ys) => if ys.length + zs.length ≤ sizeLine then .ok .non (h.set n (.lst (ys ++ zs))) else .bad
    | _ => .bad
  | _, _ => .bad
theorem extend_nb {x : D} {xs : List D} {h : Hs} (nb : extendD x xs h ≠ .bad) : ∃ n zs ys, x = .ref n ∧ xs = [.lst zs] ∧ h[n]? = some (.lst ys) ∧ ys.length + zs.length ≤ sizeLine ∧ extendD x xs h = .ok .non (h.set n (.lst (ys ++ zs))) := by
  unfold extendD at nb ⊢
  split at nb
  · rename_i n zs
    cases hn : h[n]? with
    | none => rw [hn] at nb; exact absurd rfl nb
    | some o =>
      cases o with
      | lst ys =>
        rw [hn] at nb
        dsimp only at nb
        have hz := nbad2 nb
        exact ⟨n, zs, ys, rfl, rfl, hn, hz, by simp only [hn, if_pos hz]⟩
      | _ => rw [hn] at nb; exact absurd rfl nb
  · exact absurd rfl nb
theorem om_extend : OpM X "list.extend" extendD := by
  intro pins s τ H ρ e σ x xs v vs u us I rd rv rds rvs h
  obtain ⟨n, zs, ys, rfl, rfl, hn, hz, e1⟩ := extend_nb h.nb
  rw [e1]
  obtain ⟨a, ws, rfl, ha, t, rr⟩ := I.rs.lst rd hn
  obtain ⟨w, rfl, r0⟩ := rds1 rds
  obtain ⟨b, zv, rfl, ⟨hb, _⟩, rz⟩ := r0
  exact mt_extend pins s τ H _ _ u us _ I.inv rv rvs ⟨a, b, ws, zv, rfl, rfl, t, hb, by rw [← rr.length, ← rz.length]; exact hz, gd_put I ha (rr.append rz) rfl⟩
def insertP (xs : List D) (ys : List D) : Option (D × List D) := match xs with
  | [.int i, y] => if 0 ≤ i ∧ i < 2 ^ 63 ∧ ys.length < sizeLine then some (.non, ys.take i.toNat ++ [y] ++ ys.drop i.toNat) else none
  | _ => none
theorem om_insert : OpM X "list.insert" (lstMD insertP) := by
  intro pins s τ H ρ e σ x xs v vs u us I rd rv rds rvs h
  obtain ⟨n, ys, d, zs, rfl, hn, hp, e1⟩ := lstM_nb h.nb
  rw [e1]
  obtain ⟨a, ws, rfl, ha, t, rr⟩ := I.rs.lst rd hn
  unfold insertP at hp
  split at hp
  · rename_i i y
    split at hp
    · rename_i hb
      cases hp
      obtain ⟨w1, w2, rfl, r1, r2⟩ := rds2 rds
      cases r1
      exact mt_insert pins s τ H _ _ u us _ I.inv rv rvs ⟨a, ws, i, w2, rfl, rfl, t, by rw [← rr.length]; exact hb.2.2, hb.1, hb.2.1, gd_put I ha (((rr.take _).append (.one r2)).append (rr.drop _)) rfl⟩
    · cases hp
  · cases hp
end
end Lb

set_option Elab.async false
set_option linter.all false
set_option maxRecDepth 100000
set_option maxHeartbeats 4000000
namespace Lb
open PySem PySem.Spec PyProof.Rows L2
/-! ### enumerate(xs) -/
def enumF : Nat → List D → List D
  | _, [] => []
  | i, d :: ds => .tup [.int (i : Nat), d] :: enumF (i + 1) ds
theorem enum_length : ∀ (ds : List D) (i : Nat), (enumF i ds).length = ds.length
  | [], _ => rfl
  | d :: ds, i => by rw [enumF, List.length_cons, List.length_cons, enum_length ds]
theorem enum_get : ∀ (ds : List D) (i j : Nat) (d : D), (enumF i ds)[j]? = some d → ∃ x, ds[j]? = some x ∧ d = .tup [.int ((i + j : Nat) : Int), x]
  | [], _, _, _, h => by simp [enumF] at h
  | d :: ds, i, 0, x, h => by simp [enumF] at h; subst h; exact ⟨d, rfl, rfl⟩
  | d :: ds, i, j + 1, x, h => by
    obtain ⟨y, h1, h2⟩ := enum_get ds (i + 1) j x (by simpa [enumF] using h)
    refine ⟨y, by simpa using h1, ?_⟩
    rw [h2, show i + 1 + j = i + (j + 1) by omega]
def iEnumD (A : Es) : Iv := fun e h => (A e h).bind fun xs h1 => match xs with
  | [.lst ds] => .ok (.fix (enumF 0 ds)) h1
  | _ => .bad
theorem di_ofPI {X : Cx} {tg iter : Expr} {t : TI} {E : Iv} (h : PI X tg iter t) (k : ∀ {pins s τ H ρ e σ}, SR X pins ρ e σ τ H s → Safe X ρ H τ (E e σ) → t τ H (GI X ρ H (E e σ))) : DI X tg iter E := ⟨fun {pins s τ H ρ e σ} I sf => h.run pins s τ H _ I.inv (k I sf)⟩
section
variable {X : Cx} {pos p tpos : Pos} {a : Expr} {AS : Es} {elts : List Expr} {kk : Nat}
theorem jok_enum {ρ0 : List Addr} {H0 : Hp} {q : Addr} {vs : List V} {ds : List D} (h : H0 q = some (.lst vs) ∧ q ∉ ρ0) (r : RDs X.K ρ0 H0 ds vs) : JOk X ρ0 H0 (.fix (enumF 0 ds)) (Ite X.K q) := by
  intro ρ H σ x rs
  have h' : SqL X.K H q vs := SqL.of (x.stb q _ h.2 h.1)
  have r' := RDs.ext x _ _ r
  refine ⟨fun i d hd => ?_, vs, h', by rw [enum_length, ← r'.length]; exact Nat.le_refl _⟩
  obtain ⟨y, hy, rfl⟩ := enum_get ds 0 i d hd
  obtain ⟨v, hv, rd⟩ := r'.get hy
  refine ⟨⟨vs, v, h', hv⟩, fun z H' hz => ?_⟩
  obtain ⟨T, w, rfl, hT, eH, hw⟩ := hz
  have := hw vs h'
  rw [hv] at this
  cases this
  subst eH
  have xe : Ext ρ ρ H (upd H T (.tup [.int (i : Nat), v])) := Ext.laid hT
  exact ⟨xe, rs.laid hT, T, [.int (i : Nat), v], rfl, .inl ⟨.inl upd_same, rs.free hT⟩, ⟨_, _, rfl, by rw [Nat.zero_add]; rfl, _, _, rfl, RD.ext xe _ _ rd, rfl⟩⟩
theorem di_enum (hg : Gl X "enumerate") (hm : X.mg "enumerate" = none) (ha : DA X [a] AS) (hs : starEach [a] X.env = [(false, eval a X.env)] := by rfl) : DI X (.Tuple elts kk tpos) (.Call (.Name "enumerate" p) [a] [] pos) (iEnumD AS) := by
  refine di_ofPI (pi_enum hg hm (pa_of ha) hs) fun {pins s τ H ρ e σ} I sf => ⟨ρ, e, σ, I.rs, I.re, sf.left, fun vs H' ⟨ds, σ', ρ', q, x1, rs, rds⟩ => ?_⟩
  have h1 := sf.right q x1
  match ds, rds, h1, q with
  | [.lst xs], rds, h1, q =>
    obtain ⟨v, rfl, rd⟩ := rds1 rds
    obtain ⟨b, ws, rfl, t, rr⟩ := rd
    refine ⟨b, ws, rfl, SqL.of t.1, .fix (enumF 0 xs), σ', ρ', ?_, x1, rs, jok_enum t rr⟩
    unfold iEnumD
    rw [q]
    rfl
  | [], _, h1, _ => exact absurd rfl h1.nb
  | _ :: _ :: _, _, h1, _ => exact absurd (by split <;> first | rfl | (rename_i z; cases z)) h1.nb
  | [.non], _, h1, _ => exact absurd rfl h1.nb
  | [.bl _], _, h1, _ => exact absurd rfl h1.nb
  | [.int _], _, h1, _ => exact absurd rfl h1.nb
  | [.str _], _, h1, _ => exact absurd rfl h1.nb
  | [.tup _], _, h1, _ => exact absurd rfl h1.nb
  | [.ref _], _, h1, _ => exact absurd rfl h1.nb
  | [.scr _], _, h1, _ => exact absurd rfl h1.nb
end
end Lb

set_option Elab.async false
set_option linter.all false
set_option maxRecDepth 100000
set_option maxHeartbeats 4000000
namespace Lb
open PySem PySem.Spec PyProof.Rows L2
/-! ### zip(xs, ys) -/
def zipF : List D → List D → List D
  | x :: xs, y :: ys => .tup [x, y] :: zipF xs ys
  | _, _ => []
theorem zip_get : ∀ (xs ys : List D) (j : Nat) (d : D), (zipF xs ys)[j]? = some d → ∃ x y, xs[j]? = some x ∧ ys[j]? = some y ∧ d = .tup [x, y]
  | [], ys, _, _, h => by simp [zipF] at h
  | _ :: _, [], _, _, h => by simp [zipF] at h
  | x :: xs, y :: ys, 0, d, h => by simp [zipF] at h; exact ⟨x, y, rfl, rfl, h.symm⟩
  | x :: xs, y :: ys, j + 1, d, h => by
    obtain ⟨a, b, h1, h2, h3⟩ := zip_get xs ys j d (by simpa [zipF] using h)
    exact ⟨a, b, by simpa using h1, by simpa using h2, h3⟩
theorem zip_end : ∀ (xs ys : List D), xs.length ≤ (zipF xs ys).length ∨ ys.length ≤ (zipF xs ys).length
  | [], _ => .inl (Nat.zero_le _)
  | _ :: _, [] => .inr (Nat.zero_le _)
  | x :: xs, y :: ys => (zip_end xs ys).imp (fun h => Nat.succ_le_succ h) fun h => Nat.succ_le_succ h
def iZipD (A : Es) : Iv := fun e h => (A e h).bind fun xs h1 => match xs with
  | [.lst ds, .lst es] => .ok (.fix (zipF ds es)) h1
  | [.tup ds, .tup es] => .ok (.fix (zipF ds es)) h1
  | _ => .bad
section
variable {X : Cx} {pos p tpos : Pos} {a b : Expr} {AS : Es} {elts : List Expr} {kk : Nat}
theorem jok_zip {ρ0 : List Addr} {H0 : Hp} {q r : Addr} {vs ws : List V} {ds es : List D} (h : H0 q = some (.lst vs) ∧ q ∉ ρ0) (h2 : H0 r = some (.lst ws) ∧ r ∉ ρ0) (rd : RDs X.K ρ0 H0 ds vs) (re : RDs X.K ρ0 H0 es ws) : JOk X ρ0 H0 (.fix (zipF ds es)) (Itz X.K q r) := by
  intro ρ H σ x rs
  have h' : SqL X.K H q vs := SqL.of (x.stb q _ h.2 h.1)
  have h2' : SqL X.K H r ws := SqL.of (x.stb r _ h2.2 h2.1)
  have rd' := RDs.ext x _ _ rd
  have re' := RDs.ext x _ _ re
  refine ⟨fun i d hd => ?_, vs, ws, h', h2', by rw [← rd'.length, ← re'.length]; exact zip_end ds es⟩
  obtain ⟨y, z, hy, hz, rfl⟩ := zip_get ds es i d hd
  obtain ⟨v, hv, r1⟩ := rd'.get hy
  obtain ⟨w, hw, r2⟩ := re'.get hz
  refine ⟨⟨vs, ws, v, w, h', h2', hv, hw⟩, fun u H' hu => ?_⟩
  obtain ⟨T, v', w', rfl, hT, eH, k1, k2⟩ := hu
  have e1 := k1 vs h'
  have e2 := k2 ws h2'
  rw [hv] at e1; cases e1
  rw [hw] at e2; cases e2
  subst eH
  have xe : Ext ρ ρ H (upd H T (.tup [v, w])) := Ext.laid hT
  exact ⟨xe, rs.laid hT, T, [v, w], rfl, .inl ⟨.inl upd_same, rs.free hT⟩, ⟨_, _, rfl, RD.ext xe _ _ r1, _, _, rfl, RD.ext xe _ _ r2, rfl⟩⟩
theorem jok_zipT {ρ0 : List Addr} {H0 : Hp} {q r : Addr} {vs ws : List V} {ds es : List D} (h : TAt X.K ρ0 H0 q vs) (h2 : TAt X.K ρ0 H0 r ws) (rd : RDs X.K ρ0 H0 ds vs) (re : RDs X.K ρ0 H0 es ws) : JOk X ρ0 H0 (.fix (zipF ds es)) (RZ.ItzT X.K q r) := by
  intro ρ H σ x rs
  have h' := (h.ext x).seq
  have h2' := (h2.ext x).seq
  have rd' := RDs.ext x _ _ rd
  have re' := RDs.ext x _ _ re
  refine ⟨fun i d hd => ?_, vs, ws, h', h2', by rw [← rd'.length, ← re'.length]; exact zip_end ds es⟩
  obtain ⟨y, z, hy, hz, rfl⟩ := zip_get ds es i d hd
  obtain ⟨v, hv, r1⟩ := rd'.get hy
  obtain ⟨w, hw, r2⟩ := re'.get hz
  refine ⟨⟨vs, ws, v, w, h', h2', hv, hw⟩, fun u H' hu => ?_⟩
  obtain ⟨T, v', w', rfl, hT, eH, k1, k2⟩ := hu
  have e1 := k1 vs h'
  have e2 := k2 ws h2'
  rw [hv] at e1; cases e1
  rw [hw] at e2; cases e2
  subst eH
  have xe : Ext ρ ρ H (upd H T (.tup [v, w])) := Ext.laid hT
  exact ⟨xe, rs.laid hT, T, [v, w], rfl, .inl ⟨.inl upd_same, rs.free hT⟩, ⟨_, _, rfl, RD.ext xe _ _ r1, _, _, rfl, RD.ext xe _ _ r2, rfl⟩⟩
theorem zip_nb {A : Es} {e : En} {h h1 : Hs} {xs : List D} (q : A e h = .ok xs h1) (nb : iZipD A e h ≠ .bad) : (∃ ds es, xs = [.lst ds, .lst es] ∧ iZipD A e h = .ok (.fix (zipF ds es)) h1) ∨ ∃ ds es, xs = [.tup ds, .tup es] ∧ iZipD A e h = .ok (.fix (zipF ds es)) h1 := by
  unfold iZipD at nb ⊢
  rw [q] at nb ⊢
  dsimp only [R.bind] at nb ⊢
  split at nb
  · exact .inl ⟨_, _, rfl, rfl⟩
  · exact .inr ⟨_, _, rfl, rfl⟩
  · exact absurd rfl nb
theorem di_zip (hg : Gl X "zip") (hm : X.mg "zip" = none) (ha : DA X [a, b] AS) (hs : starEach [a, b] X.env = (false, eval a X.env) :: starEach [b] X.env := by rfl) (hpl : (backTo pos (starEach [b] X.env)).any (·.1) = false := by rfl) :
    DI X (.Tuple elts kk tpos) (.Call (.Name "zip" p) [a, b] [] pos) (iZipD AS) := by
  refine di_ofPI (RZ.pi_zipA hg hm (pa_of ha) hs hpl) fun {pins s τ H ρ e σ} I sf => ⟨ρ, e, σ, I.rs, I.re, sf.left, fun vs H' ⟨ds, σ', ρ', q, x1, rs, rds⟩ => ?_⟩
  rcases zip_nb q sf.nb with ⟨xs, ys, rfl, e1⟩ | ⟨xs, ys, rfl, e1⟩
  · obtain ⟨v, w, rfl, ⟨q1, v1, rfl, t1, rr1⟩, q2, v2, rfl, t2, rr2⟩ := rds2 rds
    exact ⟨q1, q2, v1, v2, rfl, .inl ⟨SqL.of t1.1, SqL.of t2.1, .fix (zipF xs ys), σ', ρ', e1, x1, rs, jok_zip t1 t2 rr1 rr2⟩⟩
  · obtain ⟨v, w, rfl, ⟨q1, v1, rfl, t1, rr1⟩, q2, v2, rfl, t2, rr2⟩ := rds2 rds
    exact ⟨q1, q2, v1, v2, rfl, .inr ⟨t1.seq, t2.seq, .fix (zipF xs ys), σ', ρ', e1, x1, rs, jok_zipT t1 t2 rr1 rr2⟩⟩
end
end Lb

set_option Elab.async false
set_option linter.all false
set_option maxRecDepth 100000
set_option maxHeartbeats 4000000
namespace Lb
open PySem PySem.Spec PyProof.Rows L2
/-! ### calls with keywords -/
structure DK (X : Cx) (kws : List Keyword) (E : Es) : Prop where
  run : ∀ (pos : Pos) {pins s τ H ρ e σ}, SR X pins ρ e σ τ H s → Safe X ρ H τ (E e σ) → wpAny (model X.prog X.w) X.A (evalAll ((backToKw pos (keywordEach kws X.env)).map (·.2))) (AP X pins τ (GA X ρ H (E e σ))) X.xe s
section
variable {X : Cx} {pos kpos : Pos} {a : Expr} {A : Ev} {AS : Es} {kws : List Keyword} {nm : Option Str}
theorem dk_nil : DK X [] aNil := ⟨fun pos {pins s τ H ρ e σ} I _ => wpAny_evalAll_nil ⟨[], H, I.inv, .nil, [], σ, ρ, rfl, Ext.refl, I.rs, rfl⟩⟩
theorem dk_cons (ha : DE X a A) (hr : DK X kws AS) : DK X (⟨nm, a, kpos⟩ :: kws) (aCons A AS) := by
  refine ⟨fun pos {pins s τ H ρ e σ} I h => ?_⟩
  show wpAny _ _ (evalAll ((do let v ← eval a X.env; standAt pos; pure v) :: (backToKw pos (keywordEach kws X.env)).map (·.2))) _ _ s
  refine wpAny_evalAll_cons (wpAny_bind (ha.thenD (F := fun x h1 => (AS e h1).bind fun xs h2 => .ok (x :: xs) h2) I h fun x σ1 ρ1 v u H1 s1 q1 I1 x1 rd1 rv1 h1 => wpAny_bind (wpAny_standAt (wpAny_pure ?_))))
  refine thn (hr.run pos I1 h1.left) fun us s2 ⟨vs, H2, i2, rvs, ds, σ2, ρ2, q2, x2, rs2, rds⟩ => ?_
  refine ⟨v :: vs, H2, i2, .cons rv1 rvs, x :: ds, σ2, ρ2, ?_, x1.trans x2, rs2, ⟨v, vs, rfl, RD.ext x2 _ _ rd1, rds⟩⟩
  unfold aCons
  rw [q1]
  show ((AS e σ1).bind fun xs h2 => R.ok (x :: xs) h2) = _
  rw [q2]
  rfl
/-- f(.., k = ..) of a def whose parameters take the values in the order given, the defaults dds behind -/
structure DfK (P : Program) (w : World) (K : PySem.W.Frag) (mg : Str → Option Value) (base : Heap) (x : Str) (k : Nat) (ps ks : List Str) (F : Fn) (dds : List D) : Prop where
  ex : ∃ (f : Addr) (fd : FuncData) (ds : List Value) (dvs : List V), mg x = some (.ref f) ∧ PySem.W.keepIn K (.ref f) = true ∧ FnD P w K mg base k f fd ps F ∧ KBinds K fd ps ks (fun us ws => us ++ ws ++ ds) (fun vs zs => vs ++ zs ++ dvs) ∧ ∀ ρ H, RDs K ρ H dds dvs
def eCallK (n : Nat) (dds : List D) (F : List D → Hs → R D) (A B : Es) : Ev := fun e h => (A e h).bind fun xs h1 => (B e h1).bind fun zs h2 => args n dds F (xs ++ zs) h2
theorem op_fnK {k : Nat} {f : Addr} {fd : FuncData} {ps ks : List Str} {F : Fn} {g : List Value → List Value → List Value} {gV : List V → List V → List V} (hF : FnD X.prog X.w X.K X.mg X.base k f fd ps F) (hr : Room k X.A) (hb : KBinds X.K fd ps ks g gV) {pins s τ H ρ} {e : En} {σ : Hs} {ds : List D} {vs zs : List V} {us ws : List Value} {Q : VK}
    (I : SR X pins ρ e σ τ H s) (rds : RDs X.K ρ H ds (gV vs zs)) (rvs : Vals vs us) (rzs : Vals zs ws) (hl : ds.length = ps.length) (h : Safe X ρ H τ (F ds σ)) (hq : ∀ v H', GD X ρ H (F ds σ) v H' → Q v H') :
    wpAny (model X.prog X.w) X.A (call (.ref f) us (ks.zip ws)) (EP X pins τ Q) X.xe s := by
  have r2 := hb.rel rvs rzs
  have hl2 : (g us ws).length = ps.length := by rw [← r2.length, ← rds.length]; exact hl
  refine wpAny_call (codeAny_mono (hF.run X.A X.stack s H ⟨us, ks.zip ws⟩ (g us ws) (gV vs zs) Q (fun cls d H' => WD X ρ H τ (F ds σ) cls d τ H') hr I.inv.env0 (hb.to s us ws I.inv.kIn hl2) r2
    ⟨by rw [← rds.length]; exact hl, ρ, ds, σ, I.rs, rds, h.nb, fun v H' z => hq v H' z, fun cls d H' ⟨c, σ', ρ', q1, q2, q3, q4⟩ => ⟨c, σ', ρ', q1, rfl, q2, q3, q4⟩⟩) fun r s' hq => ?_)
  cases r with
  | error er => exact h.tk er s' (XE.of_call (W := fun cls d σ' H' => σ' = τ ∧ WD X ρ H τ (F ds σ) cls d τ H') I.inv (fun cls d H' z => ⟨rfl, z⟩) hq |> fun z => by
      obtain ⟨a, B, sI, pins', σ', H', cls, d, e1, i, nb, up, sky, na, os, ag, e2, z⟩ := z
      subst e2
      exact ⟨a, B, sI, pins', σ', H', cls, d, e1, i, nb, up, sky, na, os, ag, z⟩)
  | ok fl =>
    cases fl with
    | ret u => exact I.inv.after hq
    | next => exact False.elim hq
    | brk => exact False.elim hq
    | cont => exact False.elim hq
theorem de_callK {P : Program} {w : World} {K : PySem.W.Frag} {mg : Str → Option Value} {base : Heap} {x : Str} {k : Nat} {ps ks : List Str} {F : Fn} {dds : List D} {p : Pos} {es : List Expr} {BS : Es} (D : DfK P w K mg base x k ps ks F dds) {k' : Nat} (hr : Room k' X.A) (hk : k ≤ k') (hg : Gl X x) (ha : DA X (a :: es) AS) (hkw : DK X kws BS)
    (eq : X.prog = P ∧ X.w = w ∧ X.K = K ∧ X.mg = mg ∧ X.base = base := by exact ⟨rfl, rfl, rfl, rfl, rfl⟩) (hall : (backToKw pos (keywordEach kws X.env)).all (·.1.isSome) = true := by rfl) (hks : (backToKw pos (keywordEach kws X.env)).filterMap (·.1) = ks := by rfl)
    (hdb : (x == ("__debug__" : Str)) = false := by decide) (he : starEach (a :: es) X.env = (false, eval a X.env) :: starEach es X.env := by rfl)
    (hpl : ((backTo pos (starEach (a :: es) X.env)).any (·.1) || (backToKw pos (keywordEach kws X.env)).any (·.1.isNone)) = false := by rfl) :
    DE X (.Call (.Name x p) (a :: es) kws pos) (eCallK ps.length dds (Lb.run F) AS BS) := by
  obtain ⟨rfl, rfl, rfl, rfl, rfl⟩ := eq
  obtain ⟨f, fd, ds, dvs, hm, hkp, hF, hb, hdd⟩ := D.ex
  refine ⟨fun {pins s τ H ρ e σ} I h => wpAny_Call_Name_kw (ld_glob I.inv hg hm ?_ hdb)⟩
  refine PySem.W.callWith_KW (h₀ := X.base) I.inv.ok.mod.kin hkp hall (ha.thenA pos (F := fun xs h1 => (BS e h1).bind fun zs h2 => args ps.length dds (Lb.run F) (xs ++ zs) h2) I h fun xs σ1 ρ1 vs us H1 s1 q1 I1 x1 rds rvs h1 => ?_) hpl he
  refine thn (hkw.run pos I1 h1.left) fun ws s2 ⟨zs, H2, i2, rzs, dz, σ2, ρ2, q2, x2, rs2, rdz⟩ => ⟨i2.kIn, ?_⟩
  have I2 := I1.next i2 x2 rs2
  have h2 := h1.right q2 x2
  have hl := nbad2 h2.nb
  have e1 : args ps.length dds (Lb.run F) (xs ++ dz) σ2 = Lb.run F (xs ++ dz ++ dds) σ2 := if_pos hl
  rw [e1] at h2
  rw [hks]
  have rall : RDs X.K ρ2 H2 (xs ++ dz ++ dds) (vs ++ zs ++ dvs) := ((RDs.ext x2 _ _ rds).append rdz).append (hdd ρ2 H2)
  refine op_fnK hF (hr.mono hk) hb I2 rall rvs rzs hl (froz_safe h2 I2.rs.len I2.rs) fun v H' g => ?_
  have g2 := froz_gd h2 I2.rs g
  refine GD.right (f := fun xs h1 => (BS e h1).bind fun zs h2 => args ps.length dds (Lb.run F) (xs ++ zs) h2) q1 x1 (GD.right (f := fun zs h2 => args ps.length dds (Lb.run F) (xs ++ zs) h2) q2 x2 ?_)
  rw [e1]
  exact g2
end
end Lb

set_option Elab.async false
set_option linter.all false
set_option maxRecDepth 100000
set_option maxHeartbeats 4000000
namespace Lb
open PySem PySem.Spec PyProof.Rows L2
/-! ### what is never reached -/
def sBad : Sv := fun _ _ => .bad
theorem ds_bad {X : Cx} {st : Stmt} : DS X st sBad := ⟨fun {pins s τ H ρ e σ} _ h => absurd rfl h.nb⟩
def eBad : Ev := fun _ _ => .bad
theorem de_bad {X : Cx} {x : Expr} : DE X x eBad := ⟨fun {pins s τ H ρ e σ} _ h => absurd rfl h.nb⟩
end Lb

set_option Elab.async false
set_option linter.all false
set_option maxRecDepth 100000
set_option maxHeartbeats 4000000
namespace Lb
open PySem PySem.Spec PyProof.Rows L2
/-! ### texts -/
def strsOf : List D → Option (List Str)
  | [] => some []
  | .str x :: r => (strsOf r).map (x :: ·)
  | _ => none
theorem strs_rds {K : PySem.W.Frag} {ρ : List Addr} {H : Hp} : ∀ {ys : List D} {ns : List Str} {vs : List V}, strsOf ys = some ns → RDs K ρ H ys vs → vs = ns.map V.str
  | [], ns, vs, e, r => by cases e; cases r; rfl
  | y :: ys, ns, vs, e, r => by
    obtain ⟨v, r', rfl, h1, h2⟩ := r
    cases y with
    | str i =>
      cases q : strsOf ys with
      | none => simp [strsOf, q] at e
      | some ms =>
        have e' : i :: ms = ns := by simpa [strsOf, q] using e
        subst e'
        cases h1
        rw [strs_rds q h2]; rfl
    | _ => simp [strsOf] at e
theorem rds_strs {K : PySem.W.Frag} {ρ : List Addr} {H : Hp} : ∀ ns : List Str, RDs K ρ H (ns.map D.str) (ns.map V.str)
  | [] => rfl
  | n :: ns => ⟨_, _, rfl, rfl, rds_strs ns⟩
def joinD (x : D) (xs : List D) (h : Hs) : R D := match x, xs with
  | .str a, [y] => match seqOf h y with
    | some ys => match strsOf ys with
      | some ns => if (ns.map (·.length)).sum + ns.length * a.length ≤ 16777216 then .ok (.str (Txt.join a ns)) h else .bad
      | none => .bad
    | none => .bad
  | _, _ => .bad
theorem join_nb {x : D} {xs : List D} {h : Hs} (nb : joinD x xs h ≠ .bad) : ∃ a y ys ns, x = .str a ∧ xs = [y] ∧ seqOf h y = some ys ∧ strsOf ys = some ns ∧ (ns.map (·.length)).sum + ns.length * a.length ≤ 16777216 ∧ joinD x xs h = .ok (.str (Txt.join a ns)) h := by
  unfold joinD at nb ⊢
  split at nb
  · rename_i a y
    cases q : seqOf h y with
    | none => rw [q] at nb; exact absurd rfl nb
    | some ys =>
      rw [q] at nb
      dsimp only at nb
      cases q2 : strsOf ys with
      | none => rw [q2] at nb; exact absurd rfl nb
      | some ns =>
        rw [q2] at nb
        dsimp only at nb
        have hz := nbad2 nb
        exact ⟨a, y, ys, ns, rfl, rfl, q, q2, hz, by simp only [q, q2, if_pos hz]⟩
  · exact absurd rfl nb
theorem om_join {X : Cx} : OpM X "str.join" joinD := by
  intro pins s τ H ρ e σ x xs v vs u us I rd rv rds rvs h
  obtain ⟨a, y, ys, ns, rfl, rfl, hy, hn, hz, e1⟩ := join_nb h.nb
  rw [e1]
  cases rd
  obtain ⟨w, rfl, rw'⟩ := rds1 rds
  obtain ⟨p, ws, rfl, hq, rr⟩ := seq_at I.rs rw' hy
  have ew := strs_rds hn rr
  subst ew
  exact mt_join pins s τ H _ _ u us _ I.inv rv rvs ⟨a, p, ns, rfl, rfl, hq, hz, gd_ok I rfl⟩
end Lb

set_option Elab.async false
set_option linter.all false
set_option maxRecDepth 100000
set_option maxHeartbeats 4000000
namespace Lb
open PySem PySem.Spec PyProof.Rows L2
/-! ### methods that give a new list -/
def lMeth (T : String) (F : D → List D → Hs → R (List D)) (A : Ev) (AS : Es) : Ln := fun e h => (A e h).bind fun d h1 => if tyD T h1 d then (AS e h1).bind fun ds h2 => F d ds h2 else .bad
def OpML (X : Cx) (id : String) (F : D → List D → Hs → R (List D)) : Prop :=
  ∀ {pins s τ H ρ e σ x xs v vs u us}, SR X pins ρ e σ τ H s → RD X.K ρ H x v → RelV v u → RDs X.K ρ H xs vs → Vals vs us → Safe X ρ H τ (F x xs σ) →
    wpAny (model X.prog X.w) X.A (call (.builtin id) (u :: us)) (EP X pins τ (GN X ρ H (F x xs σ))) X.xe s
section
variable {X : Cx} {o e : Expr} {es : List Expr} {A : Ev} {AS : Es} {name : Str} {apos cpos : Pos} {T id : String} {F : D → List D → Hs → R (List D)}
theorem dn_bm (hm : OpML X id F) (pa : PlainAttrs T) (slot : Slot T name id) (hty : typeOf (.builtin id) = pure (.type "method_descriptor")) (ho : DE X o A) (ha : DA X (e :: es) AS)
    (hbase : attributeBase o name X.env (eval o X.env) = eval o X.env := by rfl)
    (hfew : ((backTo cpos (starEach (e :: es) X.env)).all (fun x => !x.1) && (backToKw cpos (keywordEach [] X.env)).all (fun x => x.1.isSome)
      && decide ((e :: es).length + ([] : List Keyword).length + (if ([] : List Keyword).isEmpty then 0 else 1) < 30)) = true := by rfl)
    (hline : (apos.endLine == cpos.line) = true := by rfl) (hs : starEach (e :: es) X.env = (false, eval e X.env) :: starEach es X.env := by rfl) (hplain : (backTo cpos (starEach es X.env)).any (·.1) = false := by rfl) :
    DN X (.Call (.Attribute o name apos) (e :: es) [] cpos) (lMeth T F A AS) := by
  refine ⟨fun {pins s τ H ρ e σ} I h => ?_⟩
  refine wpAny_Call_method_late hbase hfew hline rfl (ho.thenD I h fun d σ1 ρ1 v u H1 s1 q1 I1 x1 rd1 rv1 h1 => ?_)
  by_cases ty : tyD T σ1 d = true
  · obtain ⟨g1, g2⟩ := ty_is I1 rd1 rv1 ty
    have h1' : Safe X ρ1 H1 τ ((AS e σ1).bind fun ds h2 => F d ds h2) := by rw [if_pos ty] at h1; exact h1
    refine ⟨T, id, pa, slot, hty, g1, g2, ?_⟩
    have hA := ha.thenA cpos (f := fun us s2 => wpAny (model X.prog X.w) X.A (call (.builtin id) (u :: us)) (EP X pins τ (GN X ρ H (lMeth T F A AS e σ))) X.xe s2) I1 h1' fun ds σ2 ρ2 vs us H2 s2 q2 I2 x2 rds rvs h2 =>
      thn (hm I2 (RD.ext x2 _ _ rd1) rv1 rds rvs h2) fun z s3 g => epi g fun v' H' gd => by
        refine GN.right (f := fun d h1 => if tyD T h1 d then (AS e h1).bind fun ds h2 => F d ds h2 else .bad) q1 x1 ?_
        show GN X ρ1 H1 (if tyD T σ1 d then (AS e σ1).bind fun ds h2 => F d ds h2 else .bad) v' H'
        rw [if_pos ty]
        exact GN.right (f := fun ds h2 => F d ds h2) q2 x2 gd
    rw [hs] at hA ⊢
    exact Calls.callWith_builtin (by show (false || (backTo cpos (starEach es X.env)).any (·.1)) = false; rw [hplain] <;> rfl) (Calls.evalArgs_plain hA)
  · rw [if_neg ty] at h1; exact absurd rfl h1.nb
def splitL (x : D) (xs : List D) (h : Hs) : R (List D) := match x, xs with
  | .str a, [.str b] => if (b.length == 0) = false ∧ a.length + 2 ≤ sizeLine then .ok ((Txt.split a b).map D.str) h else .bad
  | _, _ => .bad
theorem split_nb {x : D} {xs : List D} {h : Hs} (nb : splitL x xs h ≠ .bad) : ∃ a b, x = .str a ∧ xs = [.str b] ∧ ((b.length == 0) = false ∧ a.length + 2 ≤ sizeLine) ∧ splitL x xs h = .ok ((Txt.split a b).map D.str) h := by
  unfold splitL at nb ⊢
  split at nb
  · rename_i a b
    have hz := nbad2 nb
    exact ⟨a, b, rfl, rfl, hz, if_pos hz⟩
  · exact absurd rfl nb
theorem om_split : OpML X "str.split" splitL := by
  intro pins s τ H ρ e σ x xs v vs u us I rd rv rds rvs h
  obtain ⟨a, b, rfl, rfl, hz, e1⟩ := split_nb h.nb
  rw [e1]
  cases rd
  obtain ⟨w, rfl, rw'⟩ := rds1 rds
  cases rw'
  exact mt_split pins s τ H _ _ u us _ I.inv rv rvs ⟨a, b, rfl, rfl, hz.1, hz.2, fun p hp => gn_ok I hp (rds_strs _)⟩
end
/-! ### int(x) -/
def intD (xs : List D) (h : Hs) : R D := match xs with
  | [.int i] => .ok (.int i) h
  | [.bl k] => .ok (.int (if k then 1 else 0)) h
  | [.str a] => match PySem.intText? a with
    | some n => if a.length ≤ 640 then .ok (.int n) h else .bad
    | none => .bad
  | _ => .bad
theorem op_int {X : Cx} : OpN X (.type "int") intD := by
  intro pins s τ H ρ e σ xs vs us I rds rvs h
  have nb := h.nb
  unfold intD at nb
  split at nb
  · rename_i i
    obtain ⟨v, rfl, r⟩ := rds1 rds
    cases r
    exact L2.call_int1 pins s τ H _ us _ I.inv rvs (.inl ⟨i, rfl, gd_ok I rfl⟩)
  · rename_i k
    obtain ⟨v, rfl, r⟩ := rds1 rds
    cases r
    exact L2.call_int1 pins s τ H _ us _ I.inv rvs (.inr ⟨k, rfl, gd_ok (d := .int (if k then 1 else 0)) I (by rw [RD])⟩)
  · rename_i a
    cases hn : PySem.intText? a with
    | none => rw [hn] at nb; exact absurd rfl nb
    | some n =>
      rw [hn] at nb
      dsimp only at nb
      have hz := nbad2 nb
      obtain ⟨v, rfl, r⟩ := rds1 rds
      cases r
      have e1 : intD [.str a] σ = .ok (.int n) σ := by simp only [intD, hn, if_pos hz]
      rw [e1]
      exact L2.call_int_str pins s τ H _ us _ I.inv rvs ⟨a, n, rfl, hn, hz, gd_ok I rfl⟩
  · exact absurd rfl nb
end Lb

set_option Elab.async false
set_option linter.all false
set_option maxRecDepth 100000
set_option maxHeartbeats 4000000
namespace Lb
open PySem PySem.Spec PyProof.Rows L2
/-! ### instances: fields -/
/-- f is a field of the classes L, none of their methods -/
def FldOk (K : PySem.W.Frag) (mg : Str → Option Value) (L : List Str) (f : Str) : Prop := ∀ C ∈ L, ∀ c, mg C = some (.ref c) → Cls K c ∧ NoAttr K c f
def insOf (h : Hs) : D → Option (Nat × Str × List (Str × D))
  | .ref n => match h[n]? with
    | some (.ins C fs) => some (n, C, fs)
    | _ => none
  | _ => none
def FRel (K : PySem.W.Frag) (ρ : List Addr) (H : Hp) : Str × D → Str × V → Prop := fun p q => q.1 = p.1 ∧ RD K ρ H p.2 q.2
theorem ins_at {P : Program} {w : World} {K : PySem.W.Frag} {mg : Str → Option Value} {ρ : List Addr} {H : Hp} {σ : Hs} (r : RS P w K mg ρ σ H) {d : D} {v : V} {n : Nat} {C : Str} {fs : List (Str × D)} (h : RD K ρ H d v) (e : insOf σ d = some (n, C, fs)) :
    ∃ a c dx vs, d = .ref n ∧ v = .ref a ∧ ρ[n]? = some a ∧ mg C = some (.ref c) ∧ H a = some (.ins c dx vs) ∧ Paired (FRel K ρ H) fs vs := by
  cases d with
  | ref m =>
    cases q : σ[m]? with
    | none => simp [insOf, q] at e
    | some o =>
      cases o with
      | ins C' fs' =>
        simp only [insOf, q, Option.some.injEq, Prod.mk.injEq] at e
        obtain ⟨rfl, rfl, rfl⟩ := e
        obtain ⟨a, rfl, ha⟩ := h
        obtain ⟨c, dx, vs, m1, hH, pr⟩ := r.at_ m a _ ha q
        exact ⟨a, c, dx, vs, rfl, rfl, ha, m1, hH, pr⟩
      | _ => simp [insOf, q] at e
  | _ => simp [insOf] at e
theorem flook {K : PySem.W.Frag} {ρ : List Addr} {H : Hp} {f : Str} : ∀ {fs : List (Str × D)} {vs : List (Str × V)}, Paired (FRel K ρ H) fs vs →
    (∀ d, fs.lookup f = some d → ∃ v, vs.lookup f = some v ∧ RD K ρ H d v) ∧ (fs.lookup f = none → vs.lookup f = none)
  | _, _, .nil => ⟨fun d e => by simp at e, fun _ => rfl⟩
  | (g, d0) :: fs, (g', v0) :: vs, .cons h t => by
    obtain ⟨h1, h2⟩ := h
    dsimp only at h1 h2
    subst h1
    obtain ⟨i1, i2⟩ := flook (f := f) t
    by_cases e : f = g'
    · have hb : (f == g') = true := beq_iff_eq.mpr e
      simp only [List.lookup, hb]
      exact ⟨fun d q => ⟨v0, rfl, by cases q; exact h2⟩, fun q => by cases q⟩
    · have hb : (f == g') = false := beq_eq_false_iff_ne.mpr e
      simp only [List.lookup, hb]
      exact ⟨i1, i2⟩
def putFD (f : Str) (v : D) : List (Str × D) → List (Str × D)
  | [] => [(f, v)]
  | (g, x) :: r => if g = f then (g, v) :: r else (g, x) :: putFD f v r
theorem put_rel {K : PySem.W.Frag} {ρ : List Addr} {H : Hp} {f : Str} {d : D} {v : V} (rd : RD K ρ H d v) : ∀ {fs : List (Str × D)} {vs : List (Str × V)}, Paired (FRel K ρ H) fs vs → Paired (FRel K ρ H) (putFD f d fs) (L2.putF f v vs)
  | _, _, .nil => .cons ⟨rfl, rd⟩ .nil
  | (g, d0) :: fs, (g', v0) :: vs, .cons h t => by
    obtain ⟨h1, h2⟩ := h
    dsimp only at h1 h2
    subst h1
    unfold putFD L2.putF
    by_cases e : g' = f
    · rw [if_pos e, if_pos e]; exact .cons ⟨rfl, rd⟩ t
    · rw [if_neg e, if_neg e]; exact .cons ⟨rfl, h2⟩ (put_rel rd t)
def fldD (L : List Str) (f : Str) (x : D) (h : Hs) : R D := match insOf h x with
  | some (_, C, fs) => if L.contains C then (match fs.lookup f with
    | some d => .ok d h
    | none => .bad) else .bad
  | none => .bad
theorem fld_nb {L : List Str} {f : Str} {x : D} {h : Hs} (nb : fldD L f x h ≠ .bad) : ∃ n C fs d, insOf h x = some (n, C, fs) ∧ C ∈ L ∧ fs.lookup f = some d ∧ fldD L f x h = .ok d h := by
  cases q : insOf h x with
  | none => exact absurd (by simp [fldD, q]) nb
  | some t =>
    obtain ⟨n, C, fs⟩ := t
    by_cases hc : L.contains C = true
    · cases ql : fs.lookup f with
      | none => exact absurd (by simp [fldD, q, ql]) nb
      | some d => exact ⟨n, C, fs, d, rfl, by simpa using hc, ql, by unfold fldD; rw [q]; dsimp only; rw [if_pos hc, ql]⟩
    · exact absurd (by unfold fldD; rw [q]; dsimp only; rw [if_neg hc]) nb
section
variable {X : Cx} {o a : Expr} {f : Str} {pos tpos : Pos} {A O : Ev} {L : List Str}
theorem de_fld (hF : FldOk X.K X.mg L f) (ho : DE X o A) (hb : attributeBase o f X.env (eval o X.env) = eval o X.env := by rfl) : DE X (.Attribute o f pos) (e1 (fldD L f) A) := by
  refine ⟨fun {pins s τ H ρ e σ} I h => attr_of hb (ho.thenD I h fun d σ1 ρ1 v u H1 s1 q1 I1 x1 rd1 rv1 h1 => ?_)⟩
  obtain ⟨n, C, fs, d', hi, hC, hl, e1⟩ := fld_nb h1.nb
  obtain ⟨a, c, dx, vs, rfl, rfl, ha, hm, hH, pr⟩ := ins_at I1.rs rd1 hi
  cases rv1
  obtain ⟨cl, na⟩ := hF C hC c hm
  obtain ⟨v', hv, rd'⟩ := (flook pr).1 d' hl
  refine getattr_ok I1.inv hH cl na hv fun u' s2 I2 ru => ⟨v', H1, I2, ru, ?_⟩
  exact GD.right (f := fldD L f) q1 x1 ⟨d', σ1, ρ1, e1, Ext.refl, I1.rs, rd'⟩
/-- o.f = v -/
def stFD (L : List Str) (f : Str) (x v : D) (h : Hs) : R Unit := match insOf h x with
  | some (n, C, fs) => if L.contains C && decide (fs.length < 1000) then .ok () (h.set n (.ins C (putFD f v fs))) else .bad
  | none => .bad
theorem stF_nb {L : List Str} {f : Str} {x v : D} {h : Hs} (nb : stFD L f x v h ≠ .bad) : ∃ n C fs, insOf h x = some (n, C, fs) ∧ C ∈ L ∧ fs.length < 1000 ∧ stFD L f x v h = .ok () (h.set n (.ins C (putFD f v fs))) := by
  cases q : insOf h x with
  | none => exact absurd (by simp [stFD, q]) nb
  | some t =>
    obtain ⟨n, C, fs⟩ := t
    by_cases hc : (L.contains C && decide (fs.length < 1000)) = true
    · have hc' := hc
      rw [Bool.and_eq_true] at hc'
      exact ⟨n, C, fs, rfl, by simpa using hc'.1, of_decide_eq_true hc'.2, by unfold stFD; rw [q]; dsimp only; rw [if_pos hc]⟩
    · exact absurd (by unfold stFD; rw [q]; dsimp only; rw [if_neg hc]) nb
def sFldS (A O : Ev) (L : List Str) (f : Str) : Sv := fun e h => (A e h).st e fun v h1 => (O e h1).st e fun o h2 => (stFD L f o v h2).st e fun _ h3 => .nx e h3
/-- the end of a store -/
theorem stF_ok (hF : FldOk X.K X.mg L f) {pins s τ H ρ} {e : En} {σ : Hs} {x d : D} {vx v : V} {ux u : Value} {Q : Unit → Shared → Prop} (I : SR X pins ρ e σ τ H s) (rx : RD X.K ρ H x vx) (rvx : RelV vx ux) (rd : RD X.K ρ H d v) (rv : RelV v u) (nb : stFD L f x d σ ≠ .bad)
    (k : ∀ s' H', (∃ σ', stFD L f x d σ = .ok () σ' ∧ Ext ρ ρ H H' ∧ SR X pins ρ e σ' τ H' s') → Q () s') : wpAny (model X.prog X.w) X.A (setAttr ux f u) Q X.xe s := by
  obtain ⟨n, C, fs, hi, hC, hlen, eq⟩ := stF_nb nb
  obtain ⟨a, c, dx, vs, rfl, rfl, ha, hm, hH, pr⟩ := ins_at I.rs rx hi
  cases rvx
  obtain ⟨cl, na⟩ := hF C hC c hm
  have l1 : vs.length < 1000 := by rw [← pLen pr]; exact hlen
  refine setattr_ok I.inv hH cl na l1 rv fun s' I' => k s' _ ⟨_, eq, Ext.put (List.mem_of_getElem? ha), I', ?_, I.re.ext (Ext.put (List.mem_of_getElem? ha))⟩
  refine I.rs.put ha ⟨c, dx, _, hm, upd_same, pimp (put_rel rd pr) fun p q ⟨h1, h2⟩ => ⟨h1, RD.ext (Ext.put (List.mem_of_getElem? ha)) _ _ h2⟩⟩
theorem ds_fld (hF : FldOk X.K X.mg L f) (ho : DE X o O) (ha : DE X a A) (hs : swapsWith a (some (.Attribute o f tpos)) pos.line X.env = pure false := by rfl) : DS X (.Assign [.Attribute o f tpos] a pos) (sFldS A O L f) := by
  refine ⟨fun {pins s τ H ρ e σ} I h => ?_⟩
  refine plainObj_wpAny_Assign_Attribute (thn (ha.run I (SafeF.of I h)) fun u s1 ⟨v, H1, i1, rv, d, σ1, ρ1, q1, x1, rs1, rd⟩ => ?_) hs
  have I1 := I.next i1 x1 rs1
  have k1 : SafeF X ρ1 H1 ((O e σ1).st e fun o h2 => (stFD L f o d h2).st e fun _ h3 => .nx e h3) := SafeF.right (k := fun v h1 => (O e h1).st e fun o h2 => (stFD L f o v h2).st e fun _ h3 => .nx e h3) h q1 x1
  refine thn (ho.run I1 (SafeF.of I1 k1)) fun uo s2 ⟨vo, H2, i2, rvo, o2, σ2, ρ2, q2, x2, rs2, ro⟩ => ?_
  have I2 := I1.next i2 x2 rs2
  have k2 : SafeF X ρ2 H2 ((stFD L f o2 d σ2).st e fun _ h3 => .nx e h3) := SafeF.right (k := fun o h2 => (stFD L f o d h2).st e fun _ h3 => .nx e h3) k1 q2 x2
  refine stF_ok hF I2 ro rvo (RD.ext x2 _ _ rd) rv (SafeF.of I2 k2).nb fun s' H' ⟨σ', eq, x3, I3⟩ => ?_
  refine ⟨τ, H', I3.inv, e, σ', ρ2, ?_, x1.trans (x2.trans x3), I3.rs, I3.re⟩
  unfold sFldS
  rw [q1]
  show ((O e σ1).st e fun o h2 => (stFD L f o d h2).st e fun _ h3 => .nx e h3) = _
  rw [q2]
  show ((stFD L f o2 d σ2).st e fun _ h3 => .nx e h3) = _
  rw [eq]
  rfl
/-- o.f += v, ints -/
def sFldAugI (O A : Ev) (L : List Str) (f : Str) : Sv := fun e h => (O e h).st e fun o h1 => (fldD L f o h1).st e fun x h1' => (A e h1').st e fun y h2 => (addI x y h2).st e fun z h3 => (stFD L f o z h3).st e fun _ h4 => .nx e h4
theorem ds_fldaug (hF : FldOk X.K X.mg L f) (ho : DE X o O) (ha : DE X a A) : DS X (.AugAssign (.Attribute o f tpos) .Add a pos) (sFldAugI O A L f) := by
  refine ⟨fun {pins s τ H ρ e σ} I h => ?_⟩
  refine wpAny_AugAssign_AttributeAny (thn (ho.run I (SafeF.of I h)) fun uo s1 ⟨vo, H1, i1, rvo, d, σ1, ρ1, q1, x1, rs1, rd⟩ => ?_)
  have I1 := I.next i1 x1 rs1
  have k1 := SafeF.right (k := fun o h1 => (fldD L f o h1).st e fun x h1' => (A e h1').st e fun y h2 => (addI x y h2).st e fun z h3 => (stFD L f o z h3).st e fun _ h4 => .nx e h4) h q1 x1
  obtain ⟨n, C, fs, d', hi, hC, hl, e1⟩ := fld_nb (SafeF.of I1 k1).nb
  obtain ⟨a, c, dx, vs, ed, rfl, ha', hm, hH, pr⟩ := ins_at I1.rs rd hi
  have rvo' := rvo
  cases rvo'
  obtain ⟨cl, na⟩ := hF C hC c hm
  obtain ⟨v', hv, rd'⟩ := (flook pr).1 d' hl
  have k2 := SafeF.right (k := fun x h1' => (A e h1').st e fun y h2 => (addI x y h2).st e fun z h3 => (stFD L f d z h3).st e fun _ h4 => .nx e h4) k1 e1 Ext.refl
  refine getattr_ok I1.inv hH cl na hv fun u' s2 I2 ru => ?_
  have J2 : SR X pins ρ1 e σ1 τ H1 s2 := ⟨I2, I1.rs, I1.re⟩
  refine thn (ha.run J2 (SafeF.of J2 k2)) fun uy s3 ⟨vy, H3, i3, rvy, y, σ3, ρ3, q3, x3, rs3, ry⟩ => ?_
  have I3 := J2.next i3 x3 rs3
  have k3 := SafeF.right (k := fun y h2 => (addI d' y h2).st e fun z h3 => (stFD L f d z h3).st e fun _ h4 => .nx e h4) k2 q3 x3
  obtain ⟨i, j, rfl, rfl, e3⟩ := addI_nb d' y σ3 (SafeF.of I3 k3).nb
  have k4 := SafeF.right (k := fun z h3 => (stFD L f d z h3).st e fun _ h4 => .nx e h4) k3 e3 Ext.refl
  have rd2 := RD.ext x3 _ _ rd'
  cases rd2
  cases ry
  refine thn (in_add (X := X) pins s3 τ H3 (.int i) (.int j) u' uy (fun v H' => v = .int (i + j) ∧ H' = H3) I3.inv ru rvy ⟨i, j, rfl, rfl, rfl, rfl⟩) fun w4 s4 ⟨z, H4, i4, rz, ez, eH⟩ => ?_
  subst ez eH
  have I4 : SR X pins ρ3 e σ3 τ H4 s4 := ⟨i4, I3.rs, I3.re⟩
  refine stF_ok hF I4 (RD.ext x3 _ _ rd) rvo (show RD X.K ρ3 H4 (.int (i + j)) (.int (i + j)) from rfl) rz (SafeF.of I4 k4).nb fun s' H' ⟨σ', eq, x5, I5⟩ => ?_
  refine ⟨τ, H', I5.inv, e, σ', ρ3, ?_, x1.trans (x3.trans x5), I5.rs, I5.re⟩
  unfold sFldAugI
  rw [q1]
  show ((fldD L f d σ1).st e _) = _
  rw [e1]
  show ((A e σ1).st e _) = _
  rw [q3]
  show ((addI (.int i) (.int j) σ3).st e fun z h3 => (stFD L f d z h3).st e fun _ h4 => .nx e h4) = _
  rw [e3]
  show ((stFD L f d (.int (i + j)) σ3).st e fun _ h4 => .nx e h4) = _
  rw [eq]
  rfl
end
end Lb

set_option Elab.async false
set_option linter.all false
set_option maxRecDepth 100000
set_option maxHeartbeats 4000000
namespace Lb
open PySem PySem.Spec PyProof.Rows L2
/-! ### calls of any form: defs, methods, classes -/
/-- the def at f, called with n values and the keywords ks; gD: their order among the parameters, defaults filled in -/
structure CalD (P : Program) (w : World) (K : PySem.W.Frag) (mg : Str → Option Value) (base : Heap) (k : Nat) (ps : List Str) (F : Fn) (n : Nat) (ks : List Str) (gD : List D → List D → List D) (f : Addr) : Prop where
  ex : ∃ (fd : FuncData) (g : List Value → List Value → List Value) (gV : List V → List V → List V), FnD P w K mg base k f fd ps F ∧ KBn K fd ps n ks g gV ∧
    (∀ ρ H ds zs vs ws, ds.length = n → zs.length = ks.length → RDs K ρ H ds vs → RDs K ρ H zs ws → RDs K ρ H (gD ds zs) (gV vs ws)) ∧ ∀ ds zs, ds.length = n → zs.length = ks.length → (gD ds zs).length = ps.length
/-- f(..) by its name -/
structure DfN (P : Program) (w : World) (K : PySem.W.Frag) (mg : Str → Option Value) (base : Heap) (x : Str) (k : Nat) (ps : List Str) (F : Fn) (n : Nat) (ks : List Str) (gD : List D → List D → List D) : Prop where
  ex : ∃ f, mg x = some (.ref f) ∧ PySem.W.keepIn K (.ref f) = true ∧ CalD P w K mg base k ps F n ks gD f
/-- o.m(..) of an instance of C: n values beside it -/
structure MdN (P : Program) (w : World) (K : PySem.W.Frag) (mg : Str → Option Value) (base : Heap) (C m : Str) (k : Nat) (ps : List Str) (F : Fn) (n : Nat) (ks : List Str) (gD : List D → List D → List D) : Prop where
  ex : ∃ c f, mg C = some (.ref c) ∧ Cls K c ∧ Meth K c m f ∧ CalD P w K mg base k ps F (n + 1) ks gD f
/-- C(..) -/
structure MkN (P : Program) (w : World) (K : PySem.W.Frag) (mg : Str → Option Value) (base : Heap) (C : Str) (k : Nat) (ps : List Str) (F : Fn) (n : Nat) (ks : List Str) (gD : List D → List D → List D) : Prop where
  ex : ∃ c f, mg C = some (.ref c) ∧ Mk K c f ∧ CalD P w K mg base k ps F (n + 1) ks gD f
def fz (b : Bool) (F : Fn) : Fn := if b then run F else F
/-- the values in their order, n and m of them -/
def argsN (n m : Nat) (gD : List D → List D → List D) (F : Fn) (xs zs : List D) (h : Hs) : R D := if xs.length = n ∧ zs.length = m then F (gD xs zs) h else .bad
theorem argsN_nb {n m : Nat} {gD : List D → List D → List D} {F : Fn} {xs zs : List D} {h : Hs} (nb : argsN n m gD F xs zs h ≠ .bad) : xs.length = n ∧ zs.length = m ∧ argsN n m gD F xs zs h = F (gD xs zs) h := by
  by_cases q : xs.length = n ∧ zs.length = m
  · exact ⟨q.1, q.2, if_pos q⟩
  · exact absurd (if_neg q) nb
section
variable {X : Cx} {k n : Nat} {ps ks : List Str} {F : Fn} {gD : List D → List D → List D} {f : Addr}
theorem op_fnN (DD : CalD X.prog X.w X.K X.mg X.base k ps F n ks gD f) (hr : Room k X.A) {pins s τ H ρ} {e : En} {σ : Hs} {ds zs : List D} {vs ws : List V} {us us2 : List Value} {Q : VK}
    (I : SR X pins ρ e σ τ H s) (rds : RDs X.K ρ H ds vs) (rvs : Vals vs us) (rdz : RDs X.K ρ H zs ws) (rvz : Vals ws us2) (l1 : ds.length = n) (l2 : zs.length = ks.length) (h : Safe X ρ H τ (F (gD ds zs) σ)) (hq : ∀ v H', GD X ρ H (F (gD ds zs) σ) v H' → Q v H') :
    wpAny (model X.prog X.w) X.A (call (.ref f) us (ks.zip us2)) (EP X pins τ Q) X.xe s := by
  obtain ⟨fd, g, gV, hF, hb, hrel, hlen⟩ := DD.ex
  have r2 := hb.rel rvs rvz
  have rall := hrel ρ H ds zs vs ws l1 l2 rds rdz
  have n1 : us.length = n := by rw [← rvs.length, ← rds.length]; exact l1
  have n2 : us2.length = ks.length := by rw [← rvz.length, ← rdz.length]; exact l2
  refine wpAny_call (codeAny_mono (hF.run X.A X.stack s H ⟨us, ks.zip us2⟩ (g us us2) (gV vs ws) Q (fun cls d H' => WD X ρ H τ (F (gD ds zs) σ) cls d τ H') hr I.inv.env0 (hb.to s us us2 I.inv.kIn n1 n2) r2
    ⟨by rw [← rall.length]; exact hlen ds zs l1 l2, ρ, gD ds zs, σ, I.rs, rall, h.nb, fun v H' z => hq v H' z, fun cls d H' ⟨c, σ', ρ', q1, q2, q3, q4⟩ => ⟨c, σ', ρ', q1, rfl, q2, q3, q4⟩⟩) fun r s' hq => ?_)
  cases r with
  | error er => exact h.tk er s' (XE.of_call (W := fun cls d σ' H' => σ' = τ ∧ WD X ρ H τ (F (gD ds zs) σ) cls d τ H') I.inv (fun cls d H' z => ⟨rfl, z⟩) hq |> fun z => by
      obtain ⟨a, B, sI, pins', σ', H', cls, d, e1, i, nb, up, sky, na, os, ag, e2, z⟩ := z
      subst e2
      exact ⟨a, B, sI, pins', σ', H', cls, d, e1, i, nb, up, sky, na, os, ag, z⟩)
  | ok fl =>
    cases fl with
    | ret u => exact I.inv.after hq
    | next => exact False.elim hq
    | brk => exact False.elim hq
    | cont => exact False.elim hq
/-- .. settled, or as it stands -/
theorem op_fnZ (b : Bool) (DD : CalD X.prog X.w X.K X.mg X.base k ps F n ks gD f) (hr : Room k X.A) {pins s τ H ρ} {e : En} {σ : Hs} {ds zs : List D} {vs ws : List V} {us us2 : List Value}
    (I : SR X pins ρ e σ τ H s) (rds : RDs X.K ρ H ds vs) (rvs : Vals vs us) (rdz : RDs X.K ρ H zs ws) (rvz : Vals ws us2) (l1 : ds.length = n) (l2 : zs.length = ks.length) (h : Safe X ρ H τ (fz b F (gD ds zs) σ)) :
    wpAny (model X.prog X.w) X.A (call (.ref f) us (ks.zip us2)) (EP X pins τ (GD X ρ H (fz b F (gD ds zs) σ))) X.xe s := by
  cases b with
  | true => exact op_fnN DD hr I rds rvs rdz rvz l1 l2 (froz_safe h I.rs.len I.rs) fun v H' g => froz_gd h I.rs g
  | false => exact op_fnN DD hr I rds rvs rdz rvz l1 l2 h fun v H' g => g
end
def eCallN (FF : List D → List D → Hs → R D) (A B : Es) : Ev := fun e h => (A e h).bind fun xs h1 => (B e h1).bind fun zs h2 => FF xs zs h2
section
variable {X : Cx} {P : Program} {w : World} {K : PySem.W.Frag} {mg : Str → Option Value} {base : Heap} {k n : Nat} {ps ks : List Str} {F : Fn} {gD : List D → List D → List D} {x C m : Str} {p pos apos : Pos} {a o : Expr} {es : List Expr} {kws : List Keyword} {AS BS : Es} {O : Ev}
theorem de_callN (b : Bool) (DD : DfN P w K mg base x k ps F n ks gD) {k' : Nat} (hr : Room k' X.A) (hk : k ≤ k') (hg : Gl X x) (ha : DA X (a :: es) AS) (hkw : DK X kws BS)
    (eq : X.prog = P ∧ X.w = w ∧ X.K = K ∧ X.mg = mg ∧ X.base = base := by exact ⟨rfl, rfl, rfl, rfl, rfl⟩) (hall : (backToKw pos (keywordEach kws X.env)).all (·.1.isSome) = true := by rfl) (hks : (backToKw pos (keywordEach kws X.env)).filterMap (·.1) = ks := by rfl)
    (hdb : (x == ("__debug__" : Str)) = false := by decide) (he : starEach (a :: es) X.env = (false, eval a X.env) :: starEach es X.env := by rfl)
    (hpl : ((backTo pos (starEach (a :: es) X.env)).any (·.1) || (backToKw pos (keywordEach kws X.env)).any (·.1.isNone)) = false := by rfl) :
    DE X (.Call (.Name x p) (a :: es) kws pos) (eCallN (argsN n ks.length gD (fz b F)) AS BS) := by
  obtain ⟨rfl, rfl, rfl, rfl, rfl⟩ := eq
  obtain ⟨f, hm, hkp, hD⟩ := DD.ex
  refine ⟨fun {pins s τ H ρ e σ} I h => wpAny_Call_Name_kw (ld_glob I.inv hg hm ?_ hdb)⟩
  refine PySem.W.callWith_KW (h₀ := X.base) I.inv.ok.mod.kin hkp hall (ha.thenA pos (F := fun xs h1 => (BS e h1).bind fun zs h2 => argsN n ks.length gD (fz b F) xs zs h2) I h fun xs σ1 ρ1 vs us H1 s1 q1 I1 x1 rds rvs h1 => ?_) hpl he
  refine thn (hkw.run pos I1 h1.left) fun ws s2 ⟨zs, H2, i2, rzs, dz, σ2, ρ2, q2, x2, rs2, rdz⟩ => ⟨i2.kIn, ?_⟩
  have I2 := I1.next i2 x2 rs2
  have h2 := h1.right q2 x2
  obtain ⟨l1, l2, e1⟩ := argsN_nb h2.nb
  rw [e1] at h2
  rw [hks]
  refine thn (op_fnZ b hD (hr.mono hk) I2 (RDs.ext x2 _ _ rds) rvs rdz rzs l1 l2 h2) fun u s3 g => epi g fun v H' g2 => ?_
  refine GD.right (f := fun xs h1 => (BS e h1).bind fun zs h2 => argsN n ks.length gD (fz b F) xs zs h2) q1 x1 (GD.right (f := fun zs h2 => argsN n ks.length gD (fz b F) xs zs h2) q2 x2 ?_)
  rw [e1]
  exact g2
/-- f(k = ..) -/
theorem de_callN0 (b : Bool) (DD : DfN P w K mg base x k ps F n ks gD) {k' : Nat} (hr : Room k' X.A) (hk : k ≤ k') (hg : Gl X x) (hkw : DK X kws BS)
    (eq : X.prog = P ∧ X.w = w ∧ X.K = K ∧ X.mg = mg ∧ X.base = base := by exact ⟨rfl, rfl, rfl, rfl, rfl⟩) (hall : (backToKw pos (keywordEach kws X.env)).all (·.1.isSome) = true := by rfl) (hks : (backToKw pos (keywordEach kws X.env)).filterMap (·.1) = ks := by rfl)
    (hdb : (x == ("__debug__" : Str)) = false := by decide)
    (hpl : ((backTo pos (starEach [] X.env)).any (·.1) || (backToKw pos (keywordEach kws X.env)).any (·.1.isNone)) = false := by rfl) :
    DE X (.Call (.Name x p) [] kws pos) (eCallN (argsN n ks.length gD (fz b F)) aNil BS) := by
  obtain ⟨rfl, rfl, rfl, rfl, rfl⟩ := eq
  obtain ⟨f, hm, hkp, hD⟩ := DD.ex
  refine ⟨fun {pins s τ H ρ e σ} I h => wpAny_Call_Name_kw (ld_glob I.inv hg hm ?_ hdb)⟩
  refine PySem.W.callWith_KW0 (h₀ := X.base) I.inv.ok.mod.kin hkp hall ?_ hpl
  have h1 : Safe X ρ H τ ((BS e σ).bind fun zs h2 => argsN n ks.length gD (fz b F) [] zs h2) := h
  refine thn (hkw.run pos I h1.left) fun ws s2 ⟨zs, H2, i2, rzs, dz, σ2, ρ2, q2, x2, rs2, rdz⟩ => ⟨i2.kIn, ?_⟩
  have I2 := I.next i2 x2 rs2
  have h2 := h1.right q2 x2
  obtain ⟨l1, l2, e1⟩ := argsN_nb h2.nb
  rw [e1] at h2
  rw [hks]
  refine thn (op_fnZ (ds := []) (us := []) (vs := []) b hD (hr.mono hk) I2 rfl .nil rdz rzs l1 l2 h2) fun u s3 g => epi g fun v H' g2 => ?_
  refine GD.right (r := BS e σ) (f := fun zs h2 => argsN n ks.length gD (fz b F) [] zs h2) q2 x2 ?_
  rw [e1]
  exact g2
/-! #### methods -/
def isInsC (C m : Str) (h : Hs) (x : D) : Bool := match insOf h x with
  | some (_, C', fs) => decide (C' = C) && (fs.lookup m).isNone
  | none => false
def eMethN (C m : Str) (FF : List D → List D → Hs → R D) (O : Ev) (A B : Es) : Ev := fun e h => (O e h).bind fun o h0 => if isInsC C m h0 o then (A e h0).bind fun xs h1 => (B e h1).bind fun zs h2 => FF (o :: xs) zs h2 else .bad
theorem insC_at {σ : Hs} {ρ : List Addr} {H : Hp} {d : D} {v : V} (rs : RS X.prog X.w X.K X.mg ρ σ H) (rd : RD X.K ρ H d v) (q : isInsC C m σ d = true) : ∃ a c dx vs, v = .ref a ∧ X.mg C = some (.ref c) ∧ H a = some (.ins c dx vs) ∧ vs.lookup m = none := by
  unfold isInsC at q
  cases hi : insOf σ d with
  | none => rw [hi] at q; cases q
  | some t =>
    obtain ⟨n, C', fs⟩ := t
    rw [hi] at q
    dsimp only at q
    rw [Bool.and_eq_true] at q
    have eC := of_decide_eq_true q.1
    subst eC
    obtain ⟨a, c, dx, vs, _, ev, _, hm, hH, pr⟩ := ins_at rs rd hi
    exact ⟨a, c, dx, vs, ev, hm, hH, (flook pr).2 (by simpa using q.2)⟩
theorem de_methN (b : Bool) {pl : Sem Bool} (DD : MdN P w K mg base C m k ps F n ks gD) {k' : Nat} (hr : Room k' X.A) (hk : k ≤ k') (ho : DE X o O) (ha : DA X (a :: es) AS) (hkw : DK X kws BS)
    (eq : X.prog = P ∧ X.w = w ∧ X.K = K ∧ X.mg = mg ∧ X.base = base := by exact ⟨rfl, rfl, rfl, rfl, rfl⟩) (hall : (backToKw pos (keywordEach kws X.env)).all (·.1.isSome) = true := by rfl) (hks : (backToKw pos (keywordEach kws X.env)).filterMap (·.1) = ks := by rfl)
    (he : starEach (a :: es) X.env = (false, eval a X.env) :: starEach es X.env := by rfl)
    (hpl : ((backTo pos (starEach (a :: es) X.env)).any (·.1) || (backToKw pos (keywordEach kws X.env)).any (·.1.isNone)) = false := by rfl)
    (ht : eval (.Call (.Attribute o m apos) (a :: es) kws pos) X.env = (do
      let ov ← eval o X.env
      standAt apos.atName
      let (f, first) ← holding [ov] (getMethod ov m pl)
      callWith pos f first (backTo pos (starEach (a :: es) X.env)) (backToKw pos (keywordEach kws X.env))) := by rfl) :
    DE X (.Call (.Attribute o m apos) (a :: es) kws pos) (eMethN C m (argsN (n + 1) ks.length gD (fz b F)) O AS BS) := by
  obtain ⟨rfl, rfl, rfl, rfl, rfl⟩ := eq
  obtain ⟨c, f, hm, hcl, hmt, hD⟩ := DD.ex
  refine ⟨fun {pins s τ H ρ e σ} I h => PySem.W.methodCall_KW (pl := pl) (ho.thenD I h fun d σ0 ρ0 v u H0 s0 q0 I0 x0 rd0 rv0 h0 => ?_) ht⟩
  by_cases ty : isInsC C m σ0 d = true
  · obtain ⟨a0, c0, dx, vs0, rfl, hm0, hH, hl⟩ := insC_at I0.rs rd0 ty
    rw [hm] at hm0
    cases hm0
    cases rv0
    have h0' : Safe X ρ0 H0 τ ((AS e σ0).bind fun xs h1 => (BS e h1).bind fun zs h2 => argsN (n + 1) ks.length gD (fz b F) (d :: xs) zs h2) := by rw [if_pos ty] at h0; exact h0
    refine getmeth_ok I0.inv hH hcl hmt hl ?_
    refine PySem.W.callWith_KW (first := [.ref a0]) (h₀ := X.base) I0.inv.ok.mod.kin hmt.kp hall (ha.thenA pos (F := fun xs h1 => (BS e h1).bind fun zs h2 => argsN (n + 1) ks.length gD (fz b F) (d :: xs) zs h2) I0 h0' fun xs σ1 ρ1 vs us H1 s1 q1 I1 x1 rds rvs h1 => ?_) hpl he
    refine thn (hkw.run pos I1 h1.left) fun ws s2 ⟨zs, H2, i2, rzs, dz, σ2, ρ2, q2, x2, rs2, rdz⟩ => ⟨i2.kIn, ?_⟩
    have I2 := I1.next i2 x2 rs2
    have h2 := h1.right q2 x2
    obtain ⟨l1, l2, e1⟩ := argsN_nb h2.nb
    rw [e1] at h2
    rw [hks]
    refine thn (op_fnZ (ds := d :: xs) (us := .ref a0 :: us) (vs := .ref a0 :: vs) b hD (hr.mono hk) I2 ⟨_, _, rfl, RD.ext (x1.trans x2) _ _ rd0, RDs.ext x2 _ _ rds⟩ (.cons rfl rvs) rdz rzs l1 l2 h2) fun u s3 g => epi g fun v H' g2 => ?_
    refine GD.right (f := fun o h0 => if isInsC C m h0 o then (AS e h0).bind fun xs h1 => (BS e h1).bind fun zs h2 => argsN (n + 1) ks.length gD (fz b F) (o :: xs) zs h2 else .bad) q0 x0 ?_
    rw [if_pos ty]
    refine GD.right (f := fun xs h1 => (BS e h1).bind fun zs h2 => argsN (n + 1) ks.length gD (fz b F) (d :: xs) zs h2) q1 x1 (GD.right (f := fun zs h2 => argsN (n + 1) ks.length gD (fz b F) (d :: xs) zs h2) q2 x2 ?_)
    rw [e1]
    exact g2
  · rw [if_neg ty] at h0; exact absurd rfl h0.nb
/-- o.m() -/
theorem de_methN0 (b : Bool) {pl : Sem Bool} (DD : MdN P w K mg base C m k ps F n [] gD) {k' : Nat} (hr : Room k' X.A) (hk : k ≤ k') (ho : DE X o O)
    (eq : X.prog = P ∧ X.w = w ∧ X.K = K ∧ X.mg = mg ∧ X.base = base := by exact ⟨rfl, rfl, rfl, rfl, rfl⟩)
    (ht : eval (.Call (.Attribute o m apos) [] [] pos) X.env = (do
      let ov ← eval o X.env
      standAt apos.atName
      let (f, first) ← holding [ov] (getMethod ov m pl)
      callWith pos f first (backTo pos (starEach [] X.env)) (backToKw pos (keywordEach [] X.env))) := by rfl) :
    DE X (.Call (.Attribute o m apos) [] [] pos) (eMethN C m (argsN (n + 1) 0 gD (fz b F)) O aNil aNil) := by
  obtain ⟨rfl, rfl, rfl, rfl, rfl⟩ := eq
  obtain ⟨c, f, hm, hcl, hmt, hD⟩ := DD.ex
  refine ⟨fun {pins s τ H ρ e σ} I h => PySem.W.methodCall_KW (pl := pl) (ho.thenD I h fun d σ0 ρ0 v u H0 s0 q0 I0 x0 rd0 rv0 h0 => ?_) ht⟩
  by_cases ty : isInsC C m σ0 d = true
  · obtain ⟨a0, c0, dx, vs0, rfl, hm0, hH, hl⟩ := insC_at I0.rs rd0 ty
    rw [hm] at hm0
    cases hm0
    cases rv0
    have h0' : Safe X ρ0 H0 τ (argsN (n + 1) 0 gD (fz b F) [d] [] σ0) := by rw [if_pos ty] at h0; exact h0
    refine getmeth_ok I0.inv hH hcl hmt hl ?_
    obtain ⟨l1, l2, e1⟩ := argsN_nb h0'.nb
    rw [e1] at h0'
    refine PySem.W.callWith_K0 (first := [.ref a0]) I0.inv.kIn hmt.kp ?_
    refine thn (op_fnZ (ds := [d]) (us := [.ref a0]) (vs := [.ref a0]) (us2 := []) (ws := []) (zs := []) b hD (hr.mono hk) I0 ⟨_, _, rfl, rd0, rfl⟩ (.cons rfl .nil) rfl .nil l1 rfl h0') fun u s3 g => epi g fun v H' g2 => ?_
    refine GD.right (f := fun o h0 => if isInsC C m h0 o then (aNil e h0).bind fun xs h1 => (aNil e h1).bind fun zs h2 => argsN (n + 1) 0 gD (fz b F) (o :: xs) zs h2 else .bad) q0 x0 ?_
    rw [if_pos ty]
    show GD X ρ0 H0 (argsN (n + 1) 0 gD (fz b F) [d] [] σ0) v H'
    rw [e1]
    exact g2
  · rw [if_neg ty] at h0; exact absurd rfl h0.nb
end
end Lb

set_option Elab.async false
set_option linter.all false
set_option maxRecDepth 100000
set_option maxHeartbeats 4000000
namespace Lb
open PySem PySem.Spec PyProof.Rows L2
/-! ### C(..): a new instance -/
def mkD (C : Str) (FF : List D → List D → Hs → R D) (xs zs : List D) (h : Hs) : R D := (FF (.ref h.length :: xs) zs (h ++ [.ins C []])).bind fun v h' => if isNon v then .ok (.ref h.length) h' else .bad
section
variable {X : Cx} {k n : Nat} {ps ks : List Str} {F : Fn} {gD : List D → List D → List D} {f c : Addr} {C : Str}
theorem isNon_eq {d : D} (h : isNon d = true) : d = .non := by cases d <;> first | rfl | cases h
theorem op_mkN (M : Mk X.K c f) (hm : X.mg C = some (.ref c)) (DD : CalD X.prog X.w X.K X.mg X.base k ps F (n + 1) ks gD f) (hr : Room (k + 1) X.A) {pins s τ H ρ} {e : En} {σ : Hs} {ds zs : List D} {vs ws : List V} {us us2 : List Value}
    (I : SR X pins ρ e σ τ H s) (rds : RDs X.K ρ H ds vs) (rvs : Vals vs us) (rdz : RDs X.K ρ H zs ws) (rvz : Vals ws us2) (h : Safe X ρ H τ (mkD C (argsN (n + 1) ks.length gD F) ds zs σ)) :
    wpAny (model X.prog X.w) X.A (call (.ref c) us (ks.zip us2)) (EP X pins τ (GD X ρ H (mkD C (argsN (n + 1) ks.length gD F) ds zs σ))) X.xe s := by
  obtain ⟨fd, g, gV, hF, hb, hrel, hlen⟩ := DD.ex
  have hl : ρ.length = σ.length := I.rs.len
  have h1 : Safe X ρ H τ (argsN (n + 1) ks.length gD F (.ref σ.length :: ds) zs (σ ++ [.ins C []])) := h.left
  obtain ⟨l1, l2, e1⟩ := argsN_nb h1.nb
  rw [e1] at h1
  have fr0 : H s.heap.objs.size = none := I.inv.hok.fresh (Nat.le_refl _)
  have fr1 : H (s.heap.objs.size + 1) = none := I.inv.hok.fresh (Nat.le_succ _)
  have ne : s.heap.objs.size ≠ s.heap.objs.size + 1 := Nat.ne_of_lt (Nat.lt_succ_self _)
  have I2 := Inv.made (C := c) I.inv
  have x0 : Ext ρ ρ H (upd H s.heap.objs.size (.own (s.heap.objs.size + 1))) := Ext.laid fr0
  have fr1' : (upd H s.heap.objs.size (.own (s.heap.objs.size + 1))) (s.heap.objs.size + 1) = none := by rw [upd_ne (Ne.symm ne)]; exact fr1
  have x1 := x0.trans (Ext.new (ρ := ρ) (o := .ins c s.heap.objs.size []) fr1')
  have rs2 : RS X.prog X.w X.K X.mg (ρ ++ [s.heap.objs.size + 1]) (σ ++ [.ins C []]) (upd (upd H s.heap.objs.size (.own (s.heap.objs.size + 1))) (s.heap.objs.size + 1) (.ins c s.heap.objs.size [])) :=
    (I.rs.laid fr0).new fr1' ⟨c, s.heap.objs.size, [], hm, upd_same, .nil⟩
  have rd0 : RDs X.K (ρ ++ [s.heap.objs.size + 1]) (upd (upd H s.heap.objs.size (.own (s.heap.objs.size + 1))) (s.heap.objs.size + 1) (.ins c s.heap.objs.size [])) (.ref σ.length :: ds) (.ref (s.heap.objs.size + 1) :: vs) :=
    ⟨_, _, rfl, ⟨_, rfl, by rw [← hl]; simp⟩, RDs.ext x1 _ _ rds⟩
  have rvs2 : Vals (V.ref (s.heap.objs.size + 1) :: vs) (Value.ref (s.heap.objs.size + 1) :: us) := .cons rfl rvs
  have r2 := hb.rel rvs2 rvz
  have rall := hrel _ _ _ _ _ _ l1 l2 rd0 (RDs.ext x1 _ _ rdz)
  have n1 : (Value.ref (s.heap.objs.size + 1) :: us).length = n + 1 := by rw [← rvs2.length, ← rd0.length]; exact l1
  have n2 : us2.length = ks.length := by rw [← rvz.length, ← rdz.length]; exact l2
  have J : SR X pins (ρ ++ [s.heap.objs.size + 1]) e (σ ++ [.ins C []]) τ _ _ := ⟨I2, rs2, I.re.ext x1⟩
  refine wpAny_call (make_map (f := f) I.inv.kIn M.makes M.init (beq_iff_eq.mp M.fn) (codeAny_mono (hF.run _ X.stack _ _ ⟨Value.ref (s.heap.objs.size + 1) :: us, ks.zip us2⟩ (g (Value.ref (s.heap.objs.size + 1) :: us) us2) _
    (fun v H3 => v = .non ∧ GD X ρ H (mkD C (argsN (n + 1) ks.length gD F) ds zs σ) (.ref (s.heap.objs.size + 1)) H3) (fun cls d H' => WD X ρ H τ (mkD C (argsN (n + 1) ks.length gD F) ds zs σ) cls d τ H')
    (hr.make c us (ks.zip us2)) (I2.env0.make c us (ks.zip us2)) (hb.to _ (Value.ref (s.heap.objs.size + 1) :: us) us2 I2.kIn n1 n2) r2
    ⟨by rw [← rall.length]; exact hlen _ _ l1 l2, _, gD (.ref σ.length :: ds) zs, _, rs2, rall, h1.nb, ?_, ?_⟩) fun r s' hq' => ?_))
  · rintro v H' ⟨d, σ', ρ', q1, q2, q3, q4⟩
    have e2 : mkD C (argsN (n + 1) ks.length gD F) ds zs σ = if isNon d then .ok (.ref σ.length) σ' else .bad := by
      unfold mkD; rw [e1, q1]; rfl
    have hn : isNon d = true := by
      cases q : isNon d with
      | true => rfl
      | false => rw [q] at e2; exact absurd e2 h.nb
    rw [hn] at e2
    have := isNon_eq hn
    subst this
    refine ⟨q4, .ref σ.length, σ', ρ', e2, x1.trans q2, q3, _, rfl, ?_⟩
    exact q2.get (by rw [← hl]; simp)
  · rintro cls d H' ⟨cc, σ', ρ', q1, q2, q3, q4⟩
    exact ⟨cc, σ', ρ', by unfold mkD; rw [e1, q1]; rfl, rfl, x1.trans q2, q3, q4⟩
  · cases r with
    | error er => exact h.tk er s' (XE.of_call (W := fun cls d σ' H' => σ' = τ ∧ WD X ρ H τ (mkD C (argsN (n + 1) ks.length gD F) ds zs σ) cls d τ H') I2 (fun cls d H' z => ⟨rfl, z⟩) hq' |> fun z => by
        obtain ⟨a, B, sI, pins', σ', H', cls, d, e1, i, nb, up, sky, na, os, ag, e2, z⟩ := z
        subst e2
        exact ⟨a, B, sI, pins', σ', H', cls, d, e1, i, nb, up, sky, na, os, ag, z⟩)
    | ok fl =>
      cases fl with
      | ret u =>
        obtain ⟨v, H', I3, rv, ev, q3⟩ := I2.after hq'
        subst ev
        exact ⟨rv, ⟨V.ref (s.heap.objs.size + 1), H', I3, rfl, q3⟩⟩
      | next => exact False.elim hq'
      | brk => exact False.elim hq'
      | cont => exact False.elim hq'
end
section
variable {X : Cx} {P : Program} {w : World} {K : PySem.W.Frag} {mg : Str → Option Value} {base : Heap} {k n : Nat} {ps ks : List Str} {F : Fn} {gD : List D → List D → List D} {C : Str} {p pos : Pos} {a : Expr} {es : List Expr} {kws : List Keyword} {AS BS : Es}
theorem de_makeN (DD : MkN P w K mg base C k ps F n ks gD) {k' : Nat} (hr : Room k' X.A) (hk : k + 1 ≤ k') (hg : Gl X C) (ha : DA X (a :: es) AS) (hkw : DK X kws BS)
    (eq : X.prog = P ∧ X.w = w ∧ X.K = K ∧ X.mg = mg ∧ X.base = base := by exact ⟨rfl, rfl, rfl, rfl, rfl⟩) (hall : (backToKw pos (keywordEach kws X.env)).all (·.1.isSome) = true := by rfl) (hks : (backToKw pos (keywordEach kws X.env)).filterMap (·.1) = ks := by rfl)
    (hdb : (C == ("__debug__" : Str)) = false := by decide) (he : starEach (a :: es) X.env = (false, eval a X.env) :: starEach es X.env := by rfl)
    (hpl : ((backTo pos (starEach (a :: es) X.env)).any (·.1) || (backToKw pos (keywordEach kws X.env)).any (·.1.isNone)) = false := by rfl) :
    DE X (.Call (.Name C p) (a :: es) kws pos) (eCallN (mkD C (argsN (n + 1) ks.length gD F)) AS BS) := by
  obtain ⟨rfl, rfl, rfl, rfl, rfl⟩ := eq
  obtain ⟨c, f, hm, M, hD⟩ := DD.ex
  refine ⟨fun {pins s τ H ρ e σ} I h => wpAny_Call_Name_kw (ld_glob I.inv hg hm ?_ hdb)⟩
  refine PySem.W.callWith_KW (h₀ := X.base) I.inv.ok.mod.kin M.kp hall (ha.thenA pos (F := fun xs h1 => (BS e h1).bind fun zs h2 => mkD C (argsN (n + 1) ks.length gD F) xs zs h2) I h fun xs σ1 ρ1 vs us H1 s1 q1 I1 x1 rds rvs h1 => ?_) hpl he
  refine thn (hkw.run pos I1 h1.left) fun ws s2 ⟨zs, H2, i2, rzs, dz, σ2, ρ2, q2, x2, rs2, rdz⟩ => ⟨i2.kIn, ?_⟩
  have I2 := I1.next i2 x2 rs2
  have h2 := h1.right q2 x2
  rw [hks]
  refine thn (op_mkN M hm hD (hr.mono hk) I2 (RDs.ext x2 _ _ rds) rvs rdz rzs h2) fun u s3 g => epi g fun v H' g2 => ?_
  exact GD.right (f := fun xs h1 => (BS e h1).bind fun zs h2 => mkD C (argsN (n + 1) ks.length gD F) xs zs h2) q1 x1 (GD.right (f := fun zs h2 => mkD C (argsN (n + 1) ks.length gD F) xs zs h2) q2 x2 g2)
/-- C(k = ..) -/
theorem de_makeN0 (DD : MkN P w K mg base C k ps F n ks gD) {k' : Nat} (hr : Room k' X.A) (hk : k + 1 ≤ k') (hg : Gl X C) (hkw : DK X kws BS)
    (eq : X.prog = P ∧ X.w = w ∧ X.K = K ∧ X.mg = mg ∧ X.base = base := by exact ⟨rfl, rfl, rfl, rfl, rfl⟩) (hall : (backToKw pos (keywordEach kws X.env)).all (·.1.isSome) = true := by rfl) (hks : (backToKw pos (keywordEach kws X.env)).filterMap (·.1) = ks := by rfl)
    (hdb : (C == ("__debug__" : Str)) = false := by decide)
    (hpl : ((backTo pos (starEach [] X.env)).any (·.1) || (backToKw pos (keywordEach kws X.env)).any (·.1.isNone)) = false := by rfl) :
    DE X (.Call (.Name C p) [] kws pos) (eCallN (mkD C (argsN (n + 1) ks.length gD F)) aNil BS) := by
  obtain ⟨rfl, rfl, rfl, rfl, rfl⟩ := eq
  obtain ⟨c, f, hm, M, hD⟩ := DD.ex
  refine ⟨fun {pins s τ H ρ e σ} I h => wpAny_Call_Name_kw (ld_glob I.inv hg hm ?_ hdb)⟩
  refine PySem.W.callWith_KW0 (h₀ := X.base) I.inv.ok.mod.kin M.kp hall ?_ hpl
  have h1 : Safe X ρ H τ ((BS e σ).bind fun zs h2 => mkD C (argsN (n + 1) ks.length gD F) [] zs h2) := h
  refine thn (hkw.run pos I h1.left) fun ws s2 ⟨zs, H2, i2, rzs, dz, σ2, ρ2, q2, x2, rs2, rdz⟩ => ⟨i2.kIn, ?_⟩
  have I2 := I.next i2 x2 rs2
  have h2 := h1.right q2 x2
  rw [hks]
  refine thn (op_mkN (ds := []) (us := []) (vs := []) M hm hD (hr.mono hk) I2 rfl .nil rdz rzs h2) fun u s3 g => epi g fun v H' g2 => ?_
  exact GD.right (r := BS e σ) (f := fun zs h2 => mkD C (argsN (n + 1) ks.length gD F) [] zs h2) q2 x2 g2
end
end Lb

set_option Elab.async false
set_option linter.all false
set_option maxRecDepth 100000
set_option maxHeartbeats 4000000
namespace Lb
open PySem PySem.Spec PyProof.Rows L2
/-! ### raise X('..'), X an own class over ValueError without own __init__ -/
abbrev mroB : List Value := [.type "ValueError", .type "Exception", .type "BaseException", .type "object"]
structure ExcD (K : PySem.W.Frag) (mg : Str → Option Value) (x : Str) : Prop where
  ex : ∃ C, mg x = some (.ref C) ∧ PySem.W.keepIn K (.ref C) = true ∧ PySem.W.excIn K C mroB "ValueError.__new__" = true ∧ PySem.W.subIn K (.ref C) (.type "BaseException") = some true ∧ PySem.W.typeIn K (.ref C) = some (.type "type")
def sRaise (x : Str) : Sv := fun e h => .exc ⟨x, none⟩ e h
section
variable {X : Cx} {p p2 pos pos2 : Pos} {x m : Str} {j : Nat}
theorem ds_raise (g : Good X) (T : ExcD X.K X.mg x) (hg : Gl X x) (hdb : (x == ("__debug__" : Str)) = false := by decide) : DS X (.Raise (some (.Call (.Name x p) [.Constant (.str m) j p2] [] pos2)) none pos) (sRaise x) := by
  refine ⟨fun {pins s τ H ρ e σ} I h => ?_⟩
  obtain ⟨C, gC, kC, q, h1, h2⟩ := T.ex
  exact (ps_raise g.calm h.tk (pmk_own PySem.F.excBase_ValueError q gC kC (raises_own h1 h2) hg hdb)).run pins s τ H _ I.inv ⟨⟨x, none⟩, e, σ, ρ, rfl, Ext.refl, I.rs, I.re, gC, rfl⟩
end
/-! ### try: .. except X: .. -/
/-- which classes a clause takes: class, clause's class, whether -/
def exm : List (Str × Str × Bool) → Str → Str → Option Bool
  | [], _, _ => none
  | (a, b, r) :: M, c, x => if a = c ∧ b = x then some r else exm M c x
def MOk (K : PySem.W.Frag) (mg : Str → Option Value) (M : List (Str × Str × Bool)) : Prop := ∀ t ∈ M, ∀ vc vx, mg t.1 = some vc → mg t.2.1 = some vx → PySem.W.exmOne K vc vx = some t.2.2
theorem exm_ok {K : PySem.W.Frag} {mg : Str → Option Value} : ∀ {M : List (Str × Str × Bool)} (_ : MOk K mg M) {c x : Str} {b : Bool}, exm M c x = some b → ∀ vc vx, mg c = some vc → mg x = some vx → PySem.W.exmOne K vc vx = some b
  | [], _, c, x, b, h => by cases h
  | (a, b', r) :: M, ok, c, x, b, h => by
    unfold exm at h
    by_cases q : a = c ∧ b' = x
    · rw [if_pos q] at h
      cases h
      obtain ⟨rfl, rfl⟩ := q
      exact ok _ List.mem_cons_self
    · rw [if_neg q] at h
      exact exm_ok (fun t ht => ok t (List.mem_cons_of_mem _ ht)) h
def noXF : Fl → Fl
  | .exc _ _ _ => .bad
  | f => f
def hMany (M : List (Str × Str × Bool)) : List (Str × Sv) → Exc → En → Hs → Fl
  | [], c, e, h => .exc c e h
  | (x, U) :: r, c, e, h => match exm M c.cls x with
    | some true => noXF (U e h)
    | some false => hMany M r c e h
    | none => .bad
def sTry (M : List (Str × Str × Bool)) (S : Sv) (hs : List (Str × Sv)) : Sv := fun e h => match S e h with
  | .exc c e1 h1 => hMany M hs c e1 h1
  | r => r
section
variable {X : Cx}
inductive DHs (X : Cx) : List ExceptHandler → List (Str × Sv) → Prop
  | nil : DHs X [] []
  | cons {x : Str} {c : Value} {b₀ : Stmt} {suite : List Stmt} {np pos' : Pos} {hds : List ExceptHandler} {U : Sv} {hs : List (Str × Sv)} (hg : Gl X x) (hdb : (x == ("__debug__" : Str)) = false) (hm : X.mg x = some c)
      (hsu : ∀ (a : Addr) (oe : Obj) (cls : Value) (d : Option Addr) (pn : List (Addr × Obj)), Zc cls d oe → (∃ vs, oe.data = .fields vs) → DSs (X.suite a ((a, oe) :: pn)) (b₀ :: suite) U) (r : DHs X hds hs) :
      DHs X (.ExceptHandler (some (.Name x np)) none (b₀ :: suite) pos' :: hds) ((x, U) :: hs)
theorem DHs.cons' {x : Str} {b₀ : Stmt} {suite : List Stmt} {np pos' : Pos} {hds : List ExceptHandler} {U : Sv} {hs : List (Str × Sv)} (T : ∃ c, X.mg x = some c)
      (hsu : ∀ (a : Addr) (oe : Obj) (cls : Value) (d : Option Addr) (pn : List (Addr × Obj)), Zc cls d oe → (∃ vs, oe.data = .fields vs) → DSs (X.suite a ((a, oe) :: pn)) (b₀ :: suite) U) (r : DHs X hds hs) (hg : Gl X x := by rfl) (hdb : (x == ("__debug__" : Str)) = false := by decide) :
      DHs X (.ExceptHandler (some (.Name x np)) none (b₀ :: suite) pos' :: hds) ((x, U) :: hs) := by
  obtain ⟨c, hm⟩ := T
  exact .cons hg hdb hm hsu r
/-- a suite's reading -/
def tsU (X : Cx) (U : Sv) : TS := fun D τ H => ∃ ρ e σ, RS X.prog X.w X.K X.mg ρ σ H ∧ RE X.K ρ H e τ ∧ noXF (U e σ) ≠ .bad ∧ (∀ τ' H', (EF X ρ H (noXF (U e σ))).nx τ' H' → D.nx τ' H') ∧ (∀ v H', (EF X ρ H (noXF (U e σ))).rt v H' → D.rt v H') ∧
  (∀ τ' H', (EF X ρ H (noXF (U e σ))).bk τ' H' → D.bk τ' H') ∧ (∀ τ' H', (EF X ρ H (noXF (U e σ))).ct τ' H' → D.ct τ' H')
theorem noXF_ok {f : Fl} (h : noXF f ≠ .bad) : noXF f = f ∧ ∀ c e s, f ≠ .exc c e s := by
  cases f with
  | exc c e s => exact absurd rfl h
  | _ => exact ⟨rfl, fun _ _ _ z => nomatch z⟩
theorem pss_suite {a : Addr} {pn : List (Addr × Obj)} {suite : List Stmt} {U : Sv} (hs : DSs (X.suite a pn) suite U) : PSs (X.suite a pn) suite (tsU X U) := by
  refine ⟨fun pins s τ H D I ⟨ρ, e, σ, rs, re, nb, a, b, c, d⟩ => ?_⟩
  obtain ⟨e1, nx⟩ := noXF_ok nb
  rw [e1] at a b c d nb
  exact thn (hs.run ⟨I, rs, re⟩ ⟨nb, takes0.imp fun cls d τ' H' ⟨c', e', σ', ρ', q, _⟩ => nx _ _ _ q⟩) fun f s1 g => sp_imp g a b c d
def EIm (X : Cx) (ρ : List Addr) (H : Hp) (r : Fl) (D : Ends) : Prop := (∀ τ' H', (EF X ρ H r).nx τ' H' → D.nx τ' H') ∧ (∀ v H', (EF X ρ H r).rt v H' → D.rt v H') ∧ (∀ τ' H', (EF X ρ H r).bk τ' H' → D.bk τ' H') ∧ (∀ τ' H', (EF X ρ H r).ct τ' H' → D.ct τ' H')
theorem hds_mk {M : List (Str × Str × Bool)} (ok : MOk X.K X.mg M) {hds : List ExceptHandler} {hs : List (Str × Sv)} (hd : DHs X hds hs) : ∃ l, HdsOk X hds l ∧ ∀ (Wout : WX) (D : Ends) (c : Exc) (e : En) (σ : Hs) (ρ : List Addr) (τ : L2.St) (H : Hp) (cls : Value) (d : Option Addr),
    RS X.prog X.w X.K X.mg ρ σ H → RE X.K ρ H e τ → ExcIs X.K X.mg ρ H c cls d → hMany M hs c e σ ≠ .bad → EIm X ρ H (hMany M hs c e σ) D → (∀ c' e' σ', hMany M hs c e σ = .exc c' e' σ' → c' = c ∧ e' = e ∧ σ' = σ → Wout cls d τ H) → wMany X.K Wout D l cls d τ H := by
  induction hd with
  | nil => exact ⟨[], .nil, fun Wout D c e σ ρ τ H cls d rs re ei nb im w => w c e σ rfl ⟨rfl, rfl, rfl⟩⟩
  | @cons x vx b₀ suite np pos' hds U hs hg hdb hm hsu r ih =>
    obtain ⟨l, hl, hw⟩ := ih
    refine ⟨(vx, fun _ _ _ => tsU X U) :: l, .cons ⟨hg, hdb, .inl hm⟩ (fun a oe cls d pn z hf => pss_suite (hsu a oe cls d pn z hf)) hl, fun Wout D c e σ ρ τ H cls d rs re ei nb im w => ?_⟩
    cases q : exm M c.cls x with
    | none => exact absurd (by simp [hMany, q]) nb
    | some b =>
      refine ⟨b, exm_ok ok q cls vx ei.1 hm, fun hb a ha => ?_, fun hb => ?_⟩
      · subst hb
        have e1 : hMany M ((x, U) :: hs) c e σ = noXF (U e σ) := by simp [hMany, q]
        rw [e1] at nb im
        exact ⟨ρ, e, σ, rs, re, nb, im⟩
      · subst hb
        have e1 : hMany M ((x, U) :: hs) c e σ = hMany M hs c e σ := by simp [hMany, q]
        rw [e1] at nb im w
        exact hw Wout D c e σ ρ τ H cls d rs re ei nb im w
theorem eim_ext {ρ ρ1 : List Addr} {H H1 : Hp} {r : Fl} {D : Ends} (x : Ext ρ ρ1 H H1) (h : EIm X ρ H r D) : EIm X ρ1 H1 r D := by
  obtain ⟨a, b, c, d⟩ := EF.ext (X := X) (r := r) x
  exact ⟨fun τ' H' z => h.1 _ _ (a _ _ z), fun τ' H' z => h.2.1 _ _ (b _ _ z), fun τ' H' z => h.2.2.1 _ _ (c _ _ z), fun τ' H' z => h.2.2.2 _ _ (d _ _ z)⟩
def tbS (X : Cx) (S : Sv) (W : WX) : TS := fun D τ H => ∃ ρ e σ, RS X.prog X.w X.K X.mg ρ σ H ∧ RE X.K ρ H e τ ∧ S e σ ≠ .bad ∧ (∀ cls d τ' H', WF X ρ H (S e σ) cls d τ' H' → W cls d τ' H') ∧ EIm X ρ H (S e σ) D
theorem ds_try {M : List (Str × Str × Bool)} {body : List Stmt} {h₀ : ExceptHandler} {hds : List ExceptHandler} {hs : List (Str × Sv)} {S : Sv} {pos : Pos} (ok : MOk X.K X.mg M) (hb : ∀ (pn : List (Addr × Obj)) (xe : Value → Shared → Prop), PassesOwn (model X.prog X.w) X.A X.env xe → DSs (X.tr pn xe) body S)
    (hh : DHs X (h₀ :: hds) hs) (hst : X.stack = X.env :: X.outer := by rfl) (hf : X.env.frame = some X.env.locals := by rfl) : DS X (.Try body (h₀ :: hds) [] [] pos) (sTry M S hs) := by
  refine ⟨fun {pins s τ H ρ e σ} I h => ?_⟩
  obtain ⟨l, hl, hw⟩ := hds_mk ok hh
  have body' : ∀ (W : WX) (pn : List (Addr × Obj)) (xe : Value → Shared → Prop), Takes (X.tr pn xe) W → PassesOwn (model X.prog X.w) X.A X.env xe → PSs (X.tr pn xe) body (tbS X S W) := fun W pn xe tk own =>
    ⟨fun pins s τ H D I ⟨ρ, e, σ, rs, re, nb, wi, im⟩ => thn ((hb pn xe own).run ⟨I, rs, re⟩ ⟨nb, tk.imp wi⟩) fun f s1 g => sp_imp g im.1 im.2.1 im.2.2.1 im.2.2.2⟩
  refine (ps_try_many (Wout := WF X ρ H (sTry M S hs e σ)) (tb := tbS X S) hst hf h.tk body' hl).run pins s τ H (EF X ρ H (sTry M S hs e σ)) I.inv ⟨ρ, e, σ, I.rs, I.re, ?_, ?_, ?_⟩
  · exact fun z => h.nb (by unfold sTry; rw [z])
  · rintro cls d τ' H' ⟨c, e', σ', ρ', q, x, rs, re, ei⟩
    have eq : sTry M S hs e σ = hMany M hs c e' σ' := by unfold sTry; rw [q]
    rw [eq] at h ⊢
    refine hw _ _ c e' σ' ρ' τ' H' cls d rs re ei h.nb (eim_ext x ⟨fun _ _ z => z, fun _ _ z => z, fun _ _ z => z, fun _ _ z => z⟩) fun c2 e2 σ2 q2 ⟨h1, h2, h3⟩ => ?_
    subst h1 h2 h3
    exact ⟨c2, e2, σ2, ρ', q2, x, rs, re, ei⟩
  · have key : ∀ r, S e σ = r → (∀ c e' σ', r ≠ .exc c e' σ') → sTry M S hs e σ = r := fun r q nx => by
      unfold sTry; rw [q]; cases r with
      | exc c e' σ' => exact absurd rfl (nx c e' σ')
      | _ => rfl
    refine ⟨fun τ' H' ⟨e', σ', ρ', q, z⟩ => ⟨e', σ', ρ', key _ q (fun _ _ _ z => nomatch z), z⟩, fun τ' H' ⟨e', σ', ρ', q, z⟩ => ⟨e', σ', ρ', key _ q (fun _ _ _ z => nomatch z), z⟩, fun τ' H' ⟨e', σ', ρ', q, z⟩ => ⟨e', σ', ρ', key _ q (fun _ _ _ z => nomatch z), z⟩, fun τ' H' ⟨e', σ', ρ', q, z⟩ => ⟨e', σ', ρ', key _ q (fun _ _ _ z => nomatch z), z⟩⟩
theorem Good.tr (g : Good X) (pn : List (Addr × Obj)) (xe : Value → Shared → Prop) (own : PassesOwn (model X.prog X.w) X.A X.env xe) : Good (X.tr pn xe) := ⟨g.calm, g.nd, g.un, own⟩
/-- == where anything may be handled -/
theorem op_eqU (hu : X.A.units + 64 < cLine) : Op2 X (compareOp .Eq) eqD := by
  intro pins s τ H ρ e σ x y vx vy ux uy I rx rvx ry rvy h
  obtain ⟨b, hb, e1⟩ := bD_nb h.nb
  show wpAny _ _ _ (EP X pins τ (GD X ρ H (bD eqB x y σ))) _ _
  rw [e1]
  obtain ⟨hf, e2⟩ := some_if hb
  simp only [Bool.and_eq_true] at hf
  exact L2.op_eqD hu pins s τ H _ _ ux uy _ I.inv rvx rvy ⟨_, _, view_dp I.rs rx hf.1, view_dp I.rs ry hf.2, shaped_of hf.1, shaped_of hf.2, by rw [e2]; exact gd_ok I rfl⟩
end
end Lb

set_option Elab.async false
set_option linter.all false
set_option maxRecDepth 100000
set_option maxHeartbeats 4000000
namespace Lb
namespace WS
open PySem PySem.Spec PyProof.Rows L2
/-! ### tables of up to 512 slots: what is asked of a mask -/
structure Cyc (m : Nat) : Prop where
  kind : m = 7 ∨ m = 31 ∨ m = 127 ∨ m = 511
  hits : ∀ (x : Int) (j : Nat), j ≤ m → ∃ n, n ≤ m + 12 ∧ runI m (SetTable.bits x) n = j
theorem Cyc.of {m : Nat} (h : MaskOk m) : Cyc m := ⟨by rcases h with e | e | e <;> omega, fun x j hj => run_meets h x hj⟩
theorem Cyc.odd {m : Nat} (c : Cyc m) : m % 2 = 1 := by rcases c.kind with e | e | e | e <;> omega
theorem Cyc.cap {m : Nat} (c : Cyc m) : m ≤ 511 := by rcases c.kind with e | e | e | e <;> omega
/-- the round, told forwards -/
def orb (m : Nat) : Nat → Nat → List Nat
  | 0, _ => []
  | n + 1, x => x :: orb m n ((x * 5 + 1) % (m + 1))
theorem orb_lcg (m : Nat) : ∀ n a : Nat, orb m n (lcgN m a) = (List.range' a n).map (lcgN m)
  | 0, _ => rfl
  | n + 1, a => by
    rw [List.range'_succ, List.map_cons, ← orb_lcg m n (a + 1)]
    rfl
theorem all511 : ((List.range 512).all fun j => (orb 511 512 0).contains j) = true := by decide +kernel
theorem back511 : lcgN 511 512 = 0 := by decide +kernel
theorem again511 : ∀ k, lcgN 511 (512 + k) = lcgN 511 k
  | 0 => back511
  | k + 1 => congrArg (fun z => (z * 5 + 1) % 512) (again511 k)
theorem onto511 {j : Nat} (hj : j ≤ 511) : ∃ b, b < 512 ∧ lcgN 511 b = j := by
  have h := List.all_eq_true.mp all511 j (List.mem_range.mpr (by omega))
  have h1 : j ∈ orb 511 512 0 := by simpa using h
  have h2 : j ∈ orb 511 512 (lcgN 511 0) := h1
  rw [orb_lcg] at h2
  obtain ⟨b, hb, e⟩ := List.mem_map.mp h2
  exact ⟨b, by have := List.mem_range'_1.mp hb; omega, e⟩
theorem cyc511 : Cyc 511 where
  kind := by simp
  hits := fun x j hj => by
    obtain ⟨a, ha, ea⟩ := onto511 (runI_le 511 (SetTable.bits x) 12)
    obtain ⟨b, hb, eb⟩ := onto511 hj
    rcases Nat.lt_or_ge b a with c | c
    · refine ⟨12 + (b + 512 - a), by omega, ?_⟩
      rw [runI_tail (bits_lt x), ← ea, lcgN_add, show a + (b + 512 - a) = 512 + b by omega, again511, eb]
    · refine ⟨12 + (b - a), by omega, ?_⟩
      rw [runI_tail (bits_lt x), ← ea, lcgN_add, show a + (b - a) = b by omega, eb]
section
variable {m : Nat}
theorem Cyc.meets (c : Cyc m) (x : Int) {j : Nat} (hj : j ≤ m) : ∃ k, k < 10 * SetTable.turns m ∧ way m x k = j := by
  obtain ⟨n, hn, e⟩ := c.hits x j hj
  obtain ⟨k, hk, e2⟩ := run_nth m (SetTable.bits x) n
  refine ⟨k, by unfold SetTable.turns; omega, ?_⟩
  unfold way
  rw [e2]
  exact e
theorem way_in (m : Nat) (x : Int) (k : Nat) : way m x k ≤ m := by
  have h0 : SetTable.bits x % (m + 1) ≤ m := by have := Nat.mod_lt (SetTable.bits x) (show m + 1 > 0 by omega); omega
  obtain ⟨r1, r2, _⟩ := runEnd_bd h0
  have z : (runAt m (SetTable.bits x % (m + 1)) (SetTable.bits x)).j + (runAt m (SetTable.bits x % (m + 1)) (SetTable.bits x)).more ≤ m := by
    unfold runAt
    dsimp only
    omega
  have := nth_in k _ z
  unfold way
  omega
end
/-! ### the table's word -/
structure WTab (t : SetTable) (hs : List Int) : Prop where
  ris : Ris t.place.toList
  dm : t.dummies = #[]
  sz : t.place.size = hs.length
  cyc : Cyc t.mask
  bd : ∀ x ∈ t.place.toList, x ≤ t.mask
  reach : ∀ (i : Nat) (x : Int) (j : Nat), hs[i]? = some x → t.place.toList[i]? = some j → ∃ k, way t.mask x k = j ∧ ∀ l, l < k → way t.mask x l ∈ t.place.toList
section
variable {t : SetTable} {hs : List Int} {x : Int}
theorem WTab.len (T : WTab t hs) : t.place.toList.length = hs.length := by rw [Array.length_toList]; exact T.sz
theorem WTab.gap (T : WTab t hs) (hl : hs.length ≤ t.mask) (x : Int) : ∃ K, K < 10 * SetTable.turns t.mask ∧ way t.mask x K ∉ t.place.toList ∧ ∀ k, k < K → way t.mask x k ∈ t.place.toList := by
  obtain ⟨j, hj, hn⟩ := st_missing t.place.toList (t.mask + 1) (by rw [T.len]; omega)
  obtain ⟨k, hk, e⟩ := T.cyc.meets x (j := j) (by omega)
  obtain ⟨K, h1, h2, h3⟩ := st_least (p := fun i => way t.mask x i ∉ t.place.toList) k (by rw [e]; exact hn)
  exact ⟨K, by omega, h2, fun i hi => Classical.byContradiction fun z => h3 i hi z⟩
theorem WTab.ahead (T : WTab t hs) {K i j : Nat} (hK : way t.mask x K ∉ t.place.toList) (hi : hs[i]? = some x) (hj : t.place.toList[i]? = some j) : ∃ k, k < K ∧ way t.mask x k = j := by
  obtain ⟨k, e, hb⟩ := T.reach i x j hi hj
  refine ⟨k, Classical.byContradiction fun z => hK ?_, e⟩
  rcases Nat.eq_or_lt_of_le (Nat.le_of_not_lt z) with q | q
  · rw [q, e]; exact List.mem_of_getElem? hj
  · exact hb K q
/-- put in at the first gap -/
theorem WTab.insert (T : WTab t hs) {K j p : Nat} (ej : way t.mask x K = j) (ep : SetTable.below t.place j = p) (hK : j ∉ t.place.toList) (hb : ∀ k, k < K → way t.mask x k ∈ t.place.toList) :
    p ≤ hs.length ∧ WTab (t.put j).1 (hs.take p ++ x :: hs.drop p) ∧ (t.put j).1.fill = hs.length + 1 := by
  have cut := (below_cut T.ris j).1
  rw [ep] at cut
  have hp : p ≤ hs.length := by have := T.sz; omega
  have hp2 : p ≤ t.place.toList.length := by rw [T.len]; exact hp
  have pl : (t.put j).1.place.toList = t.place.toList.take p ++ j :: t.place.toList.drop p := by rw [put_place, ep]
  have size : (t.put j).1.place.size = hs.length + 1 := by rw [← Array.length_toList, pl, len_ins _ hp2, T.len]
  have sub : ∀ {y : Nat}, y ∈ t.place.toList → y ∈ (t.put j).1.place.toList := fun h => by rw [pl]; exact mem_ins.2 (.inr h)
  refine ⟨hp, ⟨?_, put_dm T.dm j, by rw [size, len_ins _ hp], T.cyc, fun y hy => ?_, fun i y q h1 h2 => ?_⟩, ?_⟩
  · exact ris_insert T.ris fun e => hK (List.mem_of_getElem? (by rw [Array.getElem?_toList]; exact e))
  · rw [pl] at hy
    rcases mem_ins.1 hy with z | z
    · rw [z, ← ej]; exact way_in _ _ _
    · exact T.bd y z
  · rw [tins_get hs hp] at h1
    rw [pl, tins_get _ hp2] at h2
    have old : ∀ i', hs[i']? = some y → t.place.toList[i']? = some q → ∃ k, way t.mask y k = q ∧ ∀ l, l < k → way t.mask y l ∈ (t.put j).1.place.toList := fun i' a b => by
      obtain ⟨k, e, z⟩ := T.reach i' y q a b
      exact ⟨k, e, fun l hl => sub (z l hl)⟩
    by_cases c : i < p
    · rw [if_pos c] at h1 h2
      exact old i h1 h2
    · by_cases d : i = p
      · rw [if_neg c, if_pos d] at h1 h2
        cases h1
        cases h2
        exact ⟨K, ej, fun l hl => sub (hb l hl)⟩
      · rw [if_neg c, if_neg d] at h1 h2
        exact old _ h1 h2
  · unfold SetTable.fill
    rw [size, put_dm T.dm j]
    rfl
end
/-! ### laid anew -/
section
variable {m : Nat} {ow : Array (Option Nat)} {done : List Int}
theorem free_at (c : Cyc m) (ow : Array (Option Nat)) (x : Int) {j : Nat} (hj : j ≤ m) (hf : oAt ow j = none) :
    ∃ K, SetTable.layClean.free m ow (SetTable.turns m) (SetTable.bits x % (m + 1)) (SetTable.bits x) = some (way m x K) ∧ oAt ow (way m x K) = none ∧ ∀ k, k < K → oAt ow (way m x k) ≠ none := by
  obtain ⟨n, hn, e⟩ := c.hits x j hj
  have at_n : way m x (off m (SetTable.bits x % (m + 1)) (SetTable.bits x) n) = j := by
    unfold way
    rw [nth_off, itL_run]
    exact e
  obtain ⟨K, k1, k2, k3⟩ := st_least (p := fun i => oAt ow (way m x i) = none) _ (by rw [at_n]; exact hf)
  refine ⟨K, free_spec m ow (SetTable.turns m) n _ _ K (by unfold SetTable.turns; omega) k1 (fun k hk => ?_) (by unfold way at k2; rw [k2]; rfl), k2, k3⟩
  have := k3 k hk
  unfold way at this
  cases z : oAt ow (nth m (runAt m (SetTable.bits x % (m + 1)) (SetTable.bits x)) k).j with
  | none => exact absurd z this
  | some _ => rfl
theorem own_next (c : Cyc m) (O : Own m done ow) (hl : done.length ≤ m) (x : Int) :
    ∃ j, SetTable.layClean.free m ow (SetTable.turns m) (SetTable.bits x % (m + 1)) (SetTable.bits x) = some j ∧ Own m (done ++ [x]) (ow.setIfInBounds j (some done.length)) := by
  obtain ⟨ps, hps, hin⟩ := O.ps
  obtain ⟨g, hg, hgn⟩ := st_missing ps (m + 1) (by omega)
  have free : oAt ow g = none := Classical.byContradiction fun z => hgn (hin g (by omega) z)
  obtain ⟨K, e1, e2, e3⟩ := free_at c ow x (j := g) (by omega) free
  generalize ej : way m x K = j at e1 e2
  have jm : j ≤ m := by rw [← ej]; exact way_in _ _ _
  have js : j < ow.size := by rw [O.sz]; omega
  have me := oAt_set_self (some done.length) js
  have keep : ∀ {i : Nat}, oAt ow i ≠ none → oAt (ow.setIfInBounds j (some done.length)) i ≠ none := fun {i} hi => by
    by_cases q : i = j
    · subst q; exact absurd e2 hi
    · rw [oAt_set_ne _ q]; exact hi
  refine ⟨j, e1, by rw [Array.size_setIfInBounds, O.sz], fun i k hi e => ?_, fun k hk => ?_, ⟨j :: ps, by simp [hps], fun i hi e => ?_⟩⟩
  · by_cases q : i = j
    · subst q
      rw [me] at e
      cases e
      exact ⟨x, K, by simp, ej, fun l hl => keep (e3 l hl)⟩
    · rw [oAt_set_ne _ q] at e
      obtain ⟨y, L, b1, b2, b3⟩ := O.at_ i k hi e
      exact ⟨y, L, by rw [List.getElem?_append_left (List.getElem?_eq_some_iff.mp b1).1]; exact b1, b2, fun l hl => keep (b3 l hl)⟩
  · rw [List.length_append, List.length_singleton] at hk
    by_cases q : k < done.length
    · obtain ⟨i, hi, e⟩ := O.all k q
      exact ⟨i, hi, by rw [oAt_set_ne _ fun z => by rw [z, e2] at e; cases e]; exact e⟩
    · exact ⟨j, jm, by rw [me, show k = done.length by omega]⟩
  · by_cases q : i = j
    · rw [q]; exact List.mem_cons_self
    · rw [oAt_set_ne _ q] at e
      exact List.mem_cons_of_mem _ (hin i hi e)
theorem lay_all (c : Cyc m) : ∀ (rest done : List Int) (ow : Array (Option Nat)), Own m done ow → done.length + rest.length ≤ m → ∃ ow', rest.foldl (stepF m) (some (ow, done.length)) = some (ow', (done ++ rest).length) ∧ Own m (done ++ rest) ow'
  | [], done, ow, O, _ => by
    rw [List.append_nil]
    exact ⟨ow, rfl, O⟩
  | x :: rest, done, ow, O, hl => by
    rw [List.length_cons] at hl
    obtain ⟨j, e, O2⟩ := own_next c O (by omega) x
    obtain ⟨ow', f, O3⟩ := lay_all c rest (done ++ [x]) _ O2 (by simp; omega)
    rw [List.append_assoc, List.singleton_append] at f O3
    refine ⟨ow', ?_, O3⟩
    rw [List.foldl_cons, stepF_some e, ← f]
    simp
theorem clean_ok (c : Cyc m) {hs : Array Int} (hn : hs.size ≤ m) : ∃ ow, SetTable.layClean m hs = some ow ∧ Own m hs.toList ow := by
  obtain ⟨ow, f, O⟩ := lay_all c hs.toList [] _ (Own.init m) (by simpa using hn)
  rw [List.nil_append] at O
  refine ⟨ow, ?_, O⟩
  rw [layClean_eq, show (some (Array.replicate (m + 1) none, 0) : Option (Array (Option Nat) × Nat)) = some (Array.replicate (m + 1) none, ([] : List Int).length) from rfl, f]
  rfl
/-- the new table -/
theorem anew (t : SetTable) {hs : Array Int} {wanted M : Nat} (hw : SetTable.sizeAbove wanted - 1 = M) (c : Cyc M) (hn : hs.size ≤ M) :
    ∃ t' order, t.relaid hs wanted = some (t', order) ∧ order.toList.Perm (List.range hs.size) ∧ WTab t' (order.toList.map fun i => hs.getD i 0) ∧ t'.mask = M ∧ t'.led = t.led ∧ t'.plain = t.plain := by
  obtain ⟨ow, e, O⟩ := clean_ok c hn
  have told : t.relaid hs wanted = some (tabOf t M ow, ((liveOf M ow).map (·.2)).toArray) := by rw [relaid_eq, hw, e]; rfl
  obtain ⟨up, inr⟩ : Ris ((liveOf M ow).map (·.1)) ∧ ∀ y ∈ (liveOf M ow).map (·.1), y ∈ List.range (M + 1) := ris_live (fun j => ow.getD j none) (List.range (M + 1)) (by unfold Ris; exact List.pairwise_lt_range)
  have each : ∀ k, k < hs.size → k ∈ (liveOf M ow).map (·.2) := fun k hk => by
    obtain ⟨j, b1, b2⟩ := O.all k (by simpa using hk)
    exact List.mem_map.mpr ⟨(j, k), (mem_live O.sz).2 ⟨b1, b2⟩, rfl⟩
  have many : (liveOf M ow).length = hs.size := by
    obtain ⟨ps, p1, p2⟩ := O.ps
    have nd : ((liveOf M ow).map (·.1)).Nodup := up.imp fun h => Nat.ne_of_lt h
    have h1 := nat_nodup_len ((liveOf M ow).map (·.1)) ps nd fun y hy => by
      obtain ⟨q, hq, rfl⟩ := List.mem_map.mp hy
      obtain ⟨b1, b2⟩ := (mem_live (k := q.2) O.sz).1 hq
      exact p2 _ b1 (by rw [b2]; simp)
    have h2 := nat_nodup_len (List.range hs.size) ((liveOf M ow).map (·.2)) List.nodup_range fun k hk => each k (List.mem_range.mp hk)
    simp only [List.length_map, List.length_range, p1, Array.length_toList] at h1 h2
    omega
  refine ⟨_, _, told, perm_range hs.size _ (by simpa using many) each, ⟨up, rfl, ?_, c, fun y hy => ?_, fun i y j h1 h2 => ?_⟩, rfl, rfl, rfl⟩
  · simp [tabOf]
  · have := List.mem_range.mp (inr y hy)
    show y ≤ M
    omega
  · have h1' : (((liveOf M ow).map (·.2)).map fun i => hs.getD i 0)[i]? = some y := h1
    have h2' : ((liveOf M ow).map (·.1))[i]? = some j := h2
    rw [List.map_map, List.getElem?_map] at h1'
    rw [List.getElem?_map] at h2'
    cases hq : (liveOf M ow)[i]? with
    | none => rw [hq] at h2'; cases h2'
    | some q =>
      rw [hq] at h1' h2'
      have ej : q.1 = j := Option.some.inj h2'
      have ey : hs.getD q.2 0 = y := Option.some.inj h1'
      obtain ⟨b1, b2⟩ := (mem_live O.sz).1 (List.mem_of_getElem? hq)
      obtain ⟨z, K, a1, a2, a3⟩ := O.at_ _ _ b1 b2
      have ez : z = y := by
        rw [← ey, Array.getD_eq_getD_getElem?, ← Array.getElem?_toList, a1]
        rfl
      subst ez
      rw [← ej]
      refine ⟨K, a2, fun l hl => ?_⟩
      show way M z l ∈ (liveOf M ow).map (·.1)
      cases o : oAt ow (way M z l) with
      | none => exact absurd o (a3 l hl)
      | some k2 => exact List.mem_map.mpr ⟨(way M z l, k2), (mem_live O.sz).2 ⟨way_in _ _ _, o⟩, rfl⟩
end
end WS
end Lb

set_option Elab.async false
set_option linter.all false
set_option maxRecDepth 100000
set_option maxHeartbeats 4000000
namespace Lb
namespace WS
open PySem PySem.Spec PyProof.Rows L2
/-! ### a set of tuples of ints, of up to 306 -/
structure WSet (P : Program) (w : World) (h : Heap) (a : Addr) (L : List (Addr × List Int)) (es : Array (Int × Value)) (ep : Nat) (t : SetTable) : Prop where
  ob : ∃ o, h.get? a = some o ∧ o.ExactSet ∧ o.data = .set es ep t
  rows : es.toList = rowsOf P w L
  tab : WTab t (L.map fun p => thash P w p.2)
  nd : (L.map (·.2)).Nodup
  tup : ∀ p ∈ L, IsT P w h p.2 p.1
  plain : t.plain = true
  led : w.params.followText "set-order" = true ∨ t.led = true
  room : L.length * 5 < t.mask * 3
theorem rows_size {P : Program} {w : World} {L : List (Addr × List Int)} {es : Array (Int × Value)} (h : es.toList = rowsOf P w L) : es.size = L.length := by
  rw [← Array.length_toList, h]
  simp [rowsOf]
section
variable {P : Program} {w : World} {A : Around} {E : Value → Shared → Prop} {s : Shared} {a : Addr} {L : List (Addr × List Int)} {es : Array (Int × Value)} {ep : Nat} {t : SetTable}
theorem WSet.size (R : WSet P w s.heap a L es ep t) : es.size = L.length := rows_size R.rows
theorem fits_of {n : Nat} (h1 : t.place.size = n) (h2 : t.dummies = #[]) (h3 : n ≤ t.mask) : t.fits n = true := by
  unfold SetTable.fits SetTable.fill
  rw [h1, h2]
  simpa using h3
theorem WSet.fits (R : WSet P w s.heap a L es ep t) : t.fits es.size = true := by
  have h1 := R.tab.sz
  rw [List.length_map] at h1
  have := R.room
  exact fits_of (h1.trans R.size.symm) R.tab.dm (by rw [R.size]; omega)
theorem WSet.entry (R : WSet P w s.heap a L es ep t) {i : Nat} {p : Addr × List Int} (h : L[i]? = some p) : es[i]? = some (thash P w p.2, Value.ref p.1) := by
  rw [← Array.getElem?_toList, R.rows]
  simp [rowsOf, h]
theorem WSet.sound (R : WSet P w s.heap a L es ep t) : ¬ t.gaveWay = true := by
  unfold SetTable.gaveWay
  rw [R.tab.cyc.odd]
  decide
/-- the c-th place of the search -/
abbrev stp (t : SetTable) (x : Int) (c : Nat) : SetTable.Probe := nth t.mask (runAt t.mask (SetTable.bits x % (t.mask + 1)) (SetTable.bits x)) c
theorem stp_add (t : SetTable) (x : Int) (c q : Nat) : nth t.mask (stp t x c) q = stp t x (c + q) := (nth_add t.mask c _ q).symm
theorem stp_clear (t : SetTable) (x : Int) : ∀ c, (stp t x c).dummy = none
  | 0 => rfl
  | c + 1 => by
    have := stp_clear t x c
    unfold stp at this ⊢
    rw [nth_succ]
    unfold adv
    split <;> exact this
/-- the search, from its c-th place on -/
theorem look (R : WSet P w s.heap a L es ep t) {x : Addr} {k : List Int} (hx : IsT P w s.heap k x) (hu : A.units < cLine) {K : Nat} {y : Int} (ey : thash P w k = y) (hKf : K < 10 * SetTable.turns t.mask)
    (hK : way t.mask y K ∉ t.place.toList) (hKb : ∀ c, c < K → way t.mask y c ∈ t.place.toList) {Q : SetFound → Shared → Prop} (yes : k ∈ L.map (·.2) → Q (.there none) s) (no : k ∉ L.map (·.2) → Q (.free (way t.mask y K) false) s) :
    ∀ (f c : Nat) (st : Option SetTable.Probe), st.getD (t.probeStart y) = stp t y c → c ≤ K → K - c < f → (∀ (i : Nat) (p : Addr × List Int), L[i]? = some p → p.2 = k → ∃ d, c ≤ d ∧ d < K ∧ t.place.toList[i]? = some (way t.mask y d)) →
      wpAny (model P w) A (setSearchFrom a (.ref x) y true f st) Q E s
  | 0, _, _, _, _, hf, _ => absurd hf (by omega)
  | f + 1, c, st, hst, hc, hf, hre => by
    obtain ⟨o, ho, hex, hd⟩ := R.ob
    rw [setSearchFrom_succ]
    refine wpAny_bind (wpAny_setState_of ho hd R.fits ?_)
    dsimp only
    refine wp_if_neg R.sound ?_
    try refine wpAny_bind (wpAny_pure ?_)
    have hash_at : ∀ (i : Nat) (p : Addr × List Int), L[i]? = some p → (es[i]?.map (·.1)).getD 0 = thash P w p.2 := fun i p hp => by rw [R.entry hp]; rfl
    have slotOf : ∀ q, (nth t.mask (stp t y c) q).j = way t.mask y (c + q) := fun q => by rw [stp_add]
    rcases go_spec t R.tab.ris R.tab.dm (fun i => (es[i]?.map (·.1)).getD 0) y (10 * SetTable.turns t.mask) (K - c) (stp t y c) (stp_clear t y c) (by omega) (fun q hq => by rw [slotOf]; exact hKb _ (by omega)) (by rw [slotOf, show c + (K - c) = K by omega]; exact hK) with ⟨q, i, hq, hi, hh, hno, hpr⟩ | ⟨hno, hpr⟩
    · -- one of the same hash is met
      have told : t.probe (fun i => (es[i]?.map (·.1)).getD 0) y (st.getD (t.probeStart y)) = some (.candidate (way t.mask y (c + q)) i (stp t y (c + (q + 1)))) := by
        rw [hst, ← slotOf, ← stp_add]
        exact hpr
      rw [slotOf] at hi
      rw [told]
      dsimp only
      have il : i < L.length := by
        have h1 := (List.getElem?_eq_some_iff.mp hi).1
        rw [R.tab.len, List.length_map] at h1
        exact h1
      obtain ⟨p, hp⟩ : ∃ p, L[i]? = some p := ⟨_, List.getElem?_eq_getElem il⟩
      have pm : p ∈ L := List.mem_of_getElem? hp
      have onward : wpAny (model P w) A (searchRest a (.ref x) y true f es t (way t.mask y (c + q)) i (stp t y (c + (q + 1)))) Q E s := by
        unfold searchRest
        rw [R.entry hp]
        dsimp only
        refine wpAny_bind (wpAny_holding (wpAny_eqBool_tuple hu (R.tup p pm) hx ?_))
        refine wpAny_bind (wpAny_setState_of ho hd R.fits ?_)
        dsimp only
        by_cases same : p.2 = k
        · refine wp_if_pos (by simp [same]) ?_
          exact wpAny_pure (yes (List.mem_map.mpr ⟨p, pm, same⟩))
        · refine wp_if_neg (by simp [same]) ?_
          try refine wpAny_bind (wpAny_pure ?_)
          rw [sameMem]
          dsimp only
          have sl : t.slot (way t.mask y (c + q)) = .live i := slot_live R.tab.ris hi
          simp only [if_true, sl, R.entry hp]
          refine wpAny_bind (wpAny_isSame_ref_self (wpAny_bind (wpAny_pure ?_)))
          simp only [if_true]
          refine wp_if_neg (by simp [same]) ?_
          refine look R hx hu ey hKf hK hKb yes no f (c + (q + 1)) _ rfl (by omega) (by omega) fun i0 p0 h0 e0 => ?_
          obtain ⟨d, d1, d2, d3⟩ := hre i0 p0 h0 e0
          refine ⟨d, Classical.byContradiction fun z => ?_, d2, d3⟩
          by_cases lt : d < c + q
          · refine hno (d - c) i0 (by omega) (by rw [slotOf, show c + (d - c) = d by omega]; exact d3) ?_
            show (es[i0]?.map (·.1)).getD 0 = y
            rw [hash_at i0 p0 h0, e0, ey]
          · have ed : d = c + q := by omega
            rw [ed] at d3
            have sl0 := slot_live R.tab.ris d3
            rw [sl] at sl0
            cases sl0
            rw [hp] at h0
            cases h0
            exact same e0
      by_cases ld : t.led = true
      · refine wp_if_neg (by simp [ld]) ?_
        try refine wpAny_bind (wpAny_pure ?_)
        exact onward
      · refine wp_if_pos (by simp [ld]) ?_
        refine wpAny_bind (seen_tup hx (fun v hv => ?_) ?_)
        · obtain ⟨e, he, ev⟩ := List.mem_map.mp hv
          have he2 : e ∈ es.toList := by
            have : e ∈ es ∧ e.1 = y := by simpa using he
            simpa using this.1
          rw [R.rows] at he2
          obtain ⟨p2, hp2, e2⟩ := List.mem_map.mp he2
          exact ⟨p2.2, p2.1, by rw [← ev, ← e2], R.tup p2 hp2⟩
        · refine wp_if_neg (by decide) ?_
          try refine wpAny_bind (wpAny_pure ?_)
          exact onward
    · -- the gap
      have told : t.probe (fun i => (es[i]?.map (·.1)).getD 0) y (st.getD (t.probeStart y)) = some (.empty (way t.mask y K) none) := by
        rw [hst]
        have := hpr
        rw [slotOf, show c + (K - c) = K by omega] at this
        exact this
      rw [told]
      dsimp only
      refine wpAny_pure (no fun hm => ?_)
      obtain ⟨p0, m0, e0⟩ := List.mem_map.mp hm
      obtain ⟨i0, h0⟩ := List.mem_iff_getElem?.mp m0
      obtain ⟨d, d1, d2, d3⟩ := hre i0 p0 h0 e0
      refine hno (d - c) i0 (by omega) (by rw [slotOf, show c + (d - c) = d by omega]; exact d3) ?_
      show (es[i0]?.map (·.1)).getD 0 = y
      rw [hash_at i0 p0 h0, e0, ey]
theorem looked (R : WSet P w s.heap a L es ep t) {x : Addr} {k : List Int} (hx : IsT P w s.heap k x) (hu : A.units < cLine) {Q : SetFound → Shared → Prop} (yes : k ∈ L.map (·.2) → Q (.there none) s)
    (no : ∀ K, k ∉ L.map (·.2) → way t.mask (thash P w k) K ∉ t.place.toList → (∀ c, c < K → way t.mask (thash P w k) c ∈ t.place.toList) → Q (.free (way t.mask (thash P w k) K) false) s) :
    wpAny (model P w) A (setSearch a (.ref x) (thash P w k) true) Q E s := by
  have room := R.room
  have cap := R.tab.cyc.cap
  obtain ⟨K, hKf, hK, hKb⟩ := R.tab.gap (by rw [List.length_map]; omega) (thash P w k)
  have big : K < 100000 := by unfold SetTable.turns at hKf; omega
  unfold setSearch
  refine look R hx hu rfl hKf hK hKb yes (fun hn => no K hn hK hKb) 100000 0 none rfl (Nat.zero_le _) (by omega) fun i p hp e => ?_
  have hi : (L.map fun p => thash P w p.2)[i]? = some (thash P w k) := by rw [List.getElem?_map, hp, ← e]; rfl
  have il : i < t.place.toList.length := by
    rw [R.tab.len, List.length_map]
    exact (List.getElem?_eq_some_iff.mp hp).1
  have hj := List.getElem?_eq_getElem il
  obtain ⟨c, hc, ec⟩ := R.tab.ahead hK hi hj
  exact ⟨c, Nat.zero_le _, hc, by rw [hj, ec]⟩
/-- laid anew, wider -/
theorem wider {o : Obj} (ho : s.heap.get? a = some o) (hex : o.ExactSet) (hd : o.data = .set es ep t) (hrows : es.toList = rowsOf P w L) (hfit : t.fits es.size = true) (nd : (L.map (·.2)).Nodup) (tup : ∀ p ∈ L, IsT P w s.heap p.2 p.1)
    (pl : t.plain = true) (ld : w.params.followText "set-order" = true ∨ t.led = true) {wanted M : Nat} (hw : SetTable.sizeAbove wanted = M + 1) (c : Cyc M) (hn : L.length * 5 < M * 3) {Q : Unit → Shared → Prop}
    (hQ : ∀ h' L' es' ep' t', Heap.SameBut a s.heap h' → WSet P w h' a L' es' ep' t' → L'.Perm L → Q () { s with heap := h' }) : wpAny (model P w) A (setRelay a wanted) Q E s := by
  have cap := c.cap
  have sz := rows_size hrows
  have line : (100000 : Nat) < sizeLine := by decide
  obtain ⟨t', order, e, hp, T, em, el, epl⟩ := anew t (hs := es.map (·.1)) (wanted := wanted) (M := M) (by omega) c (by rw [Array.size_map, sz]; omega)
  rw [Array.size_map, sz] at hp
  obtain ⟨L2, r1, r2, r3⟩ := order_rows L es order hrows hp
  rw [← r3] at T
  have sz2 : (order.filterMap (es[·]?)).size = es.size := by rw [rows_size r1, r2.length_eq, sz]
  rw [setRelay_eq]
  refine wpAny_bind (wpAny_setState_of ho hd hfit ?_)
  dsimp only
  refine wp_if_neg (by rw [hw]; omega) ?_
  try refine wpAny_bind (wpAny_pure ?_)
  rw [e]
  dsimp only
  refine wpAny_bind ?_
  refine wp_if_neg (by rw [sz2]; simp) ?_
  try refine wpAny_bind (wpAny_pure ?_)
  refine wpAny_pure ?_
  dsimp only
  refine wpAny_storeSet_of ho hd ?_ (by rw [sz2, sz]; omega)
  have sb : Heap.SameBut a s.heap (s.heap.update a (Obj.putSet (order.filterMap (es[·]?)) t')) := Heap.SameBut.update ..
  exact hQ _ L2 _ (ep + 1) t' sb ⟨⟨_, store_at ho hd, ⟨hex.1, hex.2.1, hex.2.2⟩, rfl⟩, r1, T, (r2.map (·.2)).nodup_iff.mpr nd, fun p hpm => isT_same (tup p (r2.mem_iff.mp hpm)) ho hd sb, by rw [epl]; exact pl, by rw [el]; exact ld, by rw [r2.length_eq, em]; exact hn⟩ r2
theorem size_308 : SetTable.sizeAbove (SetTable.grown 77) = 512 := by decide +kernel
/-- one is added -/
theorem added (R : WSet P w s.heap a L es ep t) {x : Addr} {k : List Int} (hx : IsT P w s.heap k x) (hu : A.units < cLine) (few : L.length < 306) {Q : Bool → Shared → Prop}
    (hQ : ∀ b h' L' es' ep' t', Heap.SameBut a s.heap h' → WSet P w h' a L' es' ep' t' → (k ∈ L.map (·.2) → L' = L) → (k ∉ L.map (·.2) → L'.Perm ((x, k) :: L)) → Q b { s with heap := h' }) :
    wpAny (model P w) A (setAddHashed a (.ref x) (thash P w k)) Q E s := by
  obtain ⟨o, ho, hex, hd⟩ := R.ob
  have sz := R.size
  have room := R.room
  have line : (100000 : Nat) < sizeLine := by decide
  unfold setAddHashed
  refine wpAny_holding ?_
  rw [show (100000 : Nat) = 99999 + 1 from rfl, setAddHashedIn_succ]
  refine wpAny_bind (wpAny_setState_of ho hd R.fits ?_)
  dsimp only
  refine wp_if_neg (by simp [byScan, Value.scannable]) ?_
  try refine wpAny_bind (wpAny_pure ?_)
  refine wpAny_bind (looked R hx hu (fun hm => ?_) fun K hm hK hb => ?_)
  · dsimp only
    exact wpAny_pure (hQ false s.heap L es ep t (Heap.SameBut.refl a s.heap) R (fun _ => rfl) fun z => absurd hm z)
  · dsimp only
    refine wpAny_bind (wpAny_setState_of ho hd R.fits ?_)
    dsimp only
    generalize ej : way t.mask (thash P w k) K = j at hK
    generalize eb : SetTable.below t.place j = p
    obtain ⟨hp, T1, fl⟩ := R.tab.insert ej eb hK hb
    have snd : (t.put j).2 = p := eb
    have pl1 : (t.put j).1.plain = true := R.plain
    have mk1 : (t.put j).1.mask = t.mask := rfl
    have ld1 : w.params.followText "set-order" = true ∨ (t.put j).1.led = true := R.led
    generalize t.put j = pt at T1 fl snd pl1 mk1 ld1 ⊢
    obtain ⟨t1, p1⟩ := pt
    dsimp only at T1 fl snd pl1 mk1 ld1 ⊢
    subst snd
    first
      | (refine wpAny_bind ?_; refine wp_if_pos pl1 ?_; refine hashBy_tup hx ?_)
      | refine wp_if_pos pl1 (wpAny_bind (hashBy_tup hx ?_))
    simp only [if_true]
    have rows1 : (SetTable.insertAt es p1 (thash P w k, Value.ref x)).toList = rowsOf P w (L.take p1 ++ (x, k) :: L.drop p1) := by rw [SetTable.toList_insertAt, rows_put, R.rows]
    have hashes : (L.take p1 ++ (x, k) :: L.drop p1).map (fun p => thash P w p.2) = (L.map fun p => thash P w p.2).take p1 ++ thash P w k :: (L.map fun p => thash P w p.2).drop p1 := by simp
    rw [← hashes] at T1
    have pm := put_perm L p1 (x, k)
    generalize SetTable.insertAt es p1 (thash P w k, Value.ref x) = es1 at rows1 ⊢
    generalize L.take p1 ++ (x, k) :: L.drop p1 = L1 at pm T1 rows1
    have len1 : L1.length = L.length + 1 := pm.length_eq
    have sz1 := rows_size rows1
    have nd1 : (L1.map (·.2)).Nodup := (pm.map (·.2)).nodup_iff.mpr (List.nodup_cons.mpr ⟨hm, R.nd⟩)
    refine wpAny_bind (wpAny_storeSet_of ho hd ?_ (by omega))
    have sb : Heap.SameBut a s.heap (s.heap.update a (Obj.putSet es1 t1)) := Heap.SameBut.update ..
    have ho1 := store_at (es' := es1) (t' := t1) ho hd
    generalize s.heap.update a (Obj.putSet es1 t1) = h1 at sb ho1 ⊢
    have tup1 : ∀ q ∈ L1, IsT P w h1 q.2 q.1 := fun q hq => by
      rcases List.mem_cons.mp (pm.mem_iff.mp hq) with e | hq
      · rw [e]; exact isT_same hx ho hd sb
      · exact isT_same (R.tup q hq) ho hd sb
    have place1 : t1.place.size = es1.size := by rw [T1.sz, List.length_map, sz1]
    have fill1 : t1.fill = L.length + 1 := by rw [fl, List.length_map]
    by_cases full : t1.tooFull = true
    · first
        | (refine wpAny_bind ?_; refine wp_if_pos (by simp [full]) ?_)
        | (refine wp_if_pos (by simp [full]) ?_; refine wpAny_bind ?_)
      have much : (L.length + 1) * 5 ≥ t.mask * 3 := by
        have h := full
        unfold SetTable.tooFull at h
        rw [decide_eq_true_eq, fill1, mk1] at h
        exact h
      rw [sz]
      have relay : ∀ M, SetTable.sizeAbove (SetTable.grown (L.length + 1)) = M + 1 → Cyc M → (L.length + 1) * 5 < M * 3 →
          wpAny (model P w) A (setRelay a (SetTable.grown (L.length + 1))) (fun _ s' => wpAny (model P w) A (pure true) Q E s') E { s with heap := h1 } := fun M b1 b2 b3 => by
        refine wider (s := { s with heap := h1 }) ho1 ⟨hex.1, hex.2.1, hex.2.2⟩ rfl rows1 (fits_of place1 T1.dm (by rw [sz1, len1, mk1]; omega)) nd1 tup1 pl1 ld1 b1 b2 (by rw [len1]; exact b3) ?_
        intro h2 L2 es2 ep2 t2 sb2 R2 pm2
        exact wpAny_pure (hQ true h2 L2 es2 ep2 t2 (sb.trans sb2) R2 (fun z => absurd z hm) fun _ => pm2.trans pm)
      rcases R.tab.cyc.kind with e | e | e | e
      · have e4 : L.length + 1 = 5 := by omega
        exact relay 31 (by rw [e4, size_20]) (Cyc.of (.inr (.inl rfl))) (by omega)
      · have e4 : L.length + 1 = 19 := by omega
        exact relay 127 (by rw [e4, size_76]) (Cyc.of (.inr (.inr rfl))) (by omega)
      · have e4 : L.length + 1 = 77 := by omega
        exact relay 511 (by rw [e4, size_308]) cyc511 (by omega)
      · omega
    · first
        | refine wp_if_neg (by simp [full]) ?_
        | (refine wpAny_bind ?_; refine wp_if_neg (by simp [full]) ?_; refine wpAny_pure ?_)
      have h := full
      unfold SetTable.tooFull at h
      rw [decide_eq_true_eq, fill1] at h
      exact wpAny_pure (hQ true h1 L1 es1 (ep + 1) t1 sb ⟨⟨_, ho1, ⟨hex.1, hex.2.1, hex.2.2⟩, rfl⟩, rows1, T1, nd1, tup1, pl1, ld1, by rw [len1]; omega⟩ (fun z => absurd z hm) fun _ => pm)
end
end WS
end Lb

set_option Elab.async false
set_option linter.all false
set_option maxRecDepth 100000
set_option maxHeartbeats 4000000
namespace Lb
namespace WS
open PySem PySem.Spec PyProof.Rows L2
/-! ### set(xs), xs a list or a tuple of tuples of ints -/
section
variable {P : Program} {w : World} {A : Around} {E : Value → Shared → Prop} {s : Shared}
theorem WSet.kept {h h' : Heap} {a : Addr} {L : List (Addr × List Int)} {es : Array (Int × Value)} {ep : Nat} {t : SetTable} (R : WSet P w h a L es ep t) (ha : ∀ o, h.get? a = some o → h'.get? a = some o) (ht : ∀ p ∈ L, IsT P w h' p.2 p.1) : WSet P w h' a L es ep t := by
  obtain ⟨o, ho, r⟩ := R.ob
  exact { R with ob := ⟨o, ha o ho, r⟩, tup := ht }
abbrev noSet (w : World) : Obj := { cls := .type "set", dict := none, data := .set #[] 0 (.fresh 0 0 (!w.params.followText "set-order")) }
theorem wset_none {h : Heap} {a : Addr} (ho : h.get? a = some (noSet w)) : WSet P w h a [] #[] 0 (.fresh 0 0 (!w.params.followText "set-order")) where
  ob := ⟨_, ho, ⟨rfl, rfl, rfl⟩, rfl⟩
  rows := rfl
  tab := ⟨.nil, rfl, rfl, Cyc.of (.inl rfl), (fun x hx => by cases hx), (fun i x j hi => by simp at hi)⟩
  nd := .nil
  tup := fun p hp => by cases hp
  plain := rfl
  led := by cases q : w.params.followText "set-order" <;> simp [SetTable.fresh]
  room := by show 0 * 5 < 7 * 3; decide
/-- the loop of update -/
theorem update_all {I : Addr} {fp wr : List Addr} {G : Array GenState → Array GenState → Prop} {n : Nat} {Pv : Nat → Value → Prop} {St : Nat → Shared → Prop} {R : Result → Shared → Prop} (W : WalksS P w A.in1 I fp wr G n Pv St) (S : Addr) (free : S ∉ fp)
    (ks : List (Addr × List Int)) (en : n = ks.length) (few : ks.length ≤ 306) (val : ∀ i v, Pv i v → ∃ p, ks[i]? = some p ∧ v = .ref p.1) (h0 : Heap) (tk : ∀ p ∈ ks, IsT P w h0 p.2 p.1) (hS : h0.get? S = none) (hwr : ∀ b ∈ wr, h0.get? b = none) (hu : A.in1.units < cLine) :
    ∀ (m i : Nat) (s : Shared), i + m = n → St i s → (∀ b o, h0.get? b = some o → s.heap.get? b = some o) → (∃ L es ep t, WSet P w s.heap S L es ep t ∧ Got ks i L) →
      (∀ s' L es ep t, Moved (S :: wr) G s s' → WSet P w s'.heap S L es ep t → Got ks n L → (∀ b o, h0.get? b = some o → s'.heap.get? b = some o) → R (.ok (.ret .none)) s') →
      codeAny (model P w) A (.builtin "set.update.loop" ⟨[.ref S, .ref I], []⟩) R s := by
  have Sw : S ∉ wr := fun h => free (W.sub _ h)
  have up : ∀ b ∈ wr, b ∈ S :: wr := fun b hb => List.mem_cons_of_mem _ hb
  have hold : ∀ {s s' : Shared}, Moved wr G s s' → (∀ b o, h0.get? b = some o → s.heap.get? b = some o) → ∀ b o, h0.get? b = some o → s'.heap.get? b = some o := fun mv k b o e => mv.heap b o (fun z => by rw [hwr b z] at e; cases e) (k b o e)
  intro m
  induction m with
  | zero =>
    intro i s im st k ⟨L, es, ep, t, hL, g⟩ fin
    obtain rfl : i = n := by omega
    refine codeAny_builtin F.entry_set_update_loop ?_
    rw [Around.under_plainId F.plain_set_update_loop _]
    show wpAny _ A.in1 (pyNext (.ref I) >>= _) _ _ s
    refine wpAny_bind (W.done s _ _ st fun s' mv => ?_)
    show wpAny _ A.in1 (ret Value.none) _ _ s'
    have k' := hold mv k
    exact wpAny_pure (fin s' L es ep t (mv.mono up) (hL.kept (fun o e => mv.heap S o Sw e) fun p hp => isT_keep (tk p (List.mem_of_mem_take (g.sub p hp))) k') g k')
  | succ m ih =>
    intro i s im st k ⟨L, es, ep, t, hL, g⟩ fin
    refine codeAny_builtin F.entry_set_update_loop ?_
    rw [Around.under_plainId F.plain_set_update_loop _]
    show wpAny _ A.in1 (pyNext (.ref I) >>= _) _ _ s
    refine wpAny_bind (W.item i s _ _ (by omega) st fun v s' pv st' mv => ?_)
    obtain ⟨p, hp, rfl⟩ := val i v pv
    have k' := hold mv k
    have hL' := hL.kept (h' := s'.heap) (fun o e => mv.heap S o Sw e) fun q hq => isT_keep (tk q (List.mem_of_mem_take (g.sub q hq))) k'
    have hx : IsT P w s'.heap p.2 p.1 := isT_keep (tk p (List.mem_of_getElem? hp)) k'
    have ik : i < ks.length := (List.getElem?_eq_some_iff.mp hp).1
    show wpAny _ A.in1 (holding [Value.ref p.1] (setAdd S (.ref p.1)) >>= _) _ _ s'
    refine wpAny_bind (wpAny_holding ?_)
    unfold setAdd
    refine wpAny_holding ?_
    refine wpAny_bind (wpAny_pyHash_tuple hu hx ?_)
    refine added (s := { s' with toks := s'.toks + (p.2.length + 1) }) hL' hx hu (by have := g.len; omega) fun b h' L2 es2 ep2 t2 sb hL2 c1 c2 => ?_
    have g2 : Got ks (i + 1) L2 := by
      by_cases c : p.2 ∈ L.map (·.2)
      · rw [c1 c]; exact g.same hp c
      · exact g.more hp (c2 c)
    have k2 : ∀ b o, h0.get? b = some o → h'.get? b = some o := fun b o e => (sb.2 b fun z => by rw [z, hS] at e; cases e).trans (k' b o e)
    refine wpAny_pure ⟨plainId_quiet F.plain_set_update_loop _, ih (i + 1) _ (by omega) (W.frame _ s' _ _ st' (Nat.le_add_right _ _) fun b hb o e => ?_) k2 ⟨L2, es2, ep2, t2, hL2, g2⟩ fun s3 L3 es3 ep3 t3 mv3 hL3 g3 k3 => ?_⟩
    · rw [sb.2 b fun z : b = S => free (z ▸ hb)]; exact e
    · refine fin s3 L3 es3 ep3 t3 (Moved.trans W.gtrans ((mv.mono up).then_heap (Nat.le_add_right _ _) fun b o hb e => ?_) mv3) hL3 g3 k3
      rw [sb.2 b fun z : b = S => hb (z ▸ List.mem_cons_self)]; exact e

set_option maxHeartbeats 3200000 in
theorem set_of_list {l : Addr} {items : Array Value} (ks : List (Addr × List Int)) {Q : Value → Shared → Prop} (cold : A.handled = none) (hl : s.heap.IsList l items) (each : items.toList = ks.map fun p => Value.ref p.1) (tk : ∀ p ∈ ks, IsT P w s.heap p.2 p.1) (few : ks.length ≤ 306) (hu : A.units + 3 < cLine)
    (fin : ∀ (h' : Heap) (tk : Nat) L es ep t, WSet P w h' s.heap.objs.size L es ep t → Got ks ks.length L → (∀ b o, s.heap.get? b = some o → h'.get? b = some o) → Q (.ref s.heap.objs.size) { s with heap := h', toks := tk }) :
    wpAny (model P w) A (call (.type "set") [.ref l]) Q E s := by
  have many : items.size = ks.length := by rw [← Array.length_toList, each, List.length_map]
  obtain ⟨cc, tl, hmro⟩ := F.called_set.mro
  have g1 := F.called_set.made
  have g2 := F.called_set.sub
  refine wpAny_call (codeAny_of_tree ?_)
  show wpAny _ _ (callAny (.type "set") _) _ _ _
  refine wpAny_pure ⟨Code.quiet_builtin _ (by decide +kernel), codeAny_builtin F.entry_type_call ?_⟩
  rw [Around.under_plain (weight_type_call_type "set" [.ref l] []) rfl]
  have g3 := F.called_set.notType
  have g4 := F.called_set.canCreate
  have g5 := F.typeCall_set_1 (.ref l)
  repeat (any_goals (first | assumption | wp_step))
  refine codeAny_mono (code_set_led1 (.ref l) (E := E) (Q₁ := fun ob s1 => ob = .ref s.heap.objs.size ∧ s1 = { s with heap := s.heap.push (noSet w) }) ⟨rfl, rfl⟩) fun r s1 hr => ?_
  cases r with
  | error e => exact hr
  | ok fl =>
    cases fl with
    | ret ob =>
      obtain ⟨rfl, rfl⟩ := hr
      have at_S : (s.heap.push (noSet w)).get? s.heap.objs.size = some (noSet w) := Heap.get?_push_size _ rfl
      have ty : Shared.TypeIs { s with heap := s.heap.push (noSet w) } (.ref s.heap.objs.size) "set" := ⟨_, at_S, rfl⟩
      have g6 := F.called_set.init.lookup
      have g7 := F.called_set.init.bind (.ref s.heap.objs.size)
      repeat (any_goals (first | assumption | wp_step))
      refine codeAny_mono (codeAny_call_builtin (R := wants (fun r s2 => r = .none ∧ ∃ h' tk L es ep t, s2 = { s with heap := h', toks := tk } ∧ WSet P w h' s.heap.objs.size L es ep t ∧ Got ks ks.length L ∧ (∀ b o, s.heap.get? b = some o → h'.get? b = some o)) E) F.called_set.init.plain F.entry_set_init (check_set_init_1 ty ?_)) fun r2 s2 hr2 => ?_
      · obtain ⟨⟨oc, od, oda, osl⟩, at_l, c1, nl, d1⟩ := hl
        simp only at c1 d1
        subst c1 d1
        have at_l' : (s.heap.push (noSet w)).get? l = some { cls := .type "list", dict := od, data := .seq items nl, slots := osl } := Heap.get?_push_of_some _ at_l
        have f1 := F.sub_list_set
        have f2 := F.sub_list_frozenset
        have f3 : (Value.type "list" == Value.type "dict") = false := by decide
        have seen : (s.heap.push (noSet w)).IsList l items := ⟨_, at_l', rfl, nl, rfl⟩
        unfold Builtin.«set.__init__» noKeywords Builtin.Frozenset.updateFrom
        generalize hPI : pyIter = PI
        wp_walk
        subst hPI
        refine wpAny_pyIter_list seen ?_
        refine wpAny_bind (wpAny_runValue ?_)
        have low : l < s.heap.objs.size := Heap.lt_size at_l
        have size1 : (s.heap.push (noSet w)).objs.size = s.heap.objs.size + 1 := Heap.size_push ..
        have gone : ∀ b, s.heap.objs.size ≤ b → s.heap.get? b = none := fun b hb => by
          cases q : s.heap.get? b with
          | none => rfl
          | some o => exact absurd (Heap.lt_size q) (Nat.not_lt.mpr hb)
        refine update_all ((Walks.list (A := A.in1.in1.in1) (by simp [cold]) _ l (by rw [size1]; exact Nat.ne_of_lt (Nat.lt_succ_of_lt low)) items).toS) s.heap.objs.size (by rw [size1]; simp only [List.mem_cons, List.not_mem_nil, or_false, not_or]; exact ⟨Nat.ne_of_lt (Nat.lt_succ_self _), Nat.ne_of_gt low⟩) ks many few (fun i v hv => ?_) s.heap tk (gone _ (Nat.le_refl _)) (fun b hb => gone b (by rw [List.mem_singleton.mp hb, size1]; exact Nat.le_succ _)) hu items.size 0 _ (by omega)
          ⟨⟨_, Heap.get?_push_size _ rfl, rfl, rfl⟩, seen.push _⟩ (fun b o e => Heap.get?_push_of_some _ (Heap.get?_push_of_some _ e)) ⟨[], #[], 0, _, wset_none (Heap.get?_push_of_some _ at_S), Got.zero ks⟩ ?_
        · have q : items.toList[i]? = some v := by rw [Array.getElem?_toList]; exact hv
          rw [each, List.getElem?_map] at q
          cases z : ks[i]? with
          | none => rw [z] at q; cases q
          | some p => rw [z] at q; exact ⟨p, rfl, (Option.some.inj q).symm⟩
        · intro s3 L es ep t mv hL g k
          obtain ⟨h3, ge, dr, tk3, os3⟩ := s3
          obtain rfl : ge = s.gens := mv.gens
          obtain rfl : dr = s.drawn := mv.drawn
          obtain rfl : os3 = s.os := mv.os
          show wpAny _ _ _ _ _ _
          refine wpAny_pure ?_
          show wpAny _ _ (ret Value.none) _ _ _
          rw [many] at g
          exact wpAny_pure ⟨rfl, h3, tk3, L, es, ep, t, rfl, hL, g, k⟩
      · cases r2 with
        | error e => exact hr2
        | ok fl2 =>
          cases fl2 with
          | ret r =>
            obtain ⟨rfl, h', tk', L, es, ep, t, rfl, hL, g, k⟩ := hr2
            repeat (any_goals (first | assumption | wp_step))
            exact fin _ _ _ _ _ _ hL g k
          | _ => exact hr2.elim
    | _ => exact hr.elim

set_option maxHeartbeats 3200000 in
theorem set_of_tuple {l : Addr} {items : Array Value} (ks : List (Addr × List Int)) {Q : Value → Shared → Prop} (cold : A.handled = none) (hl : s.heap.IsTuple l items) (each : items.toList = ks.map fun p => Value.ref p.1) (tk : ∀ p ∈ ks, IsT P w s.heap p.2 p.1) (few : ks.length ≤ 306) (hu : A.units + 3 < cLine)
    (fin : ∀ (h' : Heap) (tk : Nat) L es ep t, WSet P w h' s.heap.objs.size L es ep t → Got ks ks.length L → (∀ b o, s.heap.get? b = some o → h'.get? b = some o) → Q (.ref s.heap.objs.size) { s with heap := h', toks := tk }) :
    wpAny (model P w) A (call (.type "set") [.ref l]) Q E s := by
  have many : items.size = ks.length := by rw [← Array.length_toList, each, List.length_map]
  obtain ⟨cc, tl, hmro⟩ := F.called_set.mro
  have g1 := F.called_set.made
  have g2 := F.called_set.sub
  refine wpAny_call (codeAny_of_tree ?_)
  show wpAny _ _ (callAny (.type "set") _) _ _ _
  refine wpAny_pure ⟨Code.quiet_builtin _ (by decide +kernel), codeAny_builtin F.entry_type_call ?_⟩
  rw [Around.under_plain (weight_type_call_type "set" [.ref l] []) rfl]
  have g3 := F.called_set.notType
  have g4 := F.called_set.canCreate
  have g5 := F.typeCall_set_1 (.ref l)
  repeat (any_goals (first | assumption | wp_step))
  refine codeAny_mono (code_set_led1 (.ref l) (E := E) (Q₁ := fun ob s1 => ob = .ref s.heap.objs.size ∧ s1 = { s with heap := s.heap.push (noSet w) }) ⟨rfl, rfl⟩) fun r s1 hr => ?_
  cases r with
  | error e => exact hr
  | ok fl =>
    cases fl with
    | ret ob =>
      obtain ⟨rfl, rfl⟩ := hr
      have at_S : (s.heap.push (noSet w)).get? s.heap.objs.size = some (noSet w) := Heap.get?_push_size _ rfl
      have ty : Shared.TypeIs { s with heap := s.heap.push (noSet w) } (.ref s.heap.objs.size) "set" := ⟨_, at_S, rfl⟩
      have g6 := F.called_set.init.lookup
      have g7 := F.called_set.init.bind (.ref s.heap.objs.size)
      repeat (any_goals (first | assumption | wp_step))
      refine codeAny_mono (codeAny_call_builtin (R := wants (fun r s2 => r = .none ∧ ∃ h' tk L es ep t, s2 = { s with heap := h', toks := tk } ∧ WSet P w h' s.heap.objs.size L es ep t ∧ Got ks ks.length L ∧ (∀ b o, s.heap.get? b = some o → h'.get? b = some o)) E) F.called_set.init.plain F.entry_set_init (check_set_init_1 ty ?_)) fun r2 s2 hr2 => ?_
      · obtain ⟨⟨oc, od, oda, osl⟩, at_l, c1, nl, d1⟩ := hl
        simp only at c1 d1
        subst c1 d1
        have at_l' : (s.heap.push (noSet w)).get? l = some { cls := .type "tuple", dict := od, data := .seq items nl, slots := osl } := Heap.get?_push_of_some _ at_l
        have f1 := F.sub_tuple_set
        have f2 := F.sub_tuple_frozenset
        have f3 : (Value.type "tuple" == Value.type "dict") = false := by decide
        have seen : (s.heap.push (noSet w)).IsTuple l items := ⟨_, at_l', rfl, nl, rfl⟩
        unfold Builtin.«set.__init__» noKeywords Builtin.Frozenset.updateFrom
        generalize hPI : pyIter = PI
        wp_walk
        subst hPI
        refine wpAny_pyIter_tuple seen ?_
        refine wpAny_bind (wpAny_runValue ?_)
        have low : l < s.heap.objs.size := Heap.lt_size at_l
        have size1 : (s.heap.push (noSet w)).objs.size = s.heap.objs.size + 1 := Heap.size_push ..
        have gone : ∀ b, s.heap.objs.size ≤ b → s.heap.get? b = none := fun b hb => by
          cases q : s.heap.get? b with
          | none => rfl
          | some o => exact absurd (Heap.lt_size q) (Nat.not_lt.mpr hb)
        refine update_all ((Walks.tuple (A := A.in1.in1.in1) (by simp [cold]) _ l (by rw [size1]; exact Nat.ne_of_lt (Nat.lt_succ_of_lt low)) items).toS) s.heap.objs.size (by rw [size1]; simp only [List.mem_cons, List.not_mem_nil, or_false, not_or]; exact ⟨Nat.ne_of_lt (Nat.lt_succ_self _), Nat.ne_of_gt low⟩) ks many few (fun i v hv => ?_) s.heap tk (gone _ (Nat.le_refl _)) (fun b hb => gone b (by rw [List.mem_singleton.mp hb, size1]; exact Nat.le_succ _)) hu items.size 0 _ (by omega)
          ⟨⟨_, Heap.get?_push_size _ rfl, rfl, rfl⟩, seen.push _⟩ (fun b o e => Heap.get?_push_of_some _ (Heap.get?_push_of_some _ e)) ⟨[], #[], 0, _, wset_none (Heap.get?_push_of_some _ at_S), Got.zero ks⟩ ?_
        · have q : items.toList[i]? = some v := by rw [Array.getElem?_toList]; exact hv
          rw [each, List.getElem?_map] at q
          cases z : ks[i]? with
          | none => rw [z] at q; cases q
          | some p => rw [z] at q; exact ⟨p, rfl, (Option.some.inj q).symm⟩
        · intro s3 L es ep t mv hL g k
          obtain ⟨h3, ge, dr, tk3, os3⟩ := s3
          obtain rfl : ge = s.gens := mv.gens
          obtain rfl : dr = s.drawn := mv.drawn
          obtain rfl : os3 = s.os := mv.os
          show wpAny _ _ _ _ _ _
          refine wpAny_pure ?_
          show wpAny _ _ (ret Value.none) _ _ _
          rw [many] at g
          exact wpAny_pure ⟨rfl, h3, tk3, L, es, ep, t, rfl, hL, g, k⟩
      · cases r2 with
        | error e => exact hr2
        | ok fl2 =>
          cases fl2 with
          | ret r =>
            obtain ⟨rfl, h', tk', L, es, ep, t, rfl, hL, g, k⟩ := hr2
            repeat (any_goals (first | assumption | wp_step))
            exact fin _ _ _ _ _ _ hL g k
          | _ => exact hr2.elim
    | _ => exact hr.elim
end
end WS
end Lb

set_option Elab.async false
set_option linter.all false
set_option maxRecDepth 100000
set_option maxHeartbeats 4000000
namespace Lb
namespace WS
open PySem PySem.Spec PyProof.Rows L2
/-! ### sorted(set), the set as an object of the store -/
theorem perm_map {α β : Type} (f : α → β) : ∀ {out m : List β}, out.Perm m → ∀ L : List α, m = L.map f → ∃ L1 : List α, L1.Perm L ∧ out = L1.map f := by
  intro out m h
  induction h with
  | nil => exact fun L e => ⟨L, .refl _, e⟩
  | cons x _ ih =>
    intro L e
    cases L with
    | nil => cases e
    | cons a L =>
      cases e
      obtain ⟨L1, p, q⟩ := ih L rfl
      exact ⟨a :: L1, p.cons a, by rw [q]; rfl⟩
  | swap x y _ =>
    intro L e
    match L, e with
    | a :: b :: L, e =>
      cases e
      exact ⟨b :: a :: L, .swap a b L, rfl⟩
  | trans _ _ ih1 ih2 =>
    intro L e
    obtain ⟨L1, p1, e1⟩ := ih2 L e
    obtain ⟨L2, p2, e2⟩ := ih1 L1 e1
    exact ⟨L2, p2.trans p1, e2⟩
abbrev kd (p : Addr × List Int) : PyData := .tuple (p.2.map PyData.int)
section
variable {P : Program} {w : World} {A : Around} {E : Value → Shared → Prop} {s : Shared}
theorem reads_ints {h : Heap} : ∀ {k : List Int} {vs : List Value}, ItemsAre (intKind P w) k vs → ReadsAll h vs (k.map PyData.int) []
  | _, _, .nil => .nil
  | _, _, .cons h1 h2 => by
    obtain ⟨t, rfl⟩ := Value.isInt_shape h1
    exact ReadsAll.cons (as := []) (bs := []) (.int _ t) (reads_ints h2)
theorem reads_tup {h : Heap} {k : List Int} {b : Addr} (x : IsT P w h k b) : Reads h (.ref b) (.tuple (k.map PyData.int)) [] := by
  obtain ⟨o, its, n, ho, hc, hd, hi⟩ := x
  exact .tuple ho hc hd (reads_ints hi)
theorem each_ref (R : Value → Addr × List Int → Prop) : ∀ {L : List (Addr × List Int)}, (∀ p ∈ L, R (.ref p.1) p) → PySem.W.EachIs R (L.map fun p => Value.ref p.1) L
  | [], _ => .nil
  | p :: L, h => .cons (h p List.mem_cons_self) (each_ref R fun q hq => h q (List.mem_cons_of_mem _ hq))
theorem ref_each : ∀ {L : List (Addr × List Int)} {vs : List Value}, PySem.W.EachIs (fun v p => v = Value.ref p.1) vs L → vs = L.map fun p => Value.ref p.1
  | _, _, .nil => rfl
  | _, _, .cons h1 h2 => by rw [h1, ref_each h2]; rfl
theorem sort_set {a : Addr} {L : List (Addr × List Int)} {es : Array (Int × Value)} {ep : Nat} {t : SetTable} {Q : Value → Shared → Prop} (R : WSet P w s.heap a L es ep t) (cold : A.handled = none) (hu : A.units + 8 < cLine) (h3 : ∀ p ∈ L, p.2.length = 3)
    (fin : ∀ s' p (out : Array Value) (c : Nat) (L' : List (Addr × List Int)), (∀ b o, s.heap.get? b = some o → s'.heap.get? b = some o) → s'.gens = s.gens → s'.os = s.os → s.heap.objs.size ≤ p →
      s'.heap.get? p = some (seqObj "list" out c) → out.toList = L'.map (fun q => Value.ref q.1) → L'.Perm L → L'.Pairwise (fun q r => PySem.W.dataLe false kd q r = true) → Q (.ref p) s') :
    wpAny (model P w) A (call (.builtin "sorted") [.ref a]) Q E s := by
  obtain ⟨o, ho, hex, hd⟩ := R.ob
  have sz := R.size
  have room := R.room
  have cap := R.tab.cyc.cap
  have line : (100000 : Nat) < sizeLine := by decide
  refine sorted_coll (collect_set (A := A.in1) cold ⟨o, ho, hex.1, hd⟩ R.fits (by unfold scanBound; omega) R.tab.ris R.led fun s1 vs keep big ge os pm => ?_)
  have evs : es.toList.map (·.2) = L.map fun q => Value.ref q.1 := by rw [R.rows]; simp [rowsOf]
  rw [evs] at pm
  obtain ⟨L1, p1, e1⟩ := perm_map _ pm L rfl
  subst e1
  have len1 : L1.length = L.length := p1.length_eq
  refine ⟨by rw [List.length_map]; omega, ?_⟩
  have sub : ∀ p ∈ L1, p ∈ L := fun p hp => p1.mem_iff.mp hp
  have has : ∀ p ∈ L1, IsT P w (s1.heap.push (seqObj "list" (L1.map fun q => Value.ref q.1).toArray 0)) p.2 p.1 := fun p hp => isT_keep (R.tup p (sub p hp)) fun b u e => Heap.get?_push_of_some _ (keep b u e)
  have shape : ∀ p ∈ L1, ∃ x y z, p.2 = [x, y, z] := fun p hp => by
    have := h3 p (sub p hp)
    match q : p.2, this with
    | [x, y, z], _ => exact ⟨x, y, z, rfl⟩
  have at_p : (s1.heap.push (seqObj "list" (L1.map fun q => Value.ref q.1).toArray 0)).get? s1.heap.objs.size = some (seqObj "list" (L1.map fun q => Value.ref q.1).toArray 0) := Heap.get?_push_size _ rfl
  refine PySem.W.list_sort_data (β := Addr × List Int) (enc := kd) (R := fun v p => v = Value.ref p.1) (s := { s1 with heap := s1.heap.push (seqObj "list" (L1.map fun q => Value.ref q.1).toArray 0) }) at_p (each_ref _ fun p _ => rfl) (each_ref _ fun p hp => ⟨[], reads_tup (has p hp), by simp⟩) ?_ ?_ (by omega) (fun p hp => ?_) fun out hl eo => ?_
  · intro d hd' d' hd''
    obtain ⟨p, hp, rfl⟩ := List.mem_map.mp hd'
    obtain ⟨q, hq, rfl⟩ := List.mem_map.mp hd''
    obtain ⟨x, y, z, e⟩ := shape p hp
    obtain ⟨x', y', z', e'⟩ := shape q hq
    simp [kd, e, e', PySem.W.alike, PySem.W.alikeAll]
  · refine .inl fun d hd' => ?_
    obtain ⟨p, hp, rfl⟩ := List.mem_map.mp hd'
    obtain ⟨x, y, z, e⟩ := shape p hp
    exact ⟨.int x, [.int y, .int z], by simp [kd, e]⟩
  · obtain ⟨x, y, z, e⟩ := shape p hp
    have : (kd p).depth ≤ 4 := by simp [kd, e, PyData.depth, PyData.depthAll]
    show A.units + 1 + 1 + _ < cLine
    omega
  · have eo' := ref_each eo
    subst eo'
    have q : ∀ b o, s.heap.get? b = some o → (sortedHeap (s1.heap.push (seqObj "list" (L1.map fun q => Value.ref q.1).toArray 0)) s1.heap.objs.size (L1.map fun q => Value.ref q.1) (List.toArray ((L1.mergeSort (PySem.W.dataLe false kd)).map fun q => Value.ref q.1))).get? b = some o := fun b o e => by
      have k1 := keep b o e
      have lt := Heap.lt_size k1
      rw [sortedHeap_old (Nat.ne_of_lt lt) (by rw [size_push']; exact Nat.lt_succ_of_lt lt)]
      exact Heap.get?_push_of_some _ k1
    obtain ⟨c, hc⟩ := sortedHeap_at (out := List.toArray ((L1.mergeSort (PySem.W.dataLe false kd)).map fun q => Value.ref q.1)) at_p
    exact fin _ s1.heap.objs.size _ c (L1.mergeSort (PySem.W.dataLe false kd)) q ge os big hc rfl ((List.mergeSort_perm L1 _).trans p1) (PySem.W.sort_pairwise (PySem.W.sortLe_total _ _ _) L1)
end
structure WSet0 (P : Program) (w : World) (h : Heap) (a : Addr) (L : List (Addr × List Int)) : Prop where
  ex : ∃ (es : Array (Int × Value)) (ep : Nat) (t : SetTable), (∃ o, h.get? a = some o ∧ o.ExactSet ∧ o.data = .set es ep t) ∧ es.toList = rowsOf P w L ∧ WTab t (L.map fun p => thash P w p.2) ∧ (L.map (·.2)).Nodup ∧ t.plain = true ∧
    (w.params.followText "set-order" = true ∨ t.led = true) ∧ L.length * 5 < t.mask * 3
def WSetO (P : Program) (w : World) (a : Addr) (L : List (Addr × List Int)) : HO := .ext fun h => WSet0 P w h a L
section
variable {P : Program} {w : World} {h : Heap} {a : Addr} {L : List (Addr × List Int)}
theorem WSet.bare {es : Array (Int × Value)} {ep : Nat} {t : SetTable} (R : WSet P w h a L es ep t) : WSet0 P w h a L := ⟨es, ep, t, R.ob, R.rows, R.tab, R.nd, R.plain, R.led, R.room⟩
theorem WSet0.whole (R : WSet0 P w h a L) (ht : ∀ p ∈ L, IsT P w h p.2 p.1) : ∃ es ep t, WSet P w h a L es ep t := by
  obtain ⟨es, ep, t, h1, h2, h3, h4, h5, h6, h7⟩ := R.ex
  exact ⟨es, ep, t, { ob := h1, rows := h2, tab := h3, nd := h4, tup := ht, plain := h5, led := h6, room := h7 }⟩
theorem wsetO_ok {H : Hp} (R : WSet0 P w h a L) : ObjOk P w H h a (WSetO P w a L) := by
  have ⟨es, ep, t, ⟨o, ho, _⟩, _⟩ := R.ex
  refine ⟨R, ⟨o, ho⟩, fun h1 h2 p k => ?_⟩
  have ⟨es', ep', t', ⟨o', ho', r'⟩, q'⟩ := WSet0.ex p
  exact ⟨es', ep', t', ⟨o', k o' ho', r'⟩, q'⟩
end
section
variable {X : Cx}
/-- set(xs) -/
def rSetW (K : PySem.W.Frag) (P : Program) (w : World) : List V → Hp → VK → Prop := fun xs H Q => ∃ (l : Addr) (ks : List (Addr × List Int)), xs = [V.ref l] ∧ (SqL K H l (ks.map fun p => V.ref p.1) ∨ SqT K H l (ks.map fun p => V.ref p.1)) ∧ (∀ p ∈ ks, SqT K H p.1 (p.2.map V.int)) ∧ ks.length ≤ 306 ∧
  ∀ a L, H a = none → (∀ p ∈ L, p ∈ ks) → (∀ p ∈ ks, p.2 ∈ L.map (·.2)) → Q (.ref a) (upd H a (WSetO P w a L))
theorem cr_setW (hc : X.calm = true) (hu : X.A.units + 64 < cLine) : CallR X (.type "set") (rSetW X.K X.prog X.w) := by
  intro pins s τ H xs us Q I r h
  obtain ⟨l, ks, rfl, hl, hk, few, q⟩ := h
  rw [Vals.ref1 r]
  have hn : H s.heap.objs.size = none := I.hok.fresh (Nat.le_refl _)
  have done : ∀ (h' : Heap) (tk : Nat) L es ep t, WSet X.prog X.w h' s.heap.objs.size L es ep t → Got ks ks.length L → (∀ b o, s.heap.get? b = some o → h'.get? b = some o) → EP X pins τ Q (.ref s.heap.objs.size) { s with heap := h', toks := tk } := fun h' tk L es ep t R g k =>
    ⟨.ref s.heap.objs.size, upd H s.heap.objs.size (WSetO X.prog X.w s.heap.objs.size L), I.laid (t' := tk) k (Nat.le_refl _) (wsetO_ok R.bare), rfl, q _ L hn (fun p hp => List.mem_of_mem_take (g.sub p hp)) fun p hp => g.all p (by rw [List.take_length]; exact hp)⟩
  rcases hl with hl | hl
  · obtain ⟨its, rv, pl, hz⟩ := I.list hl
    exact set_of_list ks (I.ok.hd hc) pl.isList (by simpa using refs_of_vals rv) (fun p hp => I.isT (hk p hp)) few (by omega) done
  · obtain ⟨its, rv, pl, hz⟩ := I.tuple hl
    exact set_of_tuple ks (I.ok.hd hc) (show s.heap.IsTuple l its.toArray from pl) (by simpa using refs_of_vals rv) (fun p hp => I.isT (hk p hp)) few (by omega) done
/-- sorted(set) -/
def rSortW (K : PySem.W.Frag) (P : Program) (w : World) : List V → Hp → VK → Prop := fun vs H Q => ∃ (a : Addr) (L : List (Addr × List Int)), vs = [V.ref a] ∧ H a = some (WSetO P w a L) ∧ (∀ p ∈ L, SqT K H p.1 (p.2.map V.int)) ∧ (∀ p ∈ L, p.2.length = 3) ∧
  ∀ (L' : List (Addr × List Int)) (p : Addr), L'.Perm L → (L'.map (·.2)).Nodup → L'.Pairwise (fun q r => PySem.W.dataLe false kd q r = true) → H p = none → Q (.ref p) (upd H p (.lst (L'.map fun q => V.ref q.1)))
theorem cr_sortW (hc : X.calm = true) (hu : X.A.units + 64 < cLine) : CallR X (.builtin "sorted") (rSortW X.K X.prog X.w) := by
  intro pins s τ H vs us Q I r h
  obtain ⟨a, L, rfl, ha, hk, h3, q⟩ := h
  have R0 : WSet0 X.prog X.w s.heap a L := (I.hok a _ ha).1
  obtain ⟨es, ep, t, R⟩ := R0.whole fun p hp => I.isT (hk p hp)
  rw [Vals.ref1 r]
  refine sort_set R (I.ok.hd hc) (by omega) h3 fun s' p out c L' k ge os hp hg hout pm pw => ?_
  have few : L'.length ≤ 306 := by have := pm.length_eq; have := R.room; have := R.tab.cyc.cap; omega
  have line : (100000 : Nat) < sizeLine := by decide
  have hlen : (L'.map fun q => V.ref q.1).length ≤ sizeLine := by rw [List.length_map]; omega
  have hn : H p = none := I.hok.fresh hp
  have J : Inv X pins τ (upd H p (.lst (L'.map fun q => V.ref q.1))) { s with heap := s'.heap, gens := s'.gens, drawn := s'.drawn, toks := s'.toks } :=
    I.call (ch := []) (Un.laid k hp hn) (I.hok.laid k hp ⟨hlen, out.toList, c, by rw [hout]; exact vals_of_refs L', hg⟩) (by rw [ge]; exact I.bare) (fun _ z => nomatch z)
  have es' : s' = { s with heap := s'.heap, gens := s'.gens, drawn := s'.drawn, toks := s'.toks } := by
    obtain ⟨_, _, _, _, _⟩ := s'
    obtain ⟨_, _, _, _, _⟩ := s
    cases os
    rfl
  rw [es']
  exact ⟨.ref p, _, J, rfl, q L' p pm ((pm.map (·.2)).nodup_iff.mpr R.nd) pw hn⟩
end
end WS
end Lb

set_option Elab.async false
set_option linter.all false
set_option maxRecDepth 100000
set_option maxHeartbeats 4000000
namespace Lb
open PySem PySem.Spec PyProof.Rows L2
/-! ### sorted(set(xs)), xs triples of small ints -/
abbrev T3 := Int × Int × Int
def D3 (t : T3) : D := .tup [.int t.1, .int t.2.1, .int t.2.2]
def t3 : D → Option T3
  | .tup [.int a, .int b, .int c] => if 0 ≤ a ∧ a < 16 ∧ 0 ≤ b ∧ b < 16 ∧ 0 ≤ c ∧ c < 16 then some (a, b, c) else none
  | _ => none
def t3s : List D → Option (List T3)
  | [] => some []
  | d :: r => match t3 d, t3s r with
    | some t, some ts => some (t :: ts)
    | _, _ => none
def c3 (t : T3) : Int := t.1 * 256 + t.2.1 * 16 + t.2.2
def ok3 (t : T3) : Prop := 0 ≤ t.1 ∧ t.1 < 16 ∧ 0 ≤ t.2.1 ∧ t.2.1 < 16 ∧ 0 ≤ t.2.2 ∧ t.2.2 < 16
def ins3 (t : T3) : List T3 → List T3
  | [] => [t]
  | x :: r => if c3 t = c3 x then x :: r else if c3 t < c3 x then t :: x :: r else x :: ins3 t r
def set3 (ts : List T3) : List T3 := ts.foldr ins3 []
def setMax : Nat := 307
def setSortL (xs : List D) (h : Hs) : R (List D) := match xs with
  | [x] => match seqOf h x with
    | some ys => match t3s ys with
      | some ts => if ts.length < setMax then .ok ((set3 ts).map D3) h else .bad
      | none => .bad
    | none => .bad
  | _ => .bad
theorem t3_some {d : D} {t : T3} (h : t3 d = some t) : d = D3 t ∧ ok3 t := by
  unfold t3 at h
  split at h
  · split at h
    · cases h; rename_i q; exact ⟨rfl, q⟩
    · cases h
  · cases h
theorem t3s_some : ∀ {ds : List D} {ts : List T3}, t3s ds = some ts → ds = ts.map D3 ∧ ∀ t ∈ ts, ok3 t
  | [], ts, h => by cases h; exact ⟨rfl, fun t ht => by cases ht⟩
  | d :: r, ts, h => by
    unfold t3s at h
    cases q1 : t3 d with
    | none => rw [q1] at h; cases h
    | some t =>
      cases q2 : t3s r with
      | none => rw [q1, q2] at h; cases h
      | some us =>
        rw [q1, q2] at h
        cases h
        obtain ⟨e1, o1⟩ := t3_some q1
        obtain ⟨e2, o2⟩ := t3s_some q2
        exact ⟨by rw [e1, e2]; rfl, fun u hu => by rcases List.mem_cons.mp hu with rfl | z; exact o1; exact o2 u z⟩
theorem c3_inj {t u : T3} (ht : ok3 t) (hu : ok3 u) (e : c3 t = c3 u) : t = u := by
  obtain ⟨a, b, c⟩ := t
  obtain ⟨a', b', c'⟩ := u
  unfold ok3 at ht hu
  unfold c3 at e
  dsimp only at ht hu e
  have h1 : a = a' := by omega
  subst h1
  have h2 : b = b' := by omega
  subst h2
  have h3 : c = c' := by omega
  rw [h3]
theorem ins3_mem {t : T3} (ht : ok3 t) : ∀ {l : List T3}, (∀ x ∈ l, ok3 x) → ∀ x, x ∈ ins3 t l ↔ x = t ∨ x ∈ l
  | [], _, x => by simp [ins3]
  | y :: r, ho, x => by
    unfold ins3
    by_cases e : c3 t = c3 y
    · rw [if_pos e]
      have := c3_inj ht (ho y List.mem_cons_self) e
      subst this
      simp
    · rw [if_neg e]
      by_cases l : c3 t < c3 y
      · rw [if_pos l]; simp
      · rw [if_neg l]
        rw [List.mem_cons, ins3_mem ht (fun z hz => ho z (List.mem_cons_of_mem _ hz)), List.mem_cons]
        constructor
        · rintro (a | a | a)
          · exact .inr (.inl a)
          · exact .inl a
          · exact .inr (.inr a)
        · rintro (a | a | a)
          · exact .inr (.inl a)
          · exact .inl a
          · exact .inr (.inr a)
theorem ins3_sorted {t : T3} (ht : ok3 t) : ∀ {l : List T3}, (∀ x ∈ l, ok3 x) → l.Pairwise (fun a b => c3 a < c3 b) → (ins3 t l).Pairwise (fun a b => c3 a < c3 b)
  | [], _, _ => List.pairwise_singleton _ _
  | y :: r, ho, h => by
    obtain ⟨h1, h2⟩ := List.pairwise_cons.mp h
    unfold ins3
    by_cases e : c3 t = c3 y
    · rw [if_pos e]; exact h
    · rw [if_neg e]
      by_cases l : c3 t < c3 y
      · rw [if_pos l]
        refine List.pairwise_cons.mpr ⟨fun z hz => ?_, h⟩
        rcases List.mem_cons.mp hz with rfl | hz
        · exact l
        · exact Int.lt_trans l (h1 z hz)
      · rw [if_neg l]
        refine List.pairwise_cons.mpr ⟨fun z hz => ?_, ins3_sorted ht (fun z hz => ho z (List.mem_cons_of_mem _ hz)) h2⟩
        rcases (ins3_mem ht (fun z hz => ho z (List.mem_cons_of_mem _ hz)) z).mp hz with rfl | hz
        · omega
        · exact h1 z hz
theorem set3_spec : ∀ {ts : List T3}, (∀ t ∈ ts, ok3 t) → (∀ x, x ∈ set3 ts ↔ x ∈ ts) ∧ (set3 ts).Pairwise (fun a b => c3 a < c3 b)
  | [], _ => ⟨fun x => by simp [set3], List.Pairwise.nil⟩
  | t :: ts, h => by
    obtain ⟨m, p⟩ := set3_spec (ts := ts) fun u hu => h u (List.mem_cons_of_mem _ hu)
    have ho : ∀ x ∈ set3 ts, ok3 x := fun x hx => h x (List.mem_cons_of_mem _ ((m x).mp hx))
    exact ⟨fun x => by
      show x ∈ ins3 t (set3 ts) ↔ _
      rw [ins3_mem (h t List.mem_cons_self) ho, m, List.mem_cons], ins3_sorted (h t List.mem_cons_self) ho p⟩
/-- a strictly rising list is told by its things -/
theorem rise_uniq : ∀ {l m : List T3}, l.Pairwise (fun a b => c3 a < c3 b) → m.Pairwise (fun a b => c3 a < c3 b) → (∀ x, x ∈ l ↔ x ∈ m) → l = m
  | [], [], _, _, _ => rfl
  | [], y :: m, _, _, h => absurd ((h y).mpr List.mem_cons_self) (by simp)
  | x :: l, [], _, _, h => absurd ((h x).mp List.mem_cons_self) (by simp)
  | x :: l, y :: m, hl, hm, h => by
    obtain ⟨l1, l2⟩ := List.pairwise_cons.mp hl
    obtain ⟨m1, m2⟩ := List.pairwise_cons.mp hm
    have e : x = y := by
      rcases List.mem_cons.mp ((h x).mp List.mem_cons_self) with e | z
      · exact e
      · rcases List.mem_cons.mp ((h y).mpr List.mem_cons_self) with e | z'
        · exact e.symm
        · exact absurd (Int.lt_trans (m1 x z) (l1 y z')) (Int.lt_irrefl _)
    subst e
    rw [rise_uniq l2 m2 fun z => ?_]
    constructor
    · intro hz
      rcases List.mem_cons.mp ((h z).mp (List.mem_cons_of_mem _ hz)) with e | q
      · subst e; exact absurd (l1 z hz) (Int.lt_irrefl _)
      · exact q
    · intro hz
      rcases List.mem_cons.mp ((h z).mpr (List.mem_cons_of_mem _ hz)) with e | q
      · subst e; exact absurd (m1 z hz) (Int.lt_irrefl _)
      · exact q
def l3 (t : T3) : List Int := [t.1, t.2.1, t.2.2]
theorem lt_l3 (t u : T3) : PySem.W.dataLt (.tuple ((l3 t).map PyData.int)) (.tuple ((l3 u).map PyData.int)) = decide (t.1 < u.1 ∨ (t.1 = u.1 ∧ (t.2.1 < u.2.1 ∨ (t.2.1 = u.2.1 ∧ t.2.2 < u.2.2)))) := by
  obtain ⟨a, b, c⟩ := t
  obtain ⟨x, y, z⟩ := u
  have h1 : PySem.W.dataLt (.tuple [.int a, .int b, .int c]) (.tuple [.int x, .int y, .int z]) = if PyData.eqv (.int a) (.int x) = true then PySem.W.dataLt (.tuple [.int b, .int c]) (.tuple [.int y, .int z]) else PySem.W.dataLt (.int a) (.int x) :=
    PySem.W.dataLt_cons (x := .int a) (y := .int x) (by simp [PySem.W.alike]) [.int b, .int c] [.int y, .int z]
  show PySem.W.dataLt (.tuple [.int a, .int b, .int c]) (.tuple [.int x, .int y, .int z]) = _
  rw [h1, PySem.W.dataLt_ii, PySem.W.dataLt_int]
  simp only [PyData.eqv]
  by_cases h : a = x
  · simp [h]
  · simp [h]
theorem le3 {p q : Addr × T3} (ht : ok3 p.2) (hu : ok3 q.2) (h : PySem.W.dataLe false WS.kd (p.1, l3 p.2) (q.1, l3 q.2) = true) : c3 p.2 ≤ c3 q.2 := by
  obtain ⟨a, t⟩ := p
  obtain ⟨b, u⟩ := q
  have h2 : (!PySem.W.dataLt (.tuple ((l3 u).map PyData.int)) (.tuple ((l3 t).map PyData.int))) = true := h
  rw [lt_l3, Bool.not_eq_true', decide_eq_false_iff_not] at h2
  unfold ok3 at ht hu
  unfold c3
  dsimp only at ht hu ⊢
  omega
theorem l3_inj {t u : T3} (e : l3 t = l3 u) : t = u := by
  obtain ⟨a, b, c⟩ := t
  obtain ⟨a', b', c'⟩ := u
  simp [l3] at e
  obtain ⟨rfl, rfl, rfl⟩ := e
  rfl
section
variable {K : PySem.W.Frag} {ρ : List Addr} {H : Hp}
/-- the tuples of a list -/
theorem d3_rds : ∀ {ts : List T3} {vs : List V}, RDs K ρ H (ts.map D3) vs → ∃ ks : List (Addr × T3), vs = ks.map (fun p => V.ref p.1) ∧ ks.map (·.2) = ts ∧ ∀ p ∈ ks, TAt K ρ H p.1 ((l3 p.2).map V.int)
  | [], vs, r => by cases r; exact ⟨[], rfl, rfl, fun p h => by cases h⟩
  | t :: ts, vs, r => by
    obtain ⟨v, r', rfl, h1, h2⟩ := r
    obtain ⟨ks, e1, e2, h3⟩ := d3_rds h2
    obtain ⟨a, ws, rfl, ta, rr⟩ := h1
    have ew : ws = (l3 t).map V.int := by
      obtain ⟨v1, r1, rfl, q1, rr⟩ := rr
      obtain ⟨v2, r2, rfl, q2, rr⟩ := rr
      obtain ⟨v3, r3, rfl, q3, rr⟩ := rr
      cases rr; cases q1; cases q2; cases q3
      rfl
    subst ew
    exact ⟨(a, t) :: ks, by rw [e1]; rfl, by rw [← e2]; rfl, fun p hp => by rcases List.mem_cons.mp hp with rfl | z; exact ta; exact h3 p z⟩
theorem rds_d3 : ∀ {ks : List (Addr × T3)}, (∀ p ∈ ks, TAt K ρ H p.1 ((l3 p.2).map V.int)) → RDs K ρ H ((ks.map (·.2)).map D3) (ks.map fun p => V.ref p.1)
  | [], _ => rfl
  | p :: ks, h => ⟨_, _, rfl, ⟨p.1, _, rfl, h p List.mem_cons_self, ⟨_, _, rfl, rfl, _, _, rfl, rfl, _, _, rfl, rfl, rfl⟩⟩, rds_d3 fun q hq => h q (List.mem_cons_of_mem _ hq)⟩
end
theorem setSort_nb {xs : List D} {h : Hs} (nb : setSortL xs h ≠ .bad) : ∃ x ts, xs = [x] ∧ seqOf h x = some (ts.map D3) ∧ (∀ t ∈ ts, ok3 t) ∧ ts.length < setMax ∧ setSortL xs h = .ok ((set3 ts).map D3) h := by
  unfold setSortL at nb ⊢
  split at nb
  · rename_i x
    cases q1 : seqOf h x with
    | none => rw [q1] at nb; exact absurd rfl nb
    | some ys =>
      rw [q1] at nb
      dsimp only at nb ⊢
      cases q2 : t3s ys with
      | none => rw [q2] at nb; exact absurd rfl nb
      | some ts =>
        rw [q2] at nb
        dsimp only at nb ⊢
        by_cases q3 : ts.length < setMax
        · obtain ⟨e, o⟩ := t3s_some q2
          exact ⟨x, ts, rfl, by rw [q1, e], o, q3, by rw [if_pos q3]⟩
        · rw [if_neg q3] at nb; exact absurd rfl nb
  · exact absurd rfl nb
section
variable {X : Cx} {a : Expr} {A : Ev} {p p2 q pos : Pos}
theorem dn_sortSet (g : Good X) (hg : Gl X "sorted") (hm : X.mg "sorted" = none) (hg2 : Gl X "set") (hm2 : X.mg "set" = none) (ha : DE X a A)
    (na : starEach [a] X.env = (false, eval a X.env) :: starEach [] X.env := by rfl) : DN X (.Call (.Name "sorted" p) [.Call (.Name "set" p2) [a] [] q] [] pos) (lCall setSortL (aCons A aNil)) := by
  refine ⟨fun {pins s τ H ρ e σ} I h => ?_⟩
  have h' : Safe X ρ H τ ((A e σ).bind fun x h1 => setSortL [x] h1) := by
    have e1 : lCall setSortL (aCons A aNil) e σ = ((A e σ).bind fun x h1 => setSortL [x] h1) := by
      unfold lCall aCons aNil; cases A e σ <;> rfl
    rw [e1] at h; exact h
  refine Call_ (ld_blt I.inv hg hm PyProof.Rows.boot_sorted ?_)
  refine PyProof.Rows.callWith_builtin1 (PyProof.Rows.args_cons ?_ rfl) rfl rfl
  refine Call_ (ld_blt I.inv hg2 hm2 PyProof.Rows.boot_set ?_)
  refine PyProof.Rows.callWith_type1 (PyProof.Rows.args_cons (ha.thenD I h' fun d σ1 ρ1 v u H1 s1 q1 I1 x1 rd1 rv1 h1 => PyProof.Rows.args_nil ?_) na) na rfl
  obtain ⟨x, ts, ex, hl, ho, hf, eq⟩ := setSort_nb h1.nb
  cases ex
  obtain ⟨pa, vs, rfl, hq, rr⟩ := seq_at I1.rs rd1 hl
  obtain ⟨ks, rfl, hks, hta⟩ := d3_rds rr
  refine thn (WS.cr_setW g.calm (by have := g.un; omega) pins s1 τ H1 [.ref pa] [u] (fun w H2 => ∃ sa L, w = .ref sa ∧ H1 sa = none ∧ (∀ p ∈ L, p ∈ ks.map fun p => (p.1, l3 p.2)) ∧ (∀ p ∈ ks.map fun p => (p.1, l3 p.2), p.2 ∈ L.map (·.2)) ∧ H2 = upd H1 sa (WS.WSetO X.prog X.w sa L)) I1.inv (.cons rv1 .nil)
    ⟨pa, ks.map fun p => (p.1, l3 p.2), rfl, by rw [List.map_map]; exact hq, fun p hp => ?_, ?_, fun sa L hn hsub hall => ⟨sa, L, rfl, hn, hsub, hall, rfl⟩⟩) fun u2 s2 ⟨w2, H2, I2, rw2, sa, L, ew, hn, hsub, hall, eH⟩ => ?_
  · obtain ⟨p', hp', rfl⟩ := List.mem_map.mp hp
    exact (hta p' hp').seq
  · rw [List.length_map, ← List.length_map (f := (·.2)), hks]; exact Nat.le_of_lt_succ hf
  · subst ew eH
    refine PyProof.Rows.args_nil ?_
    have xe : Ext ρ1 ρ1 H1 (upd H1 sa (WS.WSetO X.prog X.w sa L)) := Ext.laid hn
    have inL : ∀ p ∈ L, ∃ t, (p.1, t) ∈ ks ∧ p.2 = l3 t := fun p hp => by
      obtain ⟨p', hp', e⟩ := List.mem_map.mp (hsub p hp)
      exact ⟨p'.2, by rw [← e]; exact hp', by rw [← e]⟩
    have hok : ∀ t, (∃ a, (a, t) ∈ ks) → ok3 t := fun t ⟨a, m⟩ => ho t (by rw [← hks]; exact List.mem_map.mpr ⟨_, m, rfl⟩)
    refine WS.cr_sortW g.calm (by have := g.un; omega) pins s2 τ _ [.ref sa] [u2] _ I2 (.cons rw2 .nil) ⟨sa, L, rfl, upd_same, fun p hp => ?_, fun p hp => ?_, fun L' r pm nd pw hr => ?_⟩
    · obtain ⟨t, m, e⟩ := inL p hp
      rw [e]
      exact ((hta _ m).ext xe).seq
    · obtain ⟨t, m, e⟩ := inL p hp
      rw [e]
      rfl
    · -- the rising list
      have inL' : ∀ p ∈ L', ∃ t, (p.1, t) ∈ ks ∧ p.2 = l3 t := fun p hp => inL p (pm.mem_iff.mp hp)
      have back : ∃ ks' : List (Addr × T3), L' = ks'.map (fun p => (p.1, l3 p.2)) ∧ ∀ p ∈ ks', p ∈ ks := by
        clear pm nd pw
        induction L' with
        | nil => exact ⟨[], rfl, fun p h => by cases h⟩
        | cons p L' ih =>
          obtain ⟨ks', e1, e2⟩ := ih fun p hp => inL' p (List.mem_cons_of_mem _ hp)
          obtain ⟨t, m, e⟩ := inL' p List.mem_cons_self
          exact ⟨(p.1, t) :: ks', by rw [List.map_cons, ← e1, ← e], fun q hq => by rcases List.mem_cons.mp hq with rfl | z; exact m; exact e2 q z⟩
      obtain ⟨ks', e1, e2⟩ := back
      subst e1
      have eset : ks'.map (·.2) = set3 ts := by
        obtain ⟨m1, m2⟩ := set3_spec ho
        refine rise_uniq ?_ m2 fun t => ?_
        · rw [List.pairwise_map]
          rw [List.pairwise_map] at pw
          have nd2 : ks'.Pairwise (fun a b => l3 a.2 ≠ l3 b.2) := by
            have := nd
            rw [List.map_map] at this
            exact List.pairwise_map.mp this
          refine (List.Pairwise.and pw nd2).imp_of_mem fun {a b} ha hb hab => ?_
          obtain ⟨h1, h2⟩ := hab
          have h1 := le3 (hok a.2 ⟨a.1, e2 a ha⟩) (hok b.2 ⟨b.1, e2 b hb⟩) h1
          rcases Int.lt_or_eq_of_le h1 with z | z
          · exact z
          · exact absurd (by rw [c3_inj (hok a.2 ⟨a.1, e2 a ha⟩) (hok b.2 ⟨b.1, e2 b hb⟩) z]) h2
        · rw [m1, ← hks]
          constructor
          · intro hm
            obtain ⟨p, hp, rfl⟩ := List.mem_map.mp hm
            exact List.mem_map.mpr ⟨p, e2 p hp, rfl⟩
          · intro hm
            obtain ⟨p, hp, rfl⟩ := List.mem_map.mp hm
            have z := hall (p.1, l3 p.2) (List.mem_map.mpr ⟨p, hp, rfl⟩)
            rw [← (pm.map (·.2)).mem_iff, List.map_map] at z
            obtain ⟨p', hp', e⟩ := List.mem_map.mp z
            exact List.mem_map.mpr ⟨p', hp', l3_inj e⟩
      have rall : RDs X.K ρ1 (upd H1 sa (WS.WSetO X.prog X.w sa L)) ((set3 ts).map D3) (ks'.map fun p => V.ref p.1) := by
        rw [← eset]
        exact rds_d3 fun p hp => (hta p (e2 p hp)).ext xe
      have e3 : (List.map (fun q => V.ref q.1) (List.map (fun p : Addr × T3 => (p.1, l3 p.2)) ks')) = ks'.map fun p => V.ref p.1 := by rw [List.map_map]; rfl
      rw [e3]
      have J : SR X pins ρ1 e σ1 τ _ s2 := ⟨I2, I1.rs.laid hn, I1.re.ext xe⟩
      have fin : GN X ρ1 H1 (setSortL [d] σ1) (.ref r) (upd (upd H1 sa (WS.WSetO X.prog X.w sa L)) r (.lst (ks'.map fun p => V.ref p.1))) := by
        rw [eq]
        exact ⟨_, σ1, ρ1, _, r, _, rfl, xe, J.rs, rall, hr, rfl, rfl⟩
      have e4 : lCall setSortL (aCons A aNil) e σ = ((A e σ).bind fun x h1 => setSortL [x] h1) := by
        unfold lCall aCons aNil; cases A e σ <;> rfl
      rw [e4]
      exact GN.right (f := fun x h1 => setSortL [x] h1) q1 x1 fin
end
end Lb

set_option Elab.async false
set_option linter.all false
set_option maxRecDepth 100000
set_option maxHeartbeats 4000000
namespace Lb
open PySem PySem.Spec PyProof.Rows L2
/-! ### min of a list, of two; max of a list of ints -/
def minOk (ds : List D) : Bool := ds.all (D.fit 40) && ds.all (fun a => ds.all fun b => PySem.W.alike a.data b.data) && ds.all (fun d => match d with | .non => false | .ref _ => false | .scr _ => false | _ => true)
def minF (x : D) (xs : List D) : D := xs.foldl (fun a y => if PySem.W.dataLt y.data a.data then y else a) x
def minA (xs : List D) (h : Hs) : R D := match xs with
  | [x] => match listOf h x with
    | some (y :: ys) => if minOk (y :: ys) then .ok (minF y ys) h else .bad
    | _ => .bad
  | [a, b] => if minOk [a, b] then .ok (minF a [b]) h else .bad
  | _ => .bad
def maxI (n : Int) (ns : List Int) : Int := ns.foldl (fun a y => if a < y then y else a) n
def maxA (xs : List D) (h : Hs) : R D := match xs with
  | [x] => match listOf h x with
    | some ys => match intsOf ys with
      | some (n :: ns) => .ok (.int (maxI n ns)) h
      | _ => .bad
    | none => .bad
  | [.int i, .int j] => .ok (.int (if j > i then j else i)) h
  | _ => .bad
section
variable {prog : Program} {w : World} {A : Around} {E : Value → Shared → Prop} {s : Shared}
/-- min(a, b), of anything that is compared where H stands -/
theorem min2_core {a b : Value} {Q : Value → Shared → Prop}
    (hyp : wpAny (model prog w) A.in1 (pyIter (.ref s.heap.objs.size)) (fun v s1 => ∃ J fp wr G m P St H bt, v = .ref J ∧ WalksS prog w A.in1 J fp wr G m P St ∧ St 0 s1 ∧ (∀ b ∈ fp, b < s1.heap.objs.size) ∧ 0 < m ∧
      (∀ b o, H.get? b = some o → b ∉ wr) ∧ (∀ b o, H.get? b = some o → s1.heap.get? b = some o) ∧ CmpIn prog w A.in1 .Lt H P bt ∧ ∀ v s', P (argBest bt (m - 1)) v → Moved wr G s1 s' → Q v s') E
      { s with heap := s.heap.push { cls := .type "tuple", data := .seq #[a, b] } }) : wpAny (model prog w) A (call (.builtin "min") [a, b]) Q E s := by
  refine call_function_tree PySem.F.kind_min PySem.F.plain_min PySem.F.entry_min (PySem.F.args_min2 a b) ?_
  show wpAny (model prog w) A.in1 (Builtin.Builtins.bindParams "min" ["key", "default"] 0 ⟨[], []⟩ >>= _) _ E s
  refine wpAny_bind (wpAny_of_eq (a := [none, none]) (by rfl) ?_)
  show wpAny (model prog w) A.in1 (newTuple [a, b] >>= _) _ E s
  refine wpAny_bind (wpAny_newObj_type (wpAny_bind (wpAny_mono hyp (fun it s1 hh => ?_) fun _ _ e => e)))
  obtain ⟨J, fp, wr, G, m, P, St, H, bt, rfl, W, h0, h1, h2, h3, h4, h5, h6⟩ := hh
  have hS : s1.heap.objs.size ∉ fp := fun z => absurd (h1 _ z) (Nat.lt_irrefl _)
  have hname : (toString "min" ++ toString ".loop" : String) = "min.loop" := by decide
  refine wpAny_bind (wpAny_newObj_type ?_)
  rw [hname]
  refine wpAny_pure ⟨plainId_quiet PySem.F.plain_min_loop _, ?_⟩
  refine codeAny_min_loop_firstH W H h3 bt h5 s1.heap.objs.size hS (fresh_in h4) _ h2 (fun b o e => Heap.get?_push_of_some _ (h4 b o e)) ?_ (Heap.get?_push_size _ rfl) fun v s' hP hm => h6 v s' hP (Moved.drop_new (tk := s1.toks) hm (Nat.le_refl _))
  exact W.frame 0 s1 _ s1.toks h0 (Nat.le_refl _) fun b _ o e => Heap.get?_push_of_some _ e
end
section
variable {X : Cx}
theorem map_getD (x : D) (xs : List D) (i : Nat) : ((x :: xs).map D.data).getD i PyData.none = ((x :: xs).getD i D.non).data := by
  rw [List.getD_eq_getElem?_getD, List.getD_eq_getElem?_getD, List.getElem?_map]
  cases (x :: xs)[i]? <;> rfl
/-- which one is the least -/
theorem best_is (x : D) (xs : List D) : ∃ i, argBest (fun i j => PySem.W.dataLt (((x :: xs).map D.data).getD i PyData.none) (((x :: xs).map D.data).getD j PyData.none)) xs.length = i ∧ (x :: xs)[i]? = some (minF x xs) := by
  have e : (fun i j => PySem.W.dataLt (((x :: xs).map D.data).getD i PyData.none) (((x :: xs).map D.data).getD j PyData.none)) = fun i j => (fun a b : D => PySem.W.dataLt a.data b.data) ((x :: xs).getD i D.non) ((x :: xs).getD j D.non) := by
    funext i j
    rw [map_getD, map_getD]
  rw [e]
  obtain ⟨h1, h2⟩ := PySem.W.argBest_fold (fun a b : D => PySem.W.dataLt a.data b.data) D.non x xs xs.length (Nat.le_refl _)
  refine ⟨_, rfl, ?_⟩
  rw [List.take_length] at h2
  have hl : argBest (fun i j => (fun a b : D => PySem.W.dataLt a.data b.data) ((x :: xs).getD i D.non) ((x :: xs).getD j D.non)) xs.length < (x :: xs).length := Nat.lt_succ_of_le h1
  rw [List.getD_eq_getElem?_getD, List.getElem?_eq_getElem hl] at h2
  rw [List.getElem?_eq_getElem hl]
  exact congrArg some h2
theorem minOk_spec {ds : List D} (h : minOk ds = true) : ds.all (D.fit 40) = true ∧ PySem.W.AlikeAll (ds.map D.data) := by
  unfold minOk at h
  simp only [Bool.and_eq_true] at h
  obtain ⟨⟨h1, h2⟩, h3⟩ := h
  refine ⟨h1, fun d hd d' hd' => ?_, fun d hd => ?_⟩
  · obtain ⟨a, ha, rfl⟩ := List.mem_map.mp hd
    obtain ⟨b, hb, rfl⟩ := List.mem_map.mp hd'
    exact List.all_eq_true.mp (List.all_eq_true.mp h2 a ha) b hb
  · obtain ⟨a, ha, rfl⟩ := List.mem_map.mp hd
    have := List.all_eq_true.mp h3 a ha
    cases a <;> first | (simp at this; done) | (simp [D.data]; done)
theorem depth_all {ds : List D} (h : ds.all (D.fit 40) = true) : PyData.depthAll (ds.map D.data) ≤ 40 := by
  have := (fits_spec (n := 40) (fit_spec 40) ds h).2
  rw [datas_map] at this
  exact this
theorem reads_ds {pins : List (Addr × Obj)} {τ : L2.St} {H : Hp} {s : Shared} {ρ : List Addr} (I : Inv X pins τ H s) : ∀ {ds : List D} {vs : List V} {us : List Value}, ds.all (D.fit 40) = true → RDs X.K ρ H ds vs → Vals vs us → ∃ as, ReadsAll s.heap us (ds.map D.data) as
  | [], _, _, _, r, rv => by cases r; cases rv; exact ⟨[], .nil⟩
  | d :: ds, _, _, hf, ⟨v, r', e, h1, h2⟩, rv => by
    subst e
    cases rv with
    | cons r1 r2 =>
      rw [List.all_cons, Bool.and_eq_true] at hf
      obtain ⟨as, q1⟩ := Dp.reads I _ _ _ (dp_of 40 d v hf.1 h1) r1
      obtain ⟨bs, q2⟩ := reads_ds I hf.2 h2 r2
      exact ⟨_, .cons q1 q2⟩
theorem vals_at : ∀ {vs : List V} {us : List Value} {i : Nat} {v : V}, Vals vs us → vs[i]? = some v → ∃ u, us[i]? = some u ∧ RelV v u
  | _, _, i, v, .nil, e => by simp at e
  | _, _, 0, v, .cons r t, e => by simp at e; subst e; exact ⟨_, rfl, r⟩
  | _, _, i + 1, v, .cons r t, e => by simpa using vals_at t (by simpa using e)
theorem min_nb {xs : List D} {h : Hs} (nb : minA xs h ≠ .bad) : (∃ x y ys, xs = [x] ∧ listOf h x = some (y :: ys) ∧ minOk (y :: ys) = true ∧ minA xs h = .ok (minF y ys) h) ∨ ∃ a b, xs = [a, b] ∧ minOk [a, b] = true ∧ minA xs h = .ok (minF a [b]) h := by
  match xs, nb with
  | [], nb => exact absurd rfl nb
  | [x], nb =>
    cases q : listOf h x with
    | none => exact absurd (by simp [minA, q]) nb
    | some l =>
      cases l with
      | nil => exact absurd (by simp [minA, q]) nb
      | cons y ys =>
        by_cases k : minOk (y :: ys) = true
        · exact .inl ⟨x, y, ys, rfl, q, k, by simp [minA, q, k]⟩
        · exact absurd (by simp [minA, q, k]) nb
  | [a, b], nb =>
    by_cases k : minOk [a, b] = true
    · exact .inr ⟨a, b, rfl, k, by simp [minA, k]⟩
    · exact absurd (by simp [minA, k]) nb
  | _ :: _ :: _ :: _, nb => exact absurd rfl nb
theorem op_min (g : Good X) : OpN X (.builtin "min") minA := by
  intro pins s τ H ρ e σ xs vs us I rds rvs h
  rcases min_nb h.nb with ⟨x, y, ys, rfl, hl, hk, e1⟩ | ⟨a, b, rfl, hk, e1⟩
  · rw [e1]
    obtain ⟨v, rfl, rd⟩ := rds1 rds
    obtain ⟨u, rfl, ru⟩ := rvs.one
    obtain ⟨pa, ws, rfl, hq, rr⟩ := list_at I.rs rd hl
    cases ru
    obtain ⟨its, rv, pl, hz⟩ := I.inv.list hq
    obtain ⟨k1, k2⟩ := minOk_spec hk
    obtain ⟨as, rall⟩ := reads_ds I.inv k1 rr rv
    have hlen : its.toArray.size = ys.length + 1 := by
      rw [List.size_toArray, ← rv.length, ← rr.length]; rfl
    have hd := depth_all k1
    refine call_min_walkH (PySem.W.iter_listW (A := X.A.in1) (vs := its.toArray) (I.inv.ok.hd g.calm) pl.isList fun s1 es W st hfp hw hkp => ⟨_, _, _, _, _, _, _, s.heap, _, rfl, W, st, hfp, by omega, hw, hkp, PySem.W.cmpIn_lt (A := X.A.in1) (as := as) (xs := (y :: ys).map D.data) (by simpa using rall) k2 (by
      have := g.un
      show X.A.units + 1 + _ < _
      omega), fun v s' hP m => ?_⟩)
    obtain ⟨h', tk, rfl, hk'⟩ := PySem.W.moved_old es rfl m
    obtain ⟨i, ei, gi⟩ := best_is y ys
    have e2 : its.toArray.size - 1 = ys.length := by omega
    rw [e2, ei] at hP
    obtain ⟨vv, hv, rdv⟩ := rr.get gi
    obtain ⟨uu, hu, ruv⟩ := vals_at rv hv
    have e3 : v = uu := by
      have : its[i]? = some v := by simpa using hP
      rw [hu] at this
      exact (Option.some.inj this).symm
    subst e3
    exact ⟨vv, H, I.inv.kept hk', ruv, gd_ok I rdv⟩
  · rw [e1]
    obtain ⟨v1, v2, rfl, r1, r2⟩ := rds2 rds
    obtain ⟨u1, u2, rfl, ru1, ru2⟩ := vals2 rvs
    obtain ⟨k1, k2⟩ := minOk_spec hk
    have hd := depth_all k1
    have kp : ∀ b o, s.heap.get? b = some o → (s.heap.push { cls := .type "tuple", data := .seq #[u1, u2] }).get? b = some o := fun b o e => Heap.get?_push_of_some _ e
    have J : Inv X pins τ H { s with heap := s.heap.push { cls := .type "tuple", data := .seq #[u1, u2] }, toks := s.toks } := I.inv.kept kp
    obtain ⟨as, rall⟩ := reads_ds J k1 rds rvs
    have hT : (s.heap.push { cls := .type "tuple", data := .seq #[u1, u2] }).IsTuple s.heap.objs.size #[u1, u2] := ⟨_, Heap.get?_push_size _ rfl, rfl, 0, rfl⟩
    refine min2_core (PySem.W.iter_tupleW (A := X.A.in1) (s := { s with heap := s.heap.push { cls := .type "tuple", data := .seq #[u1, u2] } }) (I.inv.ok.hd g.calm) hT fun s1 es W st hfp hw hkp => ⟨_, _, _, _, _, _, _, (s.heap.push { cls := .type "tuple", data := .seq #[u1, u2] }), _, rfl, W, st, hfp, Nat.succ_pos 1, hw, hkp,
      PySem.W.cmpIn_lt (A := X.A.in1) (s := { s with heap := s.heap.push { cls := .type "tuple", data := .seq #[u1, u2] } }) (as := as) (xs := [a, b].map D.data) rall k2 (by
        have := g.un
        show X.A.units + 1 + _ < _
        omega), fun v s' hP m => ?_⟩)
    obtain ⟨h', tk, rfl, hk'⟩ := PySem.W.moved_old es rfl m
    obtain ⟨i, ei, gi⟩ := best_is a [b]
    have e2 : (#[u1, u2] : Array Value).size - 1 = [b].length := rfl
    rw [e2, ei] at hP
    obtain ⟨vv, hv, rdv⟩ := rds.get gi
    obtain ⟨uu, hu, ruv⟩ := vals_at rvs hv
    have e3 : v = uu := by
      have : [u1, u2][i]? = some v := by simpa using hP
      rw [hu] at this
      exact (Option.some.inj this).symm
    subst e3
    exact ⟨vv, H, I.inv.kept fun b o e => hk' b o (kp b o e), ruv, gd_ok I rdv⟩
theorem maxI_spec : ∀ (ns : List Int) (n : Int), (maxI n ns = n ∨ maxI n ns ∈ ns) ∧ n ≤ maxI n ns ∧ ∀ y ∈ ns, y ≤ maxI n ns
  | [], n => ⟨.inl rfl, Int.le_refl _, fun y h => by cases h⟩
  | m :: ns, n => by
    obtain ⟨a, b, c⟩ := maxI_spec ns (if n < m then m else n)
    have e : maxI n (m :: ns) = maxI (if n < m then m else n) ns := rfl
    rw [e]
    by_cases q : n < m
    · rw [if_pos q] at a b c ⊢
      refine ⟨?_, by omega, fun y hy => ?_⟩
      · rcases a with a | a
        · rw [a]; exact .inr List.mem_cons_self
        · exact .inr (List.mem_cons_of_mem _ a)
      · rcases List.mem_cons.mp hy with rfl | hy
        · exact b
        · exact c y hy
    · rw [if_neg q] at a b c ⊢
      refine ⟨?_, b, fun y hy => ?_⟩
      · rcases a with a | a
        · exact .inl a
        · exact .inr (List.mem_cons_of_mem _ a)
      · rcases List.mem_cons.mp hy with rfl | hy
        · omega
        · exact c y hy
theorem max_nb {xs : List D} {h : Hs} (nb : maxA xs h ≠ .bad) : (∃ x ys n ns, xs = [x] ∧ listOf h x = some ys ∧ intsOf ys = some (n :: ns) ∧ maxA xs h = .ok (.int (maxI n ns)) h) ∨ ∃ i j, xs = [.int i, .int j] ∧ maxA xs h = .ok (.int (if j > i then j else i)) h := by
  unfold maxA at nb ⊢
  split at nb
  · rename_i x
    cases q : listOf h x with
    | none => rw [q] at nb; exact absurd rfl nb
    | some ys =>
      rw [q] at nb
      dsimp only at nb ⊢
      cases q2 : intsOf ys with
      | none => rw [q2] at nb; exact absurd rfl nb
      | some l =>
        cases l with
        | nil => rw [q2] at nb; exact absurd rfl nb
        | cons n ns => exact .inl ⟨x, ys, n, ns, rfl, q, q2, rfl⟩
  · exact .inr ⟨_, _, rfl, rfl⟩
  · exact absurd rfl nb
theorem op_max (g : Good X) : OpN X (.builtin "max") maxA := by
  intro pins s τ H ρ e σ xs vs us I rds rvs h
  rcases max_nb h.nb with ⟨x, ys, n, ns, rfl, hl, hi, e1⟩ | ⟨i, j, rfl, e1⟩
  · rw [e1]
    obtain ⟨v, rfl, rd⟩ := rds1 rds
    obtain ⟨pa, ws, rfl, hq, rr⟩ := list_at I.rs rd hl
    rw [ints_rds hi rr] at hq
    refine cr_max g.calm pins s τ H _ us _ I.inv rvs ⟨pa, n :: ns, rfl, hq, by simp, fun m hm hall => ?_⟩
    obtain ⟨a, b, c⟩ := maxI_spec ns n
    have e2 : m = maxI n ns := by
      refine Int.le_antisymm ?_ (hall _ ?_)
      · rcases List.mem_cons.mp hm with rfl | hm
        · exact b
        · exact c m hm
      · rcases a with a | a
        · rw [a]; exact List.mem_cons_self
        · exact List.mem_cons_of_mem _ a
    subst e2
    exact gd_ok (d := .int (maxI n ns)) I (by rw [RD])
  · rw [e1]
    have e2 : max2D [.int i, .int j] σ = .ok (.int (if j > i then j else i)) σ := rfl
    rw [← e2]
    exact op_max2 g I rds rvs (by rw [e2, ← e1]; exact h)
end
end Lb

set_option Elab.async false
set_option linter.all false
set_option maxRecDepth 100000
set_option maxHeartbeats 4000000
namespace Lb
open PySem PySem.Spec PyProof.Rows L2
/-! ### a locked dict walked -/
abbrev KVH := List (NestedKey × Addr × V)
abbrev KRel (K : PySem.W.Frag) (ρ : List Addr) (H : Hp) : D × D → NestedKey × Addr × V → Prop := fun p q => q.1 = p.1.key ∧ p.1.isKey = true ∧ RD K ρ H p.1 (.ref q.2.1) ∧ RD K ρ H p.2 q.2.2
/-- what the locked object tells -/
structure FzD (P : Program) (w : World) (h : Heap) (d : Addr) (od : Obj) (kvh : KVH) (es : Array DictEntry) (ep : Nat) : Prop where
  sys : (d == sysModules) = false
  raw : DT.Raw h d es ep
  dat : od.data = .dict es ep
  size : es.size = kvh.length
  len : kvh.length ≤ sizeLine
  at_ : ∀ (i : Nat) k q v, kvh[i]? = some (k, q, v) → ∃ (hi : i < es.size) (u : Value), es[i].key = .ref q ∧ es[i].val = u ∧ RelV v u
theorem fz_of {X : Cx} {pins : List (Addr × Obj)} {τ : L2.St} {H : Hp} {s : Shared} {d : Addr} {od : Obj} {kvh : KVH} (I : Inv X pins τ H s) (h : H d = some (.frz od (.ext (DictPhi X.prog X.w d kvh)))) : ∃ es ep, FzD X.prog X.w s.heap d od kvh es ep := by
  obtain ⟨e0, x, _⟩ := I.hok d _ h
  obtain ⟨hz, hs, xs, hx, o, es, ep, e1, e2, e3, e4, e5⟩ := x
  have e : o = od := by rw [e0] at e1; exact (Option.some.inj e1).symm
  subst e
  have l1 := pLen hx
  have hes : es.size = xs.length := by rw [← Array.length_toList, e4, List.length_map]
  refine ⟨es, ep, hs, ⟨o, e1, e2, e3⟩, e3, by rw [hes, l1], hz, fun i k q v hk => ?_⟩
  obtain ⟨y, hy, r1, r2, r3⟩ := pget hx hk
  have hi : i < es.size := by rw [hes]; exact (List.getElem?_eq_some_iff.mp hy).1
  have ee : es[i] = entryOfKey (nestedKind X.prog X.w) y := by
    have q1 : es.toList[i]? = some (entryOfKey (nestedKind X.prog X.w) y) := by rw [e4, List.getElem?_map, hy]; rfl
    have q2 : es.toList[i]? = some es[i] := by simp [hi]
    rw [q2] at q1
    exact Option.some.inj q1
  dsimp only at r1 r2 r3
  exact ⟨hi, y.2.2, by rw [ee]; show Value.ref y.2.1 = _; rw [r2], by rw [ee]; rfl, r3⟩
abbrev FzH (P : Program) (w : World) (d : Addr) (od : Obj) (kvh : KVH) : HO := .frz od (.ext (DictPhi P w d kvh))
def ItK (P : Program) (w : World) (d : Addr) (od : Obj) (kvh : KVH) : It :=
  ⟨fun i H => H d = some (FzH P w d od kvh) ∧ i < kvh.length, fun i H x H' => H' = H ∧ ∃ k q v, kvh[i]? = some (k, q, v) ∧ x = .ref q, fun i H => H d = some (FzH P w d od kvh) ∧ kvh.length ≤ i⟩
def ItIt (P : Program) (w : World) (d : Addr) (od : Obj) (kvh : KVH) : It :=
  ⟨fun i H => H d = some (FzH P w d od kvh) ∧ i < kvh.length, fun i H x H' => ∃ T k q v, kvh[i]? = some (k, q, v) ∧ x = .ref T ∧ H T = none ∧ H' = upd H T (.tup [.ref q, v]), fun i H => H d = some (FzH P w d od kvh) ∧ kvh.length ≤ i⟩
section
variable {P : Program} {w : World} {K : PySem.W.Frag} {tg : Expr} {d : Addr} {od : Obj} {es : Array DictEntry} {ep : Nat} {kvh : KVH}
theorem turnK (it : Addr) (hod : od.data = .dict es ep) (hsz : es.size = kvh.length) : Turn P w K tg (ItK P w d od kvh) [it] it (fun i h => h.IsKeyIter it d i kvh.length ep) where
  mem := by simp
  obj := fun i h st b hb => by
    obtain rfl : b = it := by simpa using hb
    obtain ⟨o1, q1, q2, q3⟩ := st
    exact ⟨o1, q1, fun v z => nomatch (q3.symm.trans z)⟩
  keep := fun i h h' st k => st.at fun o e => k it List.mem_cons_self o e
  item := by
    rintro X rfl rfl rfl hc i pins s σ H E I hf st ⟨hd, hi⟩
    obtain ⟨es', ep', z⟩ := fz_of I hd
    obtain ⟨rfl, rfl⟩ := dict_ep hod z.dat
    obtain ⟨oo, g1, g2, g3⟩ := z.raw
    obtain ⟨⟨k, q, v⟩, hk⟩ : ∃ p, kvh[i]? = some p := ⟨kvh[i], List.getElem?_eq_getElem hi⟩
    obtain ⟨hi', u, c1, c2, c3⟩ := z.at_ i k q v hk
    obtain ⟨f0, f1, f2, f3, f4, f5⟩ := hf it List.mem_cons_self
    refine next_key_item st g1 g3 hsz (en := es'[i]) (Array.getElem?_eq_getElem hi') fun h' st' sb => ?_
    have J : Inv X pins σ H { s with heap := h' } := I.turned (t' := s.toks) (fun b o hb e => (sb.2 b hb).trans e) f0 f1 f3 f4 f5
    obtain ⟨oi, w1, w2, w3⟩ := id st'
    refine ⟨_, rfl, go_of (s := { s with heap := h' }) w1 w2 w3 (by decide) ⟨.ref q, H, J, c1, ⟨rfl, k, q, v, hk, rfl⟩, st', fun b hb => (hf b hb).1⟩⟩
  done := by
    rintro X rfl rfl rfl hc i pins s σ H E I hf st ⟨hd, hi⟩
    obtain ⟨es', ep', z⟩ := fz_of I hd
    obtain ⟨rfl, rfl⟩ := dict_ep hod z.dat
    obtain ⟨oo, g1, g2, g3⟩ := z.raw
    obtain ⟨f0, f1, f2, f3, f4, f5⟩ := hf it List.mem_cons_self
    exact next_key_end (I.ok.hd hc) st g1 g3 hsz hi fun h' eb => ⟨rfl, I.turned (t' := s.toks) (fun b o hb e => eb b o hb e) f0 f1 f3 f4 f5⟩
  self := fun A i s Q E st h => wpAny_pyIter_keyiter st h
theorem turnI {elts : List Expr} {kk : Nat} {tpos : Pos} (it : Addr) (hod : od.data = .dict es ep) (hsz : es.size = kvh.length) :
    Turn P w K (.Tuple elts kk tpos) (ItIt P w d od kvh) [it] it (fun i h => ∃ k v, IsItemIter h it d i es.size ep k v) where
  mem := by simp
  obj := fun i h st b hb => by
    obtain rfl : b = it := by simpa using hb
    obtain ⟨k, v, q⟩ := st
    exact ⟨_, q, fun v z => nomatch z⟩
  keep := fun i h h' st k => let ⟨a, b, q⟩ := st; ⟨a, b, k it List.mem_cons_self _ q⟩
  item := by
    rintro X rfl rfl rfl hc i pins s σ H E I hf ⟨k0, v0, st⟩ ⟨hd, hi⟩
    obtain ⟨es', ep', z⟩ := fz_of I hd
    obtain ⟨rfl, rfl⟩ := dict_ep hod z.dat
    obtain ⟨⟨k, q, v⟩, hk⟩ : ∃ p, kvh[i]? = some p := ⟨kvh[i], List.getElem?_eq_getElem hi⟩
    obtain ⟨hi', u, c1, c2, c3⟩ := z.at_ i k q v hk
    have hlt : it < s.heap.objs.size := Heap.lt_size st
    refine DT.nextI st z.raw hi' fun h' ho hT hz hkp => ⟨_, rfl, wpAny_letOwnedTupleGo_items (s := { s with heap := h' }) ho fun h2 st2 sb => ?_⟩
    rw [c1, c2] at hT
    have hT2 : h2.get? s.heap.objs.size = some { cls := .type "tuple", data := .seq #[.ref q, u] } := (sb.2 _ (Nat.ne_of_gt hlt)).trans hT
    have new : ObjOk X.prog X.w (upd H s.heap.objs.size (.tup [.ref q, v])) h2 s.heap.objs.size (.tup [.ref q, v]) :=
      ⟨by show 2 ≤ sizeLine; decide, [.ref q, u], .cons rfl (.cons c3 .nil), ⟨_, hT2, rfl, _, rfl⟩⟩
    have J : Inv X pins σ (upd H s.heap.objs.size (.tup [.ref q, v])) { s with heap := h2 } :=
      I.turnedNew (t' := s.toks) (ch := [it]) (fun b o hb e => (sb.2 b (fun z => hb (by simp [z]))).trans (hkp b o (fun z => hb (by simp [z])) e)) hf (Nat.le_refl _) new
    refine ⟨.ref s.heap.objs.size, _, J, rfl, ⟨_, k, q, v, hk, rfl, I.hok.fresh (Nat.le_refl _), rfl⟩, ⟨_, _, st2⟩, fun b hb => ?_⟩
    obtain rfl : b = it := by simpa using hb
    rw [upd_ne (Nat.ne_of_lt hlt)]
    exact (hf b List.mem_cons_self).1
  done := by
    rintro X rfl rfl rfl hc i pins s σ H E I hf ⟨k0, v0, st⟩ ⟨hd, hi⟩
    obtain ⟨es', ep', z⟩ := fz_of I hd
    obtain ⟨rfl, rfl⟩ := dict_ep hod z.dat
    obtain ⟨f0, f1, f2, f3, f4, f5⟩ := hf it List.mem_cons_self
    exact DT.endI (I.ok.hd hc) st z.raw (by rw [hsz]; exact hi) fun h' eb => ⟨rfl, I.turned (t' := s.toks) (fun b o hb e => eb b o hb e) f0 f1 f3 f4 f5⟩
  self := fun A i s Q E st h => let ⟨_, _, e⟩ := st; PySem.W.kcp_self e h
end
section
variable {X : Cx} {tg a : Expr} {A : Ev} {apos cpos : Pos}
def fzOf (h : Hs) : D → Option (List (D × D))
  | .ref n => match h[n]? with
    | some (.fdict kvs) => some kvs
    | _ => none
  | _ => none
def keysF (d : D) (h : Hs) : R Src := match fzOf h d with
  | some kvs => .ok (.fix (kvs.map (·.1))) h
  | none => .bad
def itemsF (d : D) (h : Hs) : R Src := match fzOf h d with
  | some kvs => .ok (.fix (kvs.map fun p => .tup [p.1, p.2])) h
  | none => .bad
theorem fz_at {σ : Hs} {ρ : List Addr} {H : Hp} {d : D} {v : V} {kvs : List (D × D)} (rs : RS X.prog X.w X.K X.mg ρ σ H) (rd : RD X.K ρ H d v) (q : fzOf σ d = some kvs) :
    ∃ p kvh od, v = .ref p ∧ H p = some (FzH X.prog X.w p od kvh) ∧ Paired (KRel X.K ρ H) kvs kvh := by
  cases d with
  | ref n =>
    cases hn : σ[n]? with
    | none => simp [fzOf, hn] at q
    | some o =>
      cases o with
      | fdict l =>
        have e : l = kvs := by simpa [fzOf, hn] using q
        subst e
        obtain ⟨p, rfl, hp⟩ := rd
        obtain ⟨kvh, od, hH, pr⟩ := rs.at_ n p _ hp hn
        exact ⟨p, kvh, od, rfl, hH, pr⟩
      | _ => simp [fzOf, hn] at q
  | _ => simp [fzOf] at q
theorem jokK {ρ0 H0 p od kvh} {kvs : List (D × D)} (hH : H0 p = some (FzH X.prog X.w p od kvh)) (pr : Paired (KRel X.K ρ0 H0) kvs kvh) : JOk X ρ0 H0 (.fix (kvs.map (·.1))) (ItK X.prog X.w p od kvh) := by
  intro ρ H σ x rs
  have hH' := x.frz _ _ _ hH
  refine ⟨fun i d hd => ?_, hH', by rw [List.length_map, pLen pr]; exact Nat.le_refl _⟩
  rw [List.getElem?_map] at hd
  cases q : kvs[i]? with
  | none => rw [q] at hd; cases hd
  | some y =>
    rw [q] at hd
    cases hd
    obtain ⟨⟨k, q', v⟩, hk, h1, h2, h3, h4⟩ := pget pr q
    refine ⟨⟨hH', (List.getElem?_eq_some_iff.mp hk).1⟩, fun z H' ⟨e, k2, q2, v2, hk2, ez⟩ => ?_⟩
    subst e ez
    rw [hk] at hk2
    cases hk2
    exact ⟨Ext.refl, rs, RD.ext x _ _ h3⟩
theorem jokI {ρ0 H0 p od kvh} {kvs : List (D × D)} (hH : H0 p = some (FzH X.prog X.w p od kvh)) (pr : Paired (KRel X.K ρ0 H0) kvs kvh) : JOk X ρ0 H0 (.fix (kvs.map fun p => .tup [p.1, p.2])) (ItIt X.prog X.w p od kvh) := by
  intro ρ H σ x rs
  have hH' := x.frz _ _ _ hH
  refine ⟨fun i d hd => ?_, hH', by rw [List.length_map, pLen pr]; exact Nat.le_refl _⟩
  rw [List.getElem?_map] at hd
  cases q : kvs[i]? with
  | none => rw [q] at hd; cases hd
  | some y =>
    rw [q] at hd
    cases hd
    obtain ⟨⟨k, q', v⟩, hk, h1, h2, h3, h4⟩ := pget pr q
    refine ⟨⟨hH', (List.getElem?_eq_some_iff.mp hk).1⟩, fun z H' ⟨T, k2, q2, v2, hk2, ez, hT, eH⟩ => ?_⟩
    subst eH ez
    rw [hk] at hk2
    cases hk2
    have xl : Ext ρ ρ H (upd H T (.tup [.ref q', v])) := Ext.laid hT
    exact ⟨xl, rs.laid hT, T, _, rfl, .inl ⟨.inl upd_same, rs.free hT⟩, _, _, rfl, RD.ext (x.trans xl) _ _ h3, _, _, rfl, RD.ext (x.trans xl) _ _ h4, rfl⟩
theorem di_keysF (ha : DE X a A) : DI X tg a (fun e h => (A e h).bind keysF) := by
  refine ⟨fun {pins s τ H ρ e σ} I h => ha.thenD I h fun d σ1 ρ1 v u H1 s1 q1 I1 x1 rd rv h1 => ?_⟩
  cases q : fzOf σ1 d with
  | none => exact absurd (by simp [keysF, q]) h1.nb
  | some kvs =>
    obtain ⟨p, kvh, od, rfl, hH, pr⟩ := fz_at I1.rs rd q
    cases rv
    obtain ⟨es, ep, z⟩ := fz_of I1.inv hH
    obtain ⟨oo, g1, g2, g3⟩ := z.raw
    refine iter_keys z.sys g1 g2 g3 (pi_one (tk := s1.toks) I1.inv _ (turnK _ z.dat z.size) ⟨_, Heap.get?_push_size _ rfl, rfl, ?_⟩ (GI.right (f := keysF) q1 x1 ⟨_, σ1, ρ1, by simp [keysF, q], Ext.refl, I1.rs, jokK hH pr⟩))
    rw [z.size] <;> rfl
theorem di_itemsF {elts : List Expr} {kk : Nat} {tpos : Pos} (ha : DE X a A) (hbase : attributeBase a "items" X.env (eval a X.env) = eval a X.env := by rfl) (hline : (apos.endLine == cpos.line) = true := by rfl) :
    DI X (.Tuple elts kk tpos) (.Call (.Attribute a "items" apos) [] [] cpos) (fun e h => (A e h).bind itemsF) := by
  refine ⟨fun {pins s τ H ρ e σ} I h => ?_⟩
  refine wpAny_Call_method (T := "dict") (id := "dict.items") hbase rfl hline PySem.F.plainAttrs_dict PySem.F.slot_dict_items PySem.F.type_dict_items (ha.thenD I h fun d σ1 ρ1 v u H1 s1 q1 I1 x1 rd rv h1 => ?_)
  cases q : fzOf σ1 d with
  | none => exact absurd (by simp [itemsF, q]) h1.nb
  | some kvs =>
    obtain ⟨p, kvh, od, rfl, hH, pr⟩ := fz_at I1.rs rd q
    cases rv
    obtain ⟨es, ep, z⟩ := fz_of I1.inv hH
    obtain ⟨oo, g1, g2, g3⟩ := id z.raw
    refine ⟨z.raw.typeIs, (fun b hb => by cases hb; exact ⟨oo, g1, g2.2.1⟩), ?_⟩
    have I2 : Inv X pins τ H1 { s1 with heap := s1.heap.push { cls := .type "dict_items", data := .fields #[.ref p] } } := I1.inv.kept (t' := s1.toks) fun b ob q => Heap.get?_push_of_some _ q
    refine method_meetsIn PySem.F.slot_dict_items PySem.F.entry_dict_items rfl (PySem.evalArgs_none ⟨rfl, z.raw.typeIs, PySem.F.args_dict_items_1 _, _, DT.meetsItems z.sys, z.raw, ?_⟩)
    refine DT.iterI (s := { s1 with heap := s1.heap.push { cls := .type "dict_items", data := .fields #[.ref p] } }) ⟨_, Heap.get?_push_size _ rfl, rfl, rfl⟩ (z.raw.push _) ?_
    exact pi_one (tk := s1.toks) I2 _ (turnI _ z.dat z.size) ⟨.none, .none, Heap.get?_push_size _ rfl⟩ (GI.right (f := itemsF) q1 x1 ⟨_, σ1, ρ1, by simp [itemsF, q], Ext.refl, I1.rs, jokI hH pr⟩)
end
/-! ### a statement runs while a dict is locked -/
def unS (n : Nat) (h : Hs) : Option Hs := match h[n]? with
  | some (.fdict kvs) => some (h.set n (.dict kvs))
  | _ => none
def unF (n : Nat) : Fl → Fl
  | .nx e h => match unS n h with | some h' => .nx e h' | none => .bad
  | .rt d h => match unS n h with | some h' => .rt d h' | none => .bad
  | .bk e h => match unS n h with | some h' => .bk e h' | none => .bad
  | .ct e h => match unS n h with | some h' => .ct e h' | none => .bad
  | r => r
def sLock (A : Ev) (S : Sv) : Sv := fun e h => match A e h with
  | .ok (.ref n) _ => match h[n]? with
    | some (.dict kvs) => unF n (S e (h.set n (.fdict kvs)))
    | some (.fdict _) => S e h
    | _ => .bad
  | _ => .bad
theorem unS_some {n : Nat} {h h' : Hs} (q : unS n h = some h') : ∃ kvs, h[n]? = some (.fdict kvs) ∧ h' = h.set n (.dict kvs) := by
  unfold unS at q
  split at q
  · cases q; rename_i kvs hk; exact ⟨kvs, hk, rfl⟩
  · cases q
section
variable {P : Program} {w : World} {K : PySem.W.Frag} {mg : Str → Option Value} {ρ : List Addr} {H : Hp} {σ : Hs}
theorem rd_unl {a : Addr} {u : HO} (ha : a ∈ ρ) (d : D) (v : V) (r : RD K ρ H d v) : RD K ρ (upd H a u) d v := by
  have e : upd (hideH H a) a u = upd H a u := by
    funext b
    by_cases hb : b = a
    · rw [hb, upd_same, upd_same]
    · rw [upd_ne hb, upd_ne hb, hideH_ne hb]
  rw [← e]
  exact RD.ext (Ext.laid hideH_self) d v (RD.hide ha d v r)
theorem re_unl {a : Addr} {u : HO} (ha : a ∈ ρ) {e : En} {τ : L2.St} (r : RE K ρ H e τ) : RE K ρ (upd H a u) e τ := ⟨r.1, fun i d q => let ⟨v, h1, h2⟩ := r.2 i d q; ⟨v, h1, rd_unl ha d v h2⟩⟩
theorem rs_unl {n : Nat} {a : Addr} {u : HO} {kvs : List (D × D)} {od : Obj} (r : RS P w K mg ρ σ H) (hn : ρ[n]? = some a) (hs : σ[n]? = some (.fdict kvs)) (hH : H a = some (.frz od u)) : RS P w K mg ρ (σ.set n (.dict kvs)) (upd H a u) := by
  have ha := List.mem_of_getElem? hn
  have e : upd (hideH H a) a u = upd H a u := by
    funext b
    by_cases hb : b = a
    · rw [hb, upd_same, upd_same]
    · rw [upd_ne hb, upd_ne hb, hideH_ne hb]
  refine ⟨by simp [r.len], r.nd, fun m b o h1 h2 => ?_⟩
  by_cases q : n = m
  · subst q
    rw [hn] at h1; cases h1
    have hl : n < σ.length := (List.getElem?_eq_some_iff.mp hs).1
    rw [List.getElem?_set_self hl] at h2
    cases h2
    obtain ⟨kvh, od', hH', pr⟩ := r.at_ n a _ hn hs
    rw [hH] at hH'
    cases hH'
    exact ⟨kvh, upd_same, pimp pr fun p q ⟨h1, h2, h3, h4⟩ => ⟨h1, h2, rd_unl ha _ _ h3, rd_unl ha _ _ h4⟩⟩
  · rw [List.getElem?_set_ne q] at h2
    have hb : b ≠ a := fun z => by
      subst z
      obtain ⟨l1, e1⟩ := List.getElem?_eq_some_iff.mp h1
      obtain ⟨l2, e2⟩ := List.getElem?_eq_some_iff.mp hn
      exact q ((List.getElem_inj r.nd).mp (e2.trans e1.symm))
    rw [← e]
    exact RO.ext (Ext.laid hideH_self) (upd_ne hb) (RO.hide ha hb o (r.at_ m b o h1 h2))
theorem ext_unl {ρ' : List Addr} {H' : Hp} {a : Addr} {od : Obj} {φ : Heap → Prop} {u : HO} (hH : H a = some (.ext φ)) (ha : a ∈ ρ) (x : Ext ρ ρ' (upd H a (.frz od (.ext φ))) H') : Ext ρ ρ' H (upd H' a u) := by
  obtain ⟨⟨t, rfl, ht⟩, st, tr, fz⟩ := x
  refine ⟨⟨t, rfl, fun b hb => ?_⟩, fun b o hb e => ?_, fun b o e => ?_, fun b o v e => ?_⟩
  · have z := ht b hb
    by_cases q : b = a
    · rw [q, upd_same] at z; cases z
    · rw [upd_ne q] at z; exact z
  · have q : b ≠ a := fun z => hb (by rw [z]; exact ha)
    rw [upd_ne q]; exact st b o hb (by rw [upd_ne q]; exact e)
  · by_cases q : b = a
    · exact ⟨u, by rw [q, upd_same]⟩
    · rw [upd_ne q]; exact tr b o (by rw [upd_ne q]; exact e)
  · have q : b ≠ a := fun z => by rw [z, hH] at e; cases e
    rw [upd_ne q]; exact fz b o v (by rw [upd_ne q]; exact e)
end
section
variable {X : Cx} {st : Stmt} {A : Ev} {S : Sv}
theorem ps_of1 (h : DS X st S) : PS X st (toTS X S) := ⟨fun pins s τ H D I ⟨ρ, e, σ, rs, re, sf, a, b, c, d⟩ => thn (h.run ⟨I, rs, re⟩ sf) fun f s1 g => sp_imp g a b c d⟩
theorem ds_lock (A : Ev) (hs : DS X st S) : DS X st (sLock A S) := by
  refine ⟨fun {pins s τ H ρ e σ} I h => ?_⟩
  have nb := h.nb
  unfold sLock at nb
  cases q : A e σ with
  | ok d h1 =>
    cases d with
    | ref n =>
      rw [q] at nb
      dsimp only at nb
      cases hn : σ[n]? with
      | none => rw [hn] at nb; exact absurd rfl nb
      | some o =>
        cases o with
        | fdict kvs =>
          have e1 : sLock A S e σ = S e σ := by unfold sLock; rw [q]; dsimp only; rw [hn]
          rw [e1] at h ⊢
          exact hs.run I h
        | dict kvs =>
          have e1 : sLock A S e σ = unF n (S e (σ.set n (.fdict kvs))) := by unfold sLock; rw [q]; dsimp only; rw [hn]
          rw [e1] at h ⊢
          clear nb e1
          have hl : n < ρ.length := by rw [I.rs.len]; exact (List.getElem?_eq_some_iff.mp hn).1
          obtain ⟨a, ha⟩ : ∃ a, ρ[n]? = some a := ⟨ρ[n], List.getElem?_eq_getElem hl⟩
          obtain ⟨kvh, hH, pr⟩ := I.rs.at_ n a _ ha hn
          have hm := List.mem_of_getElem? ha
          refine (ps_lock (ps_of1 hs)).run pins s τ H _ I.inv ⟨a, _, hH, True.intro, fun od => ?_⟩
          have xl : Ext ρ ρ H (upd H a (.frz od (.ext (DictPhi X.prog X.w a kvh)))) := Ext.put hm (nfE hH)
          refine ⟨ρ, e, σ.set n (.fdict kvs), I.rs.put ha ⟨kvh, od, upd_same, pimp pr fun p q ⟨h1, h2, h3, h4⟩ => ⟨h1, h2, RD.ext xl _ _ h3, RD.ext xl _ _ h4⟩⟩ (nfE hH), I.re.ext xl, ⟨fun z => h.nb (by rw [z]; rfl), h.tk.imp fun cls d τ' H' ⟨c, e', σ', ρ', q1, x, r⟩ => ?_⟩, ?_, ?_, ?_, ?_⟩
          · exact ⟨c, e', σ', ρ', by rw [q1]; rfl, xl.trans x, r⟩
          · rintro τ' H' ⟨e', σ', ρ', q1, x, rs, re⟩
            have hz := x.frz a _ _ upd_same
            have hn' := x.get ha
            rw [q1] at h
            cases qu : unS n σ' with
            | none => exact absurd (by simp [unF, qu]) h.nb
            | some σ2 =>
              obtain ⟨kvs', hk, rfl⟩ := unS_some qu
              exact ⟨hz, e', _, ρ', by rw [q1]; simp [unF, qu], ext_unl hH hm x, rs_unl rs hn' hk hz, re_unl (List.mem_of_getElem? hn') re⟩
          · rintro v H' ⟨d, σ', ρ', q1, x, rs, rd⟩
            have hz := x.frz a _ _ upd_same
            have hn' := x.get ha
            rw [q1] at h
            cases qu : unS n σ' with
            | none => exact absurd (by simp [unF, qu]) h.nb
            | some σ2 =>
              obtain ⟨kvs', hk, rfl⟩ := unS_some qu
              exact ⟨hz, d, _, ρ', by rw [q1]; simp [unF, qu], ext_unl hH hm x, rs_unl rs hn' hk hz, rd_unl (List.mem_of_getElem? hn') _ _ rd⟩
          · rintro τ' H' ⟨e', σ', ρ', q1, x, rs, re⟩
            have hz := x.frz a _ _ upd_same
            have hn' := x.get ha
            rw [q1] at h
            cases qu : unS n σ' with
            | none => exact absurd (by simp [unF, qu]) h.nb
            | some σ2 =>
              obtain ⟨kvs', hk, rfl⟩ := unS_some qu
              exact ⟨hz, e', _, ρ', by rw [q1]; simp [unF, qu], ext_unl hH hm x, rs_unl rs hn' hk hz, re_unl (List.mem_of_getElem? hn') re⟩
          · rintro τ' H' ⟨e', σ', ρ', q1, x, rs, re⟩
            have hz := x.frz a _ _ upd_same
            have hn' := x.get ha
            rw [q1] at h
            cases qu : unS n σ' with
            | none => exact absurd (by simp [unF, qu]) h.nb
            | some σ2 =>
              obtain ⟨kvs', hk, rfl⟩ := unS_some qu
              exact ⟨hz, e', _, ρ', by rw [q1]; simp [unF, qu], ext_unl hH hm x, rs_unl rs hn' hk hz, re_unl (List.mem_of_getElem? hn') re⟩
        | _ => rw [hn] at nb; exact absurd rfl nb
    | _ => rw [q] at nb; exact absurd rfl nb
  | _ => rw [q] at nb; exact absurd rfl nb
end
end Lb

set_option Elab.async false
set_option linter.all false
set_option maxRecDepth 100000
set_option maxHeartbeats 4000000
namespace Lb
open PySem PySem.Spec PyProof.Rows L2
/-! ### enumerate of a tuple -/
section
variable {prog : Program} {w : World} {A : Around} {E : Value → Shared → Prop} {s : Shared}
open AutoSeq1 in
theorem meets_enumT (l : Addr) (items : Array Value) (n : Nat) (dd : Option Addr) (ss : Array (Option Value)) :
    Meets (Builtin.«enumerate.__new__» ⟨[.type "enumerate", .ref l], []⟩) (fun _ R s => s.heap.get? l = some { cls := .type "tuple", dict := dd, data := .seq items n, slots := ss } ∧
      R (.ok (.ret (.ref (s.heap.push { cls := .type "tuple_iterator", data := .fields #[.ref l, .int 0 0] }).objs.size)))
        { s with heap := (s.heap.push { cls := .type "tuple_iterator", data := .fields #[.ref l, .int 0 0] }).push { cls := .type "enumerate", data := .fields #[.none, .bool false, .ref s.heap.objs.size, rawInt 0, .none, .none] } }) :=
  .of_wp fun prog w A R s hh => by
    obtain ⟨hp, gg, dr, tk, os⟩ := s
    obtain ⟨hl, hr⟩ := hh
    have hsub := sub_enumerate
    have hT : Heap.IsTuple (Shared.heap ⟨hp, gg, dr, tk, os⟩) l items := ⟨_, hl, rfl, n, rfl⟩
    wp_walk using wpAny_loadPart' hl
    refine wpAny_stack_any fun z => wpAny_pure ?_
    split
    · rename_i c _ _ _ _ _
      cases (c == Value.type "enumerate") <;> (wp_walk using wpAny_loadPart' hl, wpAny_pyIter_tuple hT; exact ⟨_, rfl, hr⟩)
    · wp_walk using wpAny_loadPart' hl, wpAny_pyIter_tuple hT
      exact ⟨_, rfl, hr⟩
theorem call_enumT {l : Addr} {items : Array Value} {Q : Value → Shared → Prop} (hT : s.heap.IsTuple l items)
    (k : ∀ h', IsEnum h' (s.heap.objs.size + 1) s.heap.objs.size 0 .none → h'.IsTupleIter s.heap.objs.size l 0 → (∀ b o, s.heap.get? b = some o → h'.get? b = some o) → Q (.ref (s.heap.objs.size + 1)) { s with heap := h' }) :
    wpAny (model prog w) A (call (.type "enumerate") [.ref l]) Q E s := by
  obtain ⟨⟨c, dct, dt, sl⟩, hl, hc, n, hd⟩ := hT
  obtain rfl : c = .type "tuple" := hc
  obtain rfl : dt = .seq items n := hd
  refine callType_new PySem.F.called_enumerate (by decide) (PySem.F.typeCall_enumerate_1 _) (PySem.F.newCall_enumerate_1 _) (fun ob => PySem.F.args_object_init_2 ob _) PySem.F.entry_enumerate_new (meets_enumT l items n dct sl) ⟨hl, ?_⟩
  have z1 : (s.heap.push { cls := .type "tuple_iterator", data := .fields #[.ref l, .int 0 0] }).objs.size = s.heap.objs.size + 1 := Heap.size_push ..
  show _ ∧ _
  rw [z1]
  have he : IsEnum ((s.heap.push { cls := .type "tuple_iterator", data := .fields #[.ref l, .int 0 0] }).push
      { cls := .type "enumerate", data := .fields #[.none, .bool false, .ref s.heap.objs.size, rawInt 0, .none, .none] }) (s.heap.objs.size + 1) s.heap.objs.size 0 .none := by
    have q := Heap.get?_push_size (s.heap.push { cls := .type "tuple_iterator", data := .fields #[.ref l, .int 0 0] }) (o := { cls := .type "enumerate", data := .fields #[.none, .bool false, .ref s.heap.objs.size, rawInt 0, .none, .none] }) rfl
    rw [z1] at q; exact q
  exact ⟨⟨_, he, rfl⟩, k _ he ⟨_, Heap.get?_push_of_some _ (Heap.get?_push_size _ rfl), rfl, rfl⟩ fun b o x => Heap.get?_push_of_some _ (Heap.get?_push_of_some _ x)⟩
end
def IteT (K : PySem.W.Frag) (a : Addr) : It :=
  ⟨fun i H => ∃ (xs : List V) (x : V), SqT K H a xs ∧ xs[i]? = some x, fun i H v H' => ∃ T x, v = .ref T ∧ H T = none ∧ H' = upd H T (.tup [.int (i : Nat), x]) ∧ ∀ xs, SqT K H a xs → xs[i]? = some x, fun i H => ∃ xs : List V, SqT K H a xs ∧ xs.length ≤ i⟩
theorem turn_enumT {P : Program} {w : World} {K : PySem.W.Frag} {elts : List Expr} {kk : Nat} {tpos : Pos} (a e it : Addr) (hne : e ≠ it) (ha : a ≠ it) (hae : a ≠ e) :
    Turn P w K (.Tuple elts kk tpos) (IteT K a) [e, it] e (fun i h => (∃ old, IsEnum h e it ((i : Nat) : Int) old) ∧ h.IsTupleIter it a i) where
  mem := by simp
  obj := fun i h st b hb => by
    obtain ⟨⟨old, he⟩, o, ho, hc, hd⟩ := st
    rcases (by simpa using hb : b = e ∨ b = it) with rfl | rfl
    · exact ⟨_, he, fun v q => nomatch q⟩
    · exact ⟨o, ho, fun v q => nomatch (hd.symm.trans q)⟩
  keep := fun i h h' st k => ⟨let ⟨old, he⟩ := st.1; ⟨old, k e (by simp) _ he⟩, st.2.at fun o q => k it (by simp) o q⟩
  item := by
    rintro X rfl rfl rfl hc i pins s σ H E I hf ⟨⟨old, he⟩, hit⟩ ⟨xs, x, hq, hx⟩
    obtain ⟨its, rv, p, hz⟩ := I.tuple hq
    obtain ⟨u, hu, ru⟩ := rv.get hx
    have hT : s.heap.IsTuple a its.toArray := p
    have hel : e < s.heap.objs.size := Heap.lt_size he
    have hil : it < s.heap.objs.size := by obtain ⟨_, q, _⟩ := hit; exact Heap.lt_size q
    have hlen : i < its.toArray.size := by simpa using (List.getElem?_eq_some_iff.mp hu).1
    refine wpAny_pyNext_enum_itemD (Draws.tuple (A := X.A.in1) (I.ok.hd hc) it a ha its.toArray) he ⟨hit, hT⟩ hlen hne (by simp; exact ⟨hne, Ne.symm hae⟩) fun y h' tk hP ho st' hN hsz hk => ?_
    have ey : y = u := by
      have : its[i]? = some y := by simpa using hP
      rw [hu] at this; exact (Option.some.inj this).symm
    subst ey
    refine ⟨_, rfl, wpAny_letOwnedTupleGo_enum (s := { s with heap := h', toks := tk + 1 }) ho fun h2 he2 sb => ?_⟩
    have hN2 : h2.get? s.heap.objs.size = some { cls := .type "tuple", data := .seq #[.int i tk, y] } := (sb.2 _ (Nat.ne_of_gt hel)).trans hN
    have new : ObjOk X.prog X.w (upd H s.heap.objs.size (.tup [.int (i : Nat), x])) h2 s.heap.objs.size (.tup [.int (i : Nat), x]) :=
      ⟨by show 2 ≤ sizeLine; decide, [.int i tk, y], .cons ⟨_, rfl⟩ (.cons ru .nil), ⟨_, hN2, rfl, _, rfl⟩⟩
    have J : Inv X pins σ (upd H s.heap.objs.size (.tup [.int (i : Nat), x])) { s with heap := h2, toks := tk + 1 } :=
      I.turnedNew (ch := [e, it]) (fun b ob hb q => (sb.2 b (fun z => hb (by simp [z]))).trans (hk b ob (fun z => hb (by simp [z])) (fun z => hb (by simp [z])) q)) hf (Nat.le_refl _) new
    refine ⟨.ref s.heap.objs.size, _, J, rfl, ⟨_, x, rfl, I.hok.fresh (Nat.le_refl _), rfl, fun ys hy => by rw [I.tuple_inj hy hq]; exact hx⟩, ⟨⟨y, ?_⟩, st'.1.at fun o q => (sb.2 it (Ne.symm hne)).trans q⟩, fun b hb => ?_⟩
    · have e1 : ((i + 1 : Nat) : Int) = (i : Int) + 1 := by omega
      rw [e1]; exact he2
    · have hb' : b < s.heap.objs.size := by
        rcases (by simpa using hb : b = e ∨ b = it) with rfl | rfl
        · exact hel
        · exact hil
      rw [upd_ne (Nat.ne_of_lt hb')]
      exact (hf b hb).1
  done := by
    rintro X rfl rfl rfl hc i pins s σ H E I hf ⟨⟨old, he⟩, hit⟩ ⟨xs, hq, hx⟩
    obtain ⟨its, rv, p, hz⟩ := I.tuple hq
    have hT : s.heap.IsTuple a its.toArray := p
    obtain ⟨f0, f1, f2, f3, f4, f5⟩ := hf it (by simp)
    have hl := rv.length
    have hT2 := hT
    have hi2 := hit
    unfold pyNext
    refine wpAny_bind (wpAny_attempt (wpAny_callSpecial?_slot (name := Str.ofString "__next__") (T := "enumerate") ⟨_, he, rfl⟩ PySem.F.slot_enumerate_next (wpAny_call_entry PySem.F.slot_enumerate_next (T := "enumerate") ⟨_, he, rfl⟩ PySem.F.entry_enumerate_next ?_ (PySem.F.args_enumerate_next_1 _))))
    show wpAny _ _ (field (.ref e) 2 >>= _) _ _ _
    refine wpAny_bind (wpAny_field he rfl (x := .ref it) rfl (wpAny_bind (wpAny_nextOf_tuple_end (I.ok.hd hc) hit hT (by simp; omega) fun h' z eb hz => ?_)))
    obtain ⟨o, ho, hcl⟩ := hz
    refine wpAny_bind (wpAny_isInstance (T := "StopIteration") (b := true) ⟨o, ho, hcl⟩ isSubtype_stop (wpAny_pure ⟨rfl, ?_⟩))
    exact I.turned (t' := s.toks) (fun b o hb q => eb b o hb q) f0 f1 f3 f4 f5
  self := fun A i s Q E st h => let ⟨⟨_, he⟩, _⟩ := st; wpAny_pyIter_enum he h
section
variable {X : Cx} {pos p tpos : Pos} {a : Expr} {AS : Es} {elts : List Expr} {kk : Nat}
theorem jok_enumT {ρ0 : List Addr} {H0 : Hp} {q : Addr} {vs : List V} {ds : List D} (h : TAt X.K ρ0 H0 q vs) (r : RDs X.K ρ0 H0 ds vs) : JOk X ρ0 H0 (.fix (enumF 0 ds)) (IteT X.K q) := by
  intro ρ H σ x rs
  have h' : SqT X.K H q vs := (h.ext x).seq
  have r' := RDs.ext x _ _ r
  refine ⟨fun i d hd => ?_, vs, h', by rw [enum_length, ← r'.length]; exact Nat.le_refl _⟩
  obtain ⟨y, hy, rfl⟩ := enum_get ds 0 i d hd
  obtain ⟨v, hv, rd⟩ := r'.get hy
  refine ⟨⟨vs, v, h', hv⟩, fun z H' ⟨T, w, ez, hT, eH, hw⟩ => ?_⟩
  have hw' := hw vs h'
  rw [hv] at hw'
  cases hw'
  subst eH ez
  have xe : Ext ρ ρ H (upd H T (.tup [.int (i : Nat), v])) := Ext.laid hT
  exact ⟨xe, rs.laid hT, T, [.int (i : Nat), v], rfl, .inl ⟨.inl upd_same, rs.free hT⟩, ⟨_, _, rfl, by rw [Nat.zero_add]; rfl, _, _, rfl, RD.ext xe _ _ rd, rfl⟩⟩
def enumD (xs : List D) (h : Hs) : R Src := match xs with
  | [.lst ds] => .ok (.fix (enumF 0 ds)) h
  | [.tup ds] => .ok (.fix (enumF 0 ds)) h
  | _ => .bad
def iEnumA (A : Es) : Iv := fun e h => (A e h).bind enumD
theorem enum_nb {xs : List D} {h : Hs} (nb : enumD xs h ≠ .bad) : (∃ ds, xs = [.lst ds] ∧ enumD xs h = .ok (.fix (enumF 0 ds)) h) ∨ ∃ ds, xs = [.tup ds] ∧ enumD xs h = .ok (.fix (enumF 0 ds)) h := by
  unfold enumD at nb ⊢
  split at nb
  · exact .inl ⟨_, rfl, rfl⟩
  · exact .inr ⟨_, rfl, rfl⟩
  · exact absurd rfl nb
theorem di_enumA (hg : Gl X "enumerate") (hm : X.mg "enumerate" = none) (ha : DA X [a] AS) (hs : starEach [a] X.env = [(false, eval a X.env)] := by rfl) : DI X (.Tuple elts kk tpos) (.Call (.Name "enumerate" p) [a] [] pos) (iEnumA AS) := by
  refine ⟨fun {pins s τ H ρ e σ} I h => ?_⟩
  refine Call_ (ld_blt I.inv hg hm boot_enumerate (PyProof.Rows.callWith_type1 (ha.thenA pos I h fun xs σ1 ρ1 vs us H1 s1 q1 I1 x1 rds rvs h1 => ?_) hs rfl))
  rcases enum_nb h1.nb with ⟨ds, rfl, e1⟩ | ⟨ds, rfl, e1⟩
  · obtain ⟨v, rfl, b, ws, rfl, t, rr⟩ := rds1 rds
    obtain ⟨u, rfl, ru⟩ := rvs.one
    cases ru
    obtain ⟨its, rv, p', hz⟩ := I1.inv.list (SqL.of t.1)
    refine call_enumerate_list p'.isList fun h' he hit hsz hk => wpAny_pyIter_enum he ?_
    have I2 : Inv X pins τ H1 { s1 with heap := h' } := I1.inv.kept (t' := s1.toks) hk
    refine ⟨s1.heap.objs.size + 1, [s1.heap.objs.size + 1, s1.heap.objs.size], _, _, H1, rfl, I2, turn_enum b (s1.heap.objs.size + 1) s1.heap.objs.size, ⟨⟨.none, he⟩, hit, Nat.succ_ne_self _⟩, fun c hc => ?_, GI.right (f := enumD) q1 x1 ⟨_, σ1, ρ1, e1, Ext.refl, I1.rs, jok_enum t rr⟩⟩
    have hle : s1.heap.objs.size ≤ c := by
      rcases (by simpa using hc : c = s1.heap.objs.size + 1 ∨ c = s1.heap.objs.size) with z | z
      · rw [z]; exact Nat.le_add_right _ _
      · rw [z]; exact Nat.le_refl _
    exact I1.inv.fpOk hle (I1.inv.hok.fresh hle)
  · obtain ⟨v, rfl, b, ws, rfl, t, rr⟩ := rds1 rds
    obtain ⟨u, rfl, ru⟩ := rvs.one
    cases ru
    obtain ⟨its, rv, p', hz⟩ := I1.inv.tuple t.seq
    have hT : s1.heap.IsTuple b its.toArray := p'
    have hlt : b < s1.heap.objs.size := by obtain ⟨_, q, _⟩ := hT; exact Heap.lt_size q
    refine call_enumT hT fun h' he hit hk => wpAny_pyIter_enum he ?_
    have I2 : Inv X pins τ H1 { s1 with heap := h' } := I1.inv.kept (t' := s1.toks) hk
    refine ⟨s1.heap.objs.size + 1, [s1.heap.objs.size + 1, s1.heap.objs.size], _, _, H1, rfl, I2, turn_enumT b (s1.heap.objs.size + 1) s1.heap.objs.size (Nat.succ_ne_self _) (Nat.ne_of_lt hlt) (Nat.ne_of_lt (Nat.lt_succ_of_lt hlt)), ⟨⟨.none, he⟩, hit⟩, fun c hc => ?_, GI.right (f := enumD) q1 x1 ⟨_, σ1, ρ1, e1, Ext.refl, I1.rs, jok_enumT t rr⟩⟩
    have hle : s1.heap.objs.size ≤ c := by
      rcases (by simpa using hc : c = s1.heap.objs.size + 1 ∨ c = s1.heap.objs.size) with z | z
      · rw [z]; exact Nat.le_add_right _ _
      · rw [z]; exact Nat.le_refl _
    exact I1.inv.fpOk hle (I1.inv.hok.fresh hle)
end
end Lb

set_option Elab.async false
set_option linter.all false
set_option maxRecDepth 100000
set_option maxHeartbeats 4000000
namespace Lb
open PySem PySem.Spec PyProof.Rows L2
/-! ### D.get(key, number), D a written dict of texts and numbers -/
structure WDct (K : PySem.W.Frag) (mg : Str → Option Value) (w : World) (x : Str) (tab : List (Str × Int)) : Prop where
  ex : ∃ (p : Addr) (es : Array DictEntry) (n : Nat), mg x = some (.ref p) ∧ (p == sysModules) = false ∧ K.lookup p = some ⟨.type "dict", none, .dict es n, #[]⟩ ∧ PySem.W.KeysLit w.params es.toList ∧
    ∀ z : Str, match tab.lookup z with
      | some i => ∃ t, findBy Value.isStrOf es z = some (.int i t)
      | none => findBy Value.isStrOf es z = none
theorem findBy_lit {P : Params} : ∀ (l : List (Str × Tok × Int × Tok)) (z : Str), match (l.map fun q => (q.1, q.2.2.1)).lookup z with
      | some i => ∃ t, findBy Value.isStrOf (l.map fun q => (⟨PyData.keyHash P q.1, Value.str q.1 q.2.1, Value.int q.2.2.1 q.2.2.2⟩ : DictEntry)).toArray z = some (.int i t)
      | none => findBy Value.isStrOf (l.map fun q => (⟨PyData.keyHash P q.1, Value.str q.1 q.2.1, Value.int q.2.2.1 q.2.2.2⟩ : DictEntry)).toArray z = none
  | [], z => rfl
  | (y, t, i, t') :: l, z => by
    have ih := findBy_lit (P := P) l z
    unfold findBy at ih ⊢
    rw [List.find?_toArray] at ih ⊢
    simp only [List.map_cons, List.lookup, List.find?_cons]
    by_cases e : z = y
    · subst e
      have e1 : (z == z) = true := by simp
      have e2 : Value.isStrOf z (Value.str z t) = true := by simp [Value.isStrOf]
      rw [e1, e2]
      exact ⟨t', rfl⟩
    · have e1 : (z == y) = false := by simpa using e
      have e2 : Value.isStrOf z (Value.str y t) = false := by simp [Value.isStrOf]; exact fun h => e h.symm
      rw [e1, e2]
      exact ih
theorem keysLit_lit {P : Params} : ∀ (l : List (Str × Tok × Int × Tok)), PySem.W.KeysLit P ((l.map fun q => (⟨PyData.keyHash P q.1, Value.str q.1 q.2.1, Value.int q.2.2.1 q.2.2.2⟩ : DictEntry)).toArray).toList
  | [] => trivial
  | (y, t, i, t') :: l => ⟨⟨y, t, rfl, rfl⟩, by simpa using keysLit_lit l⟩
theorem wdct_mk {K : PySem.W.Frag} {mg : Str → Option Value} {w : World} {x : Str} {p : Addr} {n : Nat} (l : List (Str × Tok × Int × Tok)) (h1 : mg x = some (.ref p)) (h2 : (p == sysModules) = false)
    (h3 : K.lookup p = some ⟨.type "dict", none, .dict (l.map fun q => (⟨PyData.keyHash w.params q.1, Value.str q.1 q.2.1, Value.int q.2.2.1 q.2.2.2⟩ : DictEntry)).toArray n, #[]⟩) : WDct K mg w x (l.map fun q => (q.1, q.2.2.1)) :=
  ⟨p, _, n, h1, h2, h3, keysLit_lit l, findBy_lit l⟩
def getW (tab : List (Str × Int)) (x y : D) (h : Hs) : R D := match x, y with
  | .str z, .int j => .ok (.int ((tab.lookup z).getD j)) h
  | _, _ => .bad
section
variable {X : Cx} {G : Str} {tab : List (Str × Int)} {a b : Expr} {A B : Ev} {p apos cpos : Pos}
theorem de_getW (T : WDct X.K X.mg X.w G tab) (hg : Gl X G) (ha : DE X a A) (hb : DE X b B) (hdb : (G == ("__debug__" : Str)) = false := by decide)
    (hbase : attributeBase (.Name G p) "get" X.env (eval (.Name G p) X.env) = eval (.Name G p) X.env := by rfl)
    (hfew : ((backTo cpos (starEach [a, b] X.env)).all (fun x => !x.1) && (backToKw cpos (keywordEach [] X.env)).all (fun x => x.1.isSome)
      && decide (([a, b] : List Expr).length + ([] : List Keyword).length + (if ([] : List Keyword).isEmpty then 0 else 1) < 30)) = true := by rfl)
    (hline : (apos.endLine == cpos.line) = true := by rfl) (hs : starEach [a, b] X.env = (false, eval a X.env) :: starEach [b] X.env := by rfl) (hs2 : starEach [b] X.env = (false, eval b X.env) :: starEach [] X.env := by rfl) (hplain : (backTo cpos (starEach [b] X.env)).any (·.1) = false := by rfl) :
    DE X (.Call (.Attribute (.Name G p) "get" apos) [a, b] [] cpos) (e2 (getW tab) A B) := by
  obtain ⟨q, es, n, h1, h2, h3, h4, h5⟩ := T.ex
  refine ⟨fun {pins s τ H ρ e σ} I h => ?_⟩
  refine wpAny_Call_method_late hbase hfew hline rfl (ld_glob I.inv hg h1 ?_ hdb)
  have hm := PySem.W.mapOf_K (prog := X.prog) (w := X.w) I.inv.kIn h3 h4
  have hget : s.heap.get? q = some ⟨.type "dict", none, .dict es n, #[]⟩ := I.inv.kIn _ _ h3
  refine ⟨"dict", "dict.get", PySem.F.plainAttrs_dict, PySem.F.slot_dict_get, PySem.F.type_dict_get, hm.typeIs, (fun c hc => by cases hc; exact ⟨_, hget, rfl⟩), ?_⟩
  have hA := (da_cons ha (da_cons hb da_nil hs2) hs).thenA cpos (F := fun ds h2 => match ds with | [x, y] => getW tab x y h2 | _ => .bad) (f := fun us s2 => wpAny (model X.prog X.w) X.A (call (.builtin "dict.get") (.ref q :: us)) (EP X pins τ (GD X ρ H (e2 (getW tab) A B e σ))) X.xe s2) I (by
      have e0 : ((aCons A (aCons B aNil) e σ).bind fun ds h2 => match ds with | [x, y] => getW tab x y h2 | _ => .bad) = e2 (getW tab) A B e σ := by
        unfold aCons aNil e2
        cases A e σ with
        | ok x h1 =>
          show (R.bind (R.bind (R.bind (B e h1) _) _) _) = (B e h1).bind _
          cases B e h1 <;> rfl
        | _ => rfl
      rw [e0]; exact h) fun ds σ2 ρ2 vs us H2 s2 q2 I2 x2 rds rvs h2' => ?_
  · rw [hs] at hA ⊢
    exact Calls.callWith_builtin (by show (false || (backTo cpos (starEach [b] X.env)).any (·.1)) = false; rw [hplain] <;> rfl) (Calls.evalArgs_plain hA)
  · match ds, rds, h2', q2 with
    | [], _, h2', _ => exact absurd rfl h2'.nb
    | [_], _, h2', _ => exact absurd rfl h2'.nb
    | _ :: _ :: _ :: _, _, h2', _ => exact absurd rfl h2'.nb
    | [x, y], rds, h2', q2 =>
      have e0 : ∃ z j, x = .str z ∧ y = .int j := by
        have nb : getW tab x y σ2 ≠ .bad := h2'.nb
        unfold getW at nb
        split at nb
        · exact ⟨_, _, rfl, rfl⟩
        · exact absurd rfl nb
      obtain ⟨z, j, rfl, rfl⟩ := e0
      obtain ⟨v1, v2, rfl, r1, r2⟩ := rds2 rds
      obtain ⟨u1, u2, rfl, ru1, ru2⟩ := vals2 rvs
      cases r1
      cases r2
      obtain ⟨t1, rfl⟩ := ru1
      obtain ⟨t2, rfl⟩ := ru2
      have hm2 := PySem.W.mapOf_K (prog := X.prog) (w := X.w) I2.inv.kIn h3 h4
      have e1 : e2 (getW tab) A B e σ = .ok (.int ((tab.lookup z).getD j)) σ2 := by
        unfold aCons aNil at q2
        unfold e2
        cases qa : A e σ with
        | ok x' h1 =>
          rw [qa] at q2
          have q2' : ((R.bind (R.bind (B e h1) fun x h1 => R.bind (R.ok [] h1) fun xs h2 => R.ok (x :: xs) h2) fun xs h2 => R.ok (x' :: xs) h2) : R (List D)) = .ok [.str z, .int j] σ2 := q2
          cases qb : B e h1 with
          | ok y' h2 => rw [qb] at q2'; cases q2'; show R.bind (B e h1) _ = _; rw [qb]; rfl
          | exc c h2 => rw [qb] at q2'; cases q2'
          | bad => rw [qb] at q2'; cases q2'
        | exc c h1 => rw [qa] at q2; cases q2
        | bad => rw [qa] at q2; cases q2
      rw [e1]
      refine call_meetsIn PySem.F.slot_dict_get hm2.typeIs PySem.F.entry_dict_get (by first | exact PySem.F.args_dict_get_3 _ _ _ | (unfold argsOk; kernel_rfl)) (meets_dict_get_default (strKind X.prog X.w) q (strKind_is X.prog X.w z t1) h2 (.int j t2)) ⟨_, hm2, ?_⟩
      have h5' := h5 z
      cases hl : tab.lookup z with
      | some i =>
        rw [hl] at h5'
        obtain ⟨t3, e3⟩ := h5'
        rw [e3]
        exact ⟨.int i, H2, I2.inv.tok _, ⟨t3, rfl⟩, .int i, σ2, ρ2, by first | rfl | simp [hl], x2, I2.rs, rfl⟩
      | none =>
        rw [hl] at h5'
        rw [h5']
        exact ⟨.int j, H2, I2.inv.tok _, ⟨t2, rfl⟩, .int j, σ2, ρ2, by first | rfl | simp [hl], x2, I2.rs, rfl⟩
end
/-! ### len(o) of an own class -/
section
variable {X : Cx} {k n : Nat} {ps ks : List Str} {F : Fn} {gD : List D → List D → List D} {f : Addr}
theorem op_fnA {A' : Around} (DD : CalD X.prog X.w X.K X.mg X.base k ps F n ks gD f) (hr : Room k A') {pins s τ H ρ} {e : En} {σ : Hs} {ds zs : List D} {vs ws : List V} {us us2 : List Value} {Q : VK} (he : Env0 X.prog X.w X.K X.mg X.base A' X.stack s H)
    (I : SR X pins ρ e σ τ H s) (rds : RDs X.K ρ H ds vs) (rvs : Vals vs us) (rdz : RDs X.K ρ H zs ws) (rvz : Vals ws us2) (l1 : ds.length = n) (l2 : zs.length = ks.length) (h : Safe X ρ H τ (F (gD ds zs) σ)) (hq : ∀ v H', GD X ρ H (F (gD ds zs) σ) v H' → Q v H') :
    wpAny (model X.prog X.w) A' (call (.ref f) us (ks.zip us2)) (EP X pins τ Q) X.xe s := by
  obtain ⟨fd, g, gV, hF, hb, hrel, hlen⟩ := DD.ex
  have r2 := hb.rel rvs rvz
  have rall := hrel ρ H ds zs vs ws l1 l2 rds rdz
  have n1 : us.length = n := by rw [← rvs.length, ← rds.length]; exact l1
  have n2 : us2.length = ks.length := by rw [← rvz.length, ← rdz.length]; exact l2
  refine wpAny_call (codeAny_mono (hF.run A' X.stack s H ⟨us, ks.zip us2⟩ (g us us2) (gV vs ws) Q (fun cls d H' => WD X ρ H τ (F (gD ds zs) σ) cls d τ H') hr he (hb.to s us us2 I.inv.kIn n1 n2) r2
    ⟨by rw [← rall.length]; exact hlen ds zs l1 l2, ρ, gD ds zs, σ, I.rs, rall, h.nb, fun v H' z => hq v H' z, fun cls d H' ⟨c, σ', ρ', q1, q2, q3, q4⟩ => ⟨c, σ', ρ', q1, rfl, q2, q3, q4⟩⟩) fun r s' hq => ?_)
  cases r with
  | error er => exact h.tk er s' (XE.of_call (W := fun cls d σ' H' => σ' = τ ∧ WD X ρ H τ (F (gD ds zs) σ) cls d τ H') I.inv (fun cls d H' z => ⟨rfl, z⟩) hq |> fun z => by
      obtain ⟨a, B, sI, pins', σ', H', cls, d, e1, i, nb, up, sky, na, os, ag, e2, z⟩ := z
      subst e2
      exact ⟨a, B, sI, pins', σ', H', cls, d, e1, i, nb, up, sky, na, os, ag, z⟩)
  | ok fl =>
    cases fl with
    | ret u => exact I.inv.after hq
    | next => exact False.elim hq
    | brk => exact False.elim hq
    | cont => exact False.elim hq
end
def lenEnd (v : D) (h : Hs) : R D := match v with
  | .int i => if 0 ≤ i ∧ i < 2 ^ 63 then .ok (.int i) h else .bad
  | _ => .bad
def lenO (C : Str) (F : Fn) (x : D) (h : Hs) : R D := if isInsC C "__len__" h x then (run F [x] h).bind lenEnd else .bad
section
variable {X : Cx} {P : Program} {w : World} {K : PySem.W.Frag} {mg : Str → Option Value} {base : Heap} {k : Nat} {ps : List Str} {F : Fn} {C : Str} {p pos : Pos} {a : Expr} {A : Ev}
theorem de_lenO (DD : MdN P w K mg base C "__len__" k ps F 0 [] (fun a _ => a)) {k' : Nat} (hr : Room (k' + 1) X.A) (hk : k ≤ k') (hg : Gl X "len") (hm : X.mg "len" = none) (ha : DE X a A)
    (eq : X.prog = P ∧ X.w = w ∧ X.K = K ∧ X.mg = mg ∧ X.base = base := by exact ⟨rfl, rfl, rfl, rfl, rfl⟩) (na : starEach [a] X.env = (false, eval a X.env) :: starEach [] X.env := by rfl) :
    DE X (.Call (.Name "len" p) [a] [] pos) (e1 (lenO C F) A) := by
  obtain ⟨rfl, rfl, rfl, rfl, rfl⟩ := eq
  obtain ⟨c, f, hmg, hcl, hmt, hD⟩ := DD.ex
  refine ⟨fun {pins s τ H ρ e σ} I h => ?_⟩
  refine Call_ (ld_blt I.inv hg hm PySem.boot_len ?_)
  refine PyProof.Rows.callWith_builtin1 (PyProof.Rows.args_cons (ha.thenD I h fun d σ1 ρ1 v u H1 s1 q1 I1 x1 rd1 rv1 h1 => PyProof.Rows.args_nil ?_) na) na rfl
  by_cases ty : isInsC C "__len__" σ1 d = true
  · obtain ⟨a0, c0, dx, vs0, rfl, hm0, hH, hl⟩ := insC_at I1.rs rd1 ty
    rw [hmg] at hm0
    cases hm0
    cases rv1
    have e1' : lenO C F d σ1 = (run F [d] σ1).bind lenEnd := if_pos ty
    rw [e1'] at h1
    obtain ⟨mA, O, _⟩ := ins_get I1.inv.hok hH
    obtain ⟨od, J, _⟩ := O.look
    refine Calls.call_function_entry PySem.kind_len PySem.plain_len PySem.entry_len (PySem.args_len1 _) ?_
    unfold Builtin.«len»
    refine wpAny_bind (m := oneArg "len" _) (wpAny_pure ?_)
    refine wpAny_bind (m := callSpecial? (.ref a0) (Str.ofString "__len__")) (PySem.W.special_fn I1.inv.kIn J hmt.at_ (beq_iff_eq.mp hmt.fn) ?_)
    have hr1 : Room k X.A.in1 := (hr.in1).mono hk
    have hs : Safe X ρ1 H1 τ (F [d] σ1) := froz_safe h1.left I1.rs.len I1.rs
    refine wpAny_mono (op_fnA (A' := X.A.in1) (ds := [d]) (zs := []) (us := [.ref a0]) (vs := [.ref a0]) (us2 := []) (ws := []) hD hr1 I1.inv.env0.in1 I1 ⟨_, _, rfl, rd1, rfl⟩ (.cons rfl .nil) rfl .nil rfl rfl hs (Q := GD X ρ1 H1 (run F [d] σ1)) fun v H' g => froz_gd h1.left I1.rs g) (fun r s2 hr => ?_) fun _ _ y => y
    obtain ⟨v, H2, I2, rv, gd⟩ := hr
    obtain ⟨dd, σ2, ρ2, q2, x2, rs2, rd2⟩ := gd
    have h2 := h1.right q2 x2
    have nb := h2.nb
    cases dd with
    | int i =>
      by_cases hi : 0 ≤ i ∧ i < 2 ^ 63
      · have e3 : lenEnd (.int i) σ2 = .ok (.int i) σ2 := if_pos hi
        cases rd2
        obtain ⟨t, rfl⟩ := rv
        refine wpAny_bind (wpAny_holding (wpAny_pure ?_))
        refine wpAny_bind (wpAny_letGo ?_)
        show wpAny _ _ (if i < 0 then _ else _) _ _ _
        rw [if_neg (by omega)]
        show wpAny _ _ (if i ≥ 2 ^ 63 then _ else _) _ _ _
        rw [if_neg (by omega)]
        refine wpAny_bind (wpAny_mkInt (wpAny_pure ⟨_, rfl, .int i, H2, I2.tok _, ⟨_, rfl⟩, ?_⟩))
        refine GD.right (f := lenO C F) q1 x1 ?_
        rw [e1']
        exact GD.right (f := lenEnd) q2 x2 ⟨.int i, σ2, ρ2, e3, Ext.refl, rs2, rfl⟩
      · exact absurd (if_neg hi) nb
    | _ => exact absurd rfl nb
  · exact absurd (if_neg ty) h1.nb
end
end Lb

set_option Elab.async false
set_option linter.all false
set_option maxRecDepth 100000
set_option maxHeartbeats 4000000
namespace Lb
open PySem PySem.Spec PyProof.Rows L2
/-! ### {} -/
def eDict0 : Ev := fun _ h => .ok (.ref h.length) (h ++ [.dict []])
theorem de_dict0 {X : Cx} {pos : Pos} : DE X (.Dict [] [] pos) eDict0 := by
  refine ⟨fun {pins s τ H ρ e σ} I h => wpAny_Dict_empty ?_⟩
  have hn := I.inv.hok.fresh (Nat.le_refl s.heap.objs.size)
  have hb : (s.heap.objs.size == sysModules) = false := beq_eq_false_iff_ne.mpr (Ne.symm (Nat.ne_of_lt I.inv.big))
  have I0 := I.inv.laid (a := s.heap.objs.size) (o := .ext (DictPhi X.prog X.w s.heap.objs.size [])) (h' := s.heap.push { cls := .type "dict", data := .dict #[] }) (t' := s.toks) (fun _ _ q => Heap.get?_push_of_some _ q) (Nat.le_refl _) (dictPhi_new hb (Heap.get?_push_size _ rfl))
  exact ⟨.ref s.heap.objs.size, _, I0, rfl, .ref σ.length, σ ++ [.dict []], ρ ++ [s.heap.objs.size], rfl, Ext.new hn, I.rs.new (ob := .dict []) hn ⟨[], upd_same, .nil⟩, _, rfl, by rw [← I.rs.len]; simp⟩
/-! ### forms of calls -/
section
variable {P : Program} {w : World} {K : PySem.W.Frag} {mg : Str → Option Value} {base : Heap} {k : Nat} {ps : List Str} {F : Fn} {f : Addr} {fd : FuncData}
theorem kbn_all {n : Nat} (hb : Binds K fd ps []) (hn : ps.length = n) : KBn K fd ps n [] (fun us _ => us) (fun vs _ => vs) := by
  refine ⟨fun s us ws X h1 h2 => ?_, fun r _ => r⟩
  have := hb s us X (by rw [List.append_nil, h1, hn])
  rw [List.append_nil] at this
  have e : ws = [] := List.eq_nil_of_length_eq_zero h2
  subst e
  exact this
/-- every parameter by its place -/
theorem cal_all {n : Nat} (hF : FnD P w K mg base k f fd ps F) (hb : Binds K fd ps []) (hn : ps.length = n) : CalD P w K mg base k ps F n [] (fun a _ => a) f :=
  ⟨fd, _, _, hF, kbn_all hb hn, fun ρ H ds zs vs ws _ _ r _ => r, fun ds zs h1 _ => by rw [h1, hn]⟩
/-- with keywords; md: the lacking ones' defaults -/
theorem cal_kw {n : Nat} {ks : List Str} {g : List Value → List Value → List Value} {gV : List V → List V → List V} {gD : List D → List D → List D} (hF : FnD P w K mg base k f fd ps F) (hb : KBn K fd ps n ks g gV)
    (h1 : ∀ ρ H ds zs vs ws, ds.length = n → zs.length = ks.length → RDs K ρ H ds vs → RDs K ρ H zs ws → RDs K ρ H (gD ds zs) (gV vs ws)) (h2 : ∀ ds zs, ds.length = n → zs.length = ks.length → (gD ds zs).length = ps.length) : CalD P w K mg base k ps F n ks gD f :=
  ⟨fd, g, gV, hF, hb, h1, h2⟩
end
end Lb
namespace Lb
open PySem PySem.Spec PyProof.Rows L2
/-! ### what the top has left, piece by piece -/
section
variable {K : PySem.W.Frag} {mg : Str → Option Value}
theorem ExcD.nm {x : Str} (h : ExcD K mg x) : ∃ c, mg x = some c := let ⟨C, e, _⟩ := h.ex; ⟨_, e⟩
theorem fld_nil {f : Str} : FldOk K mg [] f := fun C hC => absurd hC (by simp)
theorem fld_cons {f C : Str} {c : Addr} {L : List Str} (hm : mg C = some (.ref c)) (hc : Cls K c) (hn : PySem.W.findIn K (.ref c) f = some none) (r : FldOk K mg L f) : FldOk K mg (C :: L) f := fun C' hC' c' hm' => by
  rcases List.mem_cons.mp hC' with e | z
  · subst e
    rw [hm] at hm'
    cases hm'
    exact ⟨hc, hn⟩
  · exact r C' z c' hm'
theorem mok_nil : MOk K mg [] := fun t ht => absurd ht (by simp)
theorem mok_cons {c x : Str} {vc vx : Value} {b : Bool} {M : List (Str × Str × Bool)} (hc : mg c = some vc) (hx : mg x = some vx) (h : PySem.W.exmOne K vc vx = some b) (r : MOk K mg M) : MOk K mg ((c, x, b) :: M) := fun t ht vc' vx' h1 h2 => by
  rcases List.mem_cons.mp ht with e | z
  · subst e
    rw [hc] at h1
    rw [hx] at h2
    cases h1
    cases h2
    exact h
  · exact r t z vc' vx' h1 h2
theorem exm_cls {C : Addr} {cls : Value} {b : Bool} (h1 : PySem.W.subIn K (.ref C) (.type "BaseException") = some true) (h2 : (PySem.W.clsIn K C).isSome = true) (h3 : PySem.W.typeIn K (.ref C) = some (.type "type")) (h4 : PySem.W.subIn K cls (.ref C) = some b) : PySem.W.exmOne K cls (.ref C) = some b := by
  have q1 : (PySem.W.subIn K (.ref C) (.type "BaseException") == some true) = true := by rw [h1] <;> rfl
  have q2 : ((PySem.W.clsIn K C).isSome && PySem.W.typeIn K (.ref C) == some (.type "type")) = true := by rw [h2, h3] <;> rfl
  show (if (PySem.W.subIn K (.ref C) (.type "BaseException") == some true) = true then (if ((PySem.W.clsIn K C).isSome && PySem.W.typeIn K (.ref C) == some (.type "type")) = true then PySem.W.subIn K cls (.ref C) else none) else none) = some b
  rw [if_pos q1, if_pos q2]
  exact h4
theorem kwd_cons {D : Addr} {x : Str} {v : V} {u : Value} {kws : List (Str × V)} (h : PySem.W.nsIn K D x = some (some u)) (r : RelV v u) (t : ∀ q ∈ kws, ∃ u, PySem.W.nsIn K D q.1 = some (some u) ∧ RelV q.2 u) : ∀ q ∈ (x, v) :: kws, ∃ u, PySem.W.nsIn K D q.1 = some (some u) ∧ RelV q.2 u := fun q hq => by
  rcases List.mem_cons.mp hq with e | z
  · subst e; exact ⟨u, h, r⟩
  · exact t q z
theorem kwd_nil {D : Addr} : ∀ q ∈ ([] : List (Str × V)), ∃ u, PySem.W.nsIn K D q.1 = some (some u) ∧ RelV q.2 u := fun q hq => absurd hq (by simp)
/-- a def with keyword-only defaults, as the top has left it -/
theorem funD_mk {x qual : Str} {st : Stmt} {f D : Addr} {oc : Value} {od an : Option Addr} {osl : Array (Option Value)} {doc pm cdv ct : Value} {kws : List (Str × V)} (l : K.lookup f = some ⟨oc, od, .func (PySem.W.fnOf x qual (defArgs st) (defBody st) (defScope st) .none (.ref D) doc pm an cdv ct), osl⟩)
    (c : PySem.W.codeIn K cdv qual = true) (k : PySem.W.keepIn K (.ref f) = true) (h : ∀ q ∈ kws, ∃ u, PySem.W.nsIn K D q.1 = some (some u) ∧ RelV q.2 u) : FunD K x qual (defArgs st) (defBody st) (defScope st) [] kws f (PySem.W.fnOf x qual (defArgs st) (defBody st) (defScope st) .none (.ref D) doc pm an cdv ct) :=
  ⟨⟨oc, od, .none, .ref D, doc, pm, an, cdv, ct, osl, rfl, l, c, .inl ⟨rfl, rfl⟩, .inr ⟨D, rfl, h⟩⟩, k⟩
end
end Lb
namespace Lb
open PySem PySem.Spec PyProof.Rows L2
/-- == within an except suite -/
theorem op_eqS {X : Cx} {a : Addr} {pn : List (Addr × Obj)} (g : Good X) : Op2 (X.suite a pn) (compareOp .Eq) eqD := op_eqU (by
  have h := g.un
  show X.A.units + 64 < cLine
  omega)
end Lb

set_option Elab.async false
set_option linter.all false
set_option maxRecDepth 100000
set_option maxHeartbeats 4000000
namespace Lb
open PySem PySem.Spec PyProof.Rows L2
/-! ### a def that calls itself: told level by level, the lowest never reached -/
def badFn : Fn := fun _ _ => .bad
theorem fnd_bad {P : Program} {w : World} {K : PySem.W.Frag} {mg : Str → Option Value} {base : Heap} {k : Nat} {f : Addr} {fd : FuncData} {ps : List Str} : FnD P w K mg base k f fd ps badFn := by
  have no : ∀ vs H Q E, ¬ spF P w K mg ps.length badFn vs H Q E := fun vs H Q E h => by
    obtain ⟨_, ρ, ds, σ, _, _, nb, _⟩ := h
    exact nb rfl
  exact ⟨fun vs H Q E h => absurd h (no _ _ _ _), fun A outer s H args us vs Q E a b c d h => absurd h (no _ _ _ _)⟩
end Lb

set_option Elab.async false
set_option linter.all false
set_option maxRecDepth 100000
set_option maxHeartbeats 4000000
namespace Lb
open PySem PySem.Spec PyProof.Rows L2
/-! ### range(i, j, -1) -/
def rngD (lo : Int) : Nat → List D
  | 0 => []
  | n + 1 => .int lo :: rngD (lo - 1) n
def iRngD (A : Es) : Iv := fun e h => (A e h).bind fun xs h1 => match xs with
  | [.int i, .int j, .int c] => if c = -1 ∧ -(2 ^ 62) ≤ i ∧ i < 2 ^ 62 ∧ -(2 ^ 62) ≤ j ∧ j < 2 ^ 62 then .ok (.fix (rngD i (i - j).toNat)) h1 else .bad
  | _ => .bad
theorem rngD_length : ∀ (n : Nat) (lo : Int), (rngD lo n).length = n
  | 0, _ => rfl
  | n + 1, lo => by rw [rngD, List.length_cons, rngD_length n]
theorem rngD_get : ∀ (n : Nat) (lo : Int) (i : Nat) (d : D), (rngD lo n)[i]? = some d → i < n ∧ d = .int (lo + (i : Nat) * (-1))
  | 0, _, _, _, h => by simp [rngD] at h
  | n + 1, lo, 0, d, h => by simp [rngD] at h; subst h; exact ⟨by omega, by simp⟩
  | n + 1, lo, i + 1, d, h => by
    obtain ⟨h1, h2⟩ := rngD_get n (lo - 1) i d (by simpa [rngD] using h)
    refine ⟨by omega, ?_⟩
    rw [h2]; congr 1; omega
section
variable {X : Cx} {tg : Expr} {pos : Pos} {a b c : Expr}
theorem jok_rngD {ρ0 H0} (lo : Int) (n : Nat) : JOk X ρ0 H0 (.fix (rngD lo n)) (Itc lo (-1) n) := by
  intro ρ H σ x rs
  refine ⟨fun i d hd => ?_, by rw [rngD_length]; exact Nat.le_refl n⟩
  obtain ⟨h1, rfl⟩ := rngD_get n lo i d hd
  refine ⟨h1, fun y H' hy => ?_⟩
  obtain ⟨e1, hy⟩ := hy
  subst e1
  subst hy
  exact ⟨Ext.refl, rs, rfl⟩
theorem di_rngD {p : Pos} {AS : Es} (hg : Gl X "range") (hm : X.mg "range" = none) (ha : DA X [a, b, c] AS) (hs : starEach [a, b, c] X.env = (false, eval a X.env) :: starEach [b, c] X.env := by rfl) (hpl : (backTo pos (starEach [b, c] X.env)).any (·.1) = false := by rfl) : DI X tg (.Call (.Name "range" p) [a, b, c] [] pos) (iRngD AS) := by
  refine ⟨fun {pins s τ H ρ e σ} I h => Call_ (ld_blt I.inv hg hm boot_range (PyProof.Rows.callWith_type1 (ha.thenA pos I h fun ds σ1 ρ1 vs us H1 s1 q1 I1 x1 rds rvs h1 => ?_) hs hpl))⟩
  obtain ⟨i, j, k, rfl, hb⟩ : ∃ i j k, ds = [.int i, .int j, .int k] ∧ (k = -1 ∧ -(2 ^ 62) ≤ i ∧ i < 2 ^ 62 ∧ -(2 ^ 62) ≤ j ∧ j < 2 ^ 62) := by
    have nb := h1.nb
    split at nb
    · exact ⟨_, _, _, rfl, nbad nb⟩
    · exact absurd rfl nb
  obtain ⟨v1, r1, rfl, q2, rds⟩ := rds
  obtain ⟨v2, r2, rfl, q3, rds⟩ := rds
  obtain ⟨v3, r3, rfl, q4, rds⟩ := rds
  cases rds; cases q2; cases q3; cases q4
  cases rvs with
  | cons w1 rvs =>
  cases rvs with
  | cons w2 rvs =>
  cases rvs with
  | cons w3 rvs =>
  cases rvs
  obtain ⟨t1, rfl⟩ := w1
  obtain ⟨t2, rfl⟩ := w2
  obtain ⟨t3, rfl⟩ := w3
  obtain ⟨rfl, b1, b2, b3, b4⟩ := hb
  obtain ⟨c0, c1, c2, c3⟩ := RgC.neg b1 b2 b3 b4
  refine call_range_3 c0 ?_ (.inl (PyProof.noPylong_small c1))
  refine wpAny_pyIter_range (IsRange.new ..) c2 ?_
  have I2 : Inv X pins τ H1 { s1 with heap := s1.heap.push { cls := .type "range", data := .fields #[.int i t1, .int j t2, .int (-1) t3] } } := I1.inv.kept (t' := s1.toks) fun b o e => Heap.get?_push_of_some _ e
  refine pi_one (tk := s1.toks) I2 _ (turn_rangeC _ i (-1) (i - j).toNat) ?_ ?_
  · have e1 : i + ((0 : Nat) : Int) * (-1) = i := by simp
    have e2 : (((i - j).toNat : Nat) : Int) - ((0 : Nat) : Int) = Builtin.Range.rangeSize i j (-1) := by rw [c3]; simp
    show IsRangeIter _ _ (i + ((0 : Nat) : Int) * (-1)) ((((i - j).toNat : Nat) : Int) - ((0 : Nat) : Int)) (-1)
    rw [e1, e2]
    exact Heap.get?_push_size _ rfl
  · exact GI.right (f := fun xs h1 => match xs with
      | [.int i, .int j, .int c] => if c = -1 ∧ -(2 ^ 62) ≤ i ∧ i < 2 ^ 62 ∧ -(2 ^ 62) ≤ j ∧ j < 2 ^ 62 then .ok (.fix (rngD i (i - j).toNat)) h1 else .bad
      | _ => .bad) q1 x1 ⟨.fix (rngD i (i - j).toNat), σ1, ρ1, if_pos ⟨rfl, b1, b2, b3, b4⟩, Ext.refl, I1.rs, jok_rngD _ _⟩
end
end Lb

set_option Elab.async false
set_option linter.all false
set_option maxRecDepth 100000
set_option maxHeartbeats 4000000
namespace Lb
open PySem PySem.Spec PyProof.Rows L2
/-! ### d.pop(k), the key a tuple that is there -/
def popDD (x : D) (xs : List D) (h : Hs) : R D := match x, xs with
  | .ref n, [k] => match h[n]? with
    | some (.dict kvs) => if k.isKey && decide (kvs.length ≤ sizeLine) then (match dget kvs k with | some d => .ok d (h.set n (.dict (ddel kvs k))) | none => .bad) else .bad
    | _ => .bad
  | _, _ => .bad
theorem popDD_nb {x : D} {xs : List D} {h : Hs} (nb : popDD x xs h ≠ .bad) : ∃ n k kvs d, x = .ref n ∧ xs = [k] ∧ h[n]? = some (.dict kvs) ∧ k.isKey = true ∧ kvs.length ≤ sizeLine ∧ dget kvs k = some d ∧ popDD x xs h = .ok d (h.set n (.dict (ddel kvs k))) := by
  unfold popDD at nb ⊢
  split at nb
  · rename_i n k
    cases hn : h[n]? with
    | none => rw [hn] at nb; exact absurd rfl nb
    | some o =>
      cases o with
      | dict kvs =>
        rw [hn] at nb
        dsimp only at nb
        by_cases q : (k.isKey && decide (kvs.length ≤ sizeLine)) = true
        · rw [if_pos q] at nb
          cases e : dget kvs k with
          | none => rw [e] at nb; exact absurd rfl nb
          | some d =>
            have q2 := q
            simp only [Bool.and_eq_true, decide_eq_true_eq] at q2
            exact ⟨n, k, kvs, d, rfl, rfl, hn, q2.1, q2.2, e, by simp only [hn, if_pos q, e]⟩
        · rw [if_neg q] at nb; exact absurd rfl nb
      | _ => rw [hn] at nb; exact absurd rfl nb
  · exact absurd rfl nb
def withoutV (xs : List (NestedKey × Addr × V)) (k : NestedKey) : List (NestedKey × Addr × V) := xs.filter fun x => decide (x.1 ≠ k)
theorem filter_rel {α β : Type} {F : α → β → Prop} {p : α → Bool} {q : β → Bool} (hpq : ∀ a b, F a b → p a = q b) : ∀ {xs : List α} {ys : List β}, Paired F xs ys → Paired F (xs.filter p) (ys.filter q)
  | _, _, .nil => .nil
  | x :: xs, y :: ys, .cons h t => by
    have e := hpq _ _ h
    cases hp : p x with
    | true => rw [List.filter_cons_of_pos hp, List.filter_cons_of_pos (by rw [← e]; exact hp)]; exact .cons h (filter_rel hpq t)
    | false => rw [List.filter_cons_of_neg (by rw [hp]; exact Bool.false_ne_true), List.filter_cons_of_neg (by rw [← e, hp]; exact Bool.false_ne_true)]; exact filter_rel hpq t
theorem find_rel {K : PySem.W.Frag} {ρ : List Addr} {H : Hp} {kvs : List (D × D)} {kvh : List (NestedKey × Addr × V)} {k d : D}
    (hp : Paired (fun (p : D × D) (q : NestedKey × Addr × V) => q.1 = p.1.key ∧ p.1.isKey = true ∧ RD K ρ H p.1 (.ref q.2.1) ∧ RD K ρ H p.2 q.2.2) kvs kvh) (e : dget kvs k = some d) : ∃ b v, (kvh.find? fun x => decide (x.1 = k.key)) = some (k.key, b, v) ∧ RD K ρ H d v := by
  unfold dget at e
  induction hp with
  | nil => cases e
  | @cons p q ps qs h1 h2 ih =>
    by_cases hk : p.1.key = k.key
    · have hk' : q.1 = k.key := h1.1.trans hk
      rw [List.find?_cons_of_pos (by simpa using hk)] at e
      rw [List.find?_cons_of_pos (by simpa using hk')]
      cases e
      obtain ⟨k', b, v⟩ := q
      dsimp only at hk'
      subst hk'
      exact ⟨b, v, rfl, h1.2.2.2⟩
    · have hk' : ¬ q.1 = k.key := fun z => hk (h1.1.symm.trans z)
      rw [List.find?_cons_of_neg (by simpa using hk)] at e
      rw [List.find?_cons_of_neg (by simpa using hk')]
      exact ih e
theorem at_rel {kvh : List (NestedKey × Addr × V)} {xs : List (NestedKey × Addr × Value)} {k : NestedKey} {b : Addr} {v : V} (h : Paired (fun (p : NestedKey × Addr × V) (q : NestedKey × Addr × Value) => p.1 = q.1 ∧ p.2.1 = q.2.1 ∧ RelV p.2.2 q.2.2) kvh xs)
    (e : (kvh.find? fun x => decide (x.1 = k)) = some (k, b, v)) : ∃ u, atKey xs k = some (b, u) ∧ RelV v u := by
  unfold atKey
  induction h with
  | nil => cases e
  | @cons p q ps qs h1 h2 ih =>
    by_cases hk : p.1 = k
    · have hk' : q.1 = k := h1.1 ▸ hk
      rw [List.find?_cons_of_pos (by simpa using hk)] at e
      rw [List.find?_cons_of_pos (by simpa using hk')]
      cases e
      obtain ⟨k', b', u⟩ := q
      obtain ⟨h3, h4, h5⟩ := h1
      dsimp only at h4 h5
      subst h4
      exact ⟨u, rfl, h5⟩
    · have hk' : ¬ q.1 = k := fun z => hk (h1.1.trans z)
      rw [List.find?_cons_of_neg (by simpa using hk)] at e
      rw [List.find?_cons_of_neg (by simpa using hk')]
      exact ih e
theorem om_dpop {X : Cx} (g : Good X) : OpM X "dict.pop" popDD := by
  intro pins s τ H ρ e σ x xs v vs u us I rd rv rds rvs h
  obtain ⟨n, k, kvs, d, rfl, rfl, hn, hk, hz, hg, e1⟩ := popDD_nb h.nb
  rw [e1]
  obtain ⟨a, kvh, xs3, rfl, ha, hH, hzz, hsm, hpp, hx, hd⟩ := I.dict rd hn
  cases rv
  obtain ⟨vy, rfl, ry⟩ := rds1 rds
  obtain ⟨uy, rfl, ru⟩ := rvs.one
  obtain ⟨ks, ek, _⟩ := isKey_spec hk
  subst ek
  obtain ⟨c, ws, rfl, _⟩ := id ry
  cases ru
  have key := I.key hk ry
  have hroom : (nestedKind X.prog X.w).room X.A.in1 := by show X.A.units + 1 + 8 < cLine; have := g.un; omega
  obtain ⟨b, v, hf, rdv⟩ := find_rel hpp hg
  obtain ⟨u, hat, ruv⟩ := at_rel hx hf
  have l1 := pLen hpp
  have l2 := pLen hx
  refine call_pop_heap (knd := nestedKind X.prog X.w) (.inl rfl) (F.args_dict_pop_2 _ _) hroom key hsm hd hat (fun h' hd' hsb => ?_) (by omega)
  have rel' : Paired (fun (p : NestedKey × Addr × V) (q : NestedKey × Addr × Value) => p.1 = q.1 ∧ p.2.1 = q.2.1 ∧ RelV p.2.2 q.2.2) (withoutV kvh (D.tup ks).key) (withoutH xs3 (D.tup ks).key) := filter_rel (fun a b z => by rw [z.1]) hx
  have p : DictPhi X.prog X.w a (withoutV kvh (D.tup ks).key) h' := DictPhi.of (Nat.le_trans (List.length_filter_le _ _) (by omega)) hsm rel' hd'
  have xe : Ext ρ ρ H (upd H a (.ext (DictPhi X.prog X.w a (withoutV kvh (D.tup ks).key)))) := Ext.put (List.mem_of_getElem? ha)
  refine ⟨v, _, Inv.dput I.inv hH hsb p, ruv, d, _, ρ, rfl, xe, I.rs.put ha ⟨_, upd_same, ?_⟩, RD.ext xe _ _ rdv⟩
  have rel2 : Paired (fun (p : D × D) (q : NestedKey × Addr × V) => q.1 = p.1.key ∧ p.1.isKey = true ∧ RD X.K ρ H p.1 (.ref q.2.1) ∧ RD X.K ρ H p.2 q.2.2) (ddel kvs (.tup ks)) (withoutV kvh (D.tup ks).key) := filter_rel (fun a b z => by rw [z.1]) hpp
  exact pimp rel2 fun p q ⟨h1, h2, h3, h4⟩ => ⟨h1, h2, RD.ext xe _ _ h3, RD.ext xe _ _ h4⟩
end Lb

set_option Elab.async false
set_option linter.all false
set_option maxRecDepth 100000
set_option maxHeartbeats 4000000
/-! ### t[::-1] of a tuple -/
namespace HT
open PySem PySem.Spec PyProof.Rows
section
variable {prog : Program} {w : World} {A : Around} {E : Value → Shared → Prop} {s : Shared}
theorem adjust_rev (n : Nat) : Builtin.Slice.sliceAdjust none none (-1) (n : Int) = ((n : Int) - 1, -1) := by
  unfold Builtin.Slice.sliceAdjust
  simp
theorem places_rev (n : Nat) : Builtin.Slice.slicePlaces ((n : Int) - 1) (-1) (-1) = n := by
  unfold Builtin.Slice.slicePlaces
  simp
  split <;> omega
theorem fm_congr {α β : Type} {f g : α → Option β} : ∀ {l : List α}, (∀ x ∈ l, f x = g x) → l.filterMap f = l.filterMap g
  | [], _ => rfl
  | x :: l, h => by rw [List.filterMap_cons, List.filterMap_cons, h x List.mem_cons_self, fm_congr fun y hy => h y (List.mem_cons_of_mem _ hy)]
theorem pick_rev (xs : Array Value) : ((List.range xs.size).filterMap fun (m : Nat) => xs[(((xs.size : Nat) : Int) - 1 + (m : Int) * (-1)).toNat]?).toArray = xs.toList.reverse.toArray := by
  have h := PySem.W.krv_pick xs
  unfold slicePick at h
  rw [PySem.W.krv_bounds] at h
  have e : sliceRange ((xs.size : Int) - 1) (-1) (-1) = (List.range xs.size).map fun k => xs.size - 1 - k := PySem.W.krv_sliceRange _
  have h' : ((sliceRange ((xs.size : Int) - 1) (-1) (-1)).filterMap (xs[·]?)).toArray = xs.toList.reverse.toArray := h
  rw [e, List.filterMap_map] at h'
  rw [← h']
  congr 1
  refine fm_congr fun m hm => ?_
  have := List.mem_range.mp hm
  show _ = xs[xs.size - 1 - m]?
  rw [show (((xs.size : Nat) : Int) - 1 + (m : Int) * (-1)).toNat = xs.size - 1 - m by omega]
theorem sliceApplied_rev {sl : Addr} {vl vu vs : Value} {n : Nat} {Q : Int × Int × Nat → Shared → Prop} (hs : s.heap.IsSliceOf sl vl vu vs) (pl : IsPart vl none) (pu : IsPart vu none) (ps : IsPart vs (some (-1)))
    (h : Q (((n : Int) - 1), -1, n) s) : wpAny (model prog w) A (Builtin.Slice.sliceApplied (.ref sl) (pure (n : Int))) Q E s := by
  obtain ⟨os, hos, hcs, hds⟩ := id hs
  unfold Builtin.Slice.sliceApplied Builtin.Slice.sliceFields
  refine wpAny_bind (wpAny_bind (wpAny_field hos hds (x := vl) rfl (wpAny_bind (wpAny_field hos hds (x := vu) rfl (wpAny_bind (wpAny_field hos hds (x := vs) rfl (wpAny_pure ?_)))))))
  refine wpAny_bind (slicePart_ ps ?_)
  show wpAny _ _ (if ((-1 : Int) == 0) = true then _ else _) _ _ s
  rw [if_neg (by decide)]
  refine wpAny_bind (slicePart_ pl (wpAny_bind (slicePart_ pu (wpAny_bind (wpAny_pure ?_)))))
  show wpAny _ _ (match Builtin.Slice.sliceAdjust none none (-1) (n : Int) with | (lo, hi) => pure (lo, (-1 : Int), Builtin.Slice.slicePlaces lo hi (-1))) _ _ s
  rw [adjust_rev n]
  show wpAny _ _ (pure (((n : Int) - 1), (-1 : Int), Builtin.Slice.slicePlaces ((n : Int) - 1) (-1) (-1))) _ _ s
  rw [places_rev]
  exact wpAny_pure h
theorem getItem_tuple_rev {t sl : Addr} {items : Array Value} {vl vu vs : Value} {Q : Value → Shared → Prop} (ht : IsTup s.heap t items) (hs : s.heap.IsSliceOf sl vl vu vs) (pl : IsPart vl none) (pu : IsPart vu none) (ps : IsPart vs (some (-1)))
    (h : Q (.ref s.heap.objs.size) { s with heap := s.heap.push { cls := .type "tuple", data := .seq items.toList.reverse.toArray } })
    (hsz : items.size ≤ sizeLine) : wpAny (model prog w) A (getItem (.ref t) (.ref sl)) Q E s := by
  have htake : sizeOk (.seq items.toList.reverse.toArray) := by
    show items.toList.reverse.toArray.size ≤ sizeLine
    rw [List.size_toArray, List.length_reverse, Array.length_toList]
    exact hsz
  obtain ⟨os, hos, hcs, hds⟩ := id hs
  have hTs : s.TypeIs (.ref sl) "slice" := ⟨os, hos, hcs⟩
  unfold getItem
  try with_reducible refine wpAny_holding ?_
  first | refine wpAny_bind (wpAny_pure ?_) | skip
  refine wpAny_bind (wpAny_sequenceKey ht.typeIs (by decide) ?_)
  refine wpAny_bind (wpAny_callSpecial?_slot (name := Str.ofString "__getitem__") ht.typeIs PyProof.Rows.slot_tuple_getitem
    (wpAny_call_entry PyProof.Rows.slot_tuple_getitem ht.typeIs entry_tuple_getitem ?_ (args_tuple_getitem _ _)))
  show wpAny _ _ (Builtin.Tuple.tupleItemsOf (.ref t) >>= _) _ _ s
  refine wpAny_bind (tupleItemsOf_ ht ?_)
  refine wpAny_bind (wpAny_typeOf hTs ?_)
  rw [if_pos (by decide)]
  refine wpAny_bind (sliceApplied_rev hs pl pu ps ?_)
  have hno : ¬ ((((items.size : Int) - 1) == 0 && (-1 : Int) == 1 && items.size == items.size) = true) := by
    intro q
    rw [Bool.and_eq_true, Bool.and_eq_true] at q
    exact absurd q.1.2 (by decide)
  show wpAny _ _ (if (((items.size : Int) - 1) == 0 && (-1 : Int) == 1 && items.size == items.size) = true then _ else _) _ _ s
  rw [if_neg hno, pick_rev]
  first
    | exact wpAny_bind (m := Builtin.Tuple.tupleExact _) (wpAny_newObj_type (wpAny_pure ⟨_, rfl, wpAny_pure h⟩) htake)
    | exact wpAny_bind (m := Builtin.Tuple.tupleExact _) (wpAny_newObj_type (wpAny_bind (wpAny_pure (wpAny_pure ⟨_, rfl, wpAny_pure h⟩))) htake)
    | exact wpAny_bind (wpAny_bind (m := Builtin.Tuple.tupleExact _) (wpAny_newObj_type (wpAny_pure (wpAny_pure ⟨_, rfl, wpAny_pure h⟩)) htake))
    | exact wpAny_bind (wpAny_bind (m := Builtin.Tuple.tupleExact _) (wpAny_newObj_type (wpAny_pure ⟨_, rfl, wpAny_pure h⟩) htake))
/-- list.__setitem__ with a slice, the end behind the list too -/
theorem bounds_run' {a c n : Nat} (hac : a ≤ c) (ha : a ≤ n) : sliceBounds (some (a : Int)) (some (c : Int)) none n = ((a : Int), ((min c n : Nat) : Int), 1) := by
  simp only [sliceBounds, Option.getD_none]
  have h1 : ¬ ((a : Int) < 0) := by omega
  have h2 : ¬ ((c : Int) < 0) := by omega
  simp only [h1, h2, if_false, show (1 : Int) > 0 by decide, if_true]
  congr 1
  · omega
  · congr 1; omega
set_option maxRecDepth 100000 in
theorem setItem_slice' {l b sl : Addr} {items new : Array Value} {n n2 : Nat} {vl vu : Value} {a c0 : Nat} {Q : Unit → Shared → Prop}
    (e : s.heap.get? l = some { cls := .type "list", data := .seq items n }) (e2 : s.heap.get? b = some { cls := .type "list", data := .seq new n2 }) (hne : l ≠ b)
    (hs : s.heap.IsSliceOf sl vl vu .none) (pl : IsPart vl (some (a : Int))) (pu : IsPart vu (some (c0 : Int))) (hac0 : a ≤ c0) (ha : a ≤ items.size)
    (hsz : items.size + new.size ≤ sizeLine) (h : Q () { s with heap := s.heap.update l (Obj.mapSeq fun xs => xs.extract 0 a ++ new ++ xs.extract (min c0 items.size) xs.size) }) :
    wpAny (model prog w) A (setItem (.ref l) (.ref sl) (.ref b)) Q E s := by
  have hl : s.heap.IsList l items := PySem.IsL.isList e
  have hb : s.heap.IsList b new := PySem.IsL.isList e2
  obtain ⟨os, hos, hcs, hds⟩ := id hs
  have hTs : s.TypeIs (.ref sl) "slice" := ⟨os, hos, hcs⟩
  have hstep : ¬ ((rawPart none == rawInt 0) = true) := Bool.false_ne_true
  have hsame : Builtin.List.listSameRef (.ref l) (.ref b) = false := by
    unfold Builtin.List.listSameRef
    exact beq_eq_false_iff_ne.mpr hne
  generalize hc : min c0 items.size = c at h
  have hac : a ≤ c := by omega
  have hci : c ≤ items.size := by omega
  have hmax : (max (a : Int) (c : Int)).toNat = c := by omega
  have hz' : ((fun xs : Array Value => xs.extract 0 a ++ new ++ xs.extract c xs.size) items).size ≤ sizeLine + 1 := by
    simp only [Array.size_append, Array.size_extract]
    omega
  unfold setItem
  try with_reducible refine wpAny_holding ?_
  first | refine wpAny_bind (wpAny_pure ?_) | skip
  refine wpAny_bind (wpAny_sequenceKey hl.typeIs (by decide) ?_)
  refine wpAny_bind (wpAny_callSpecial?_slot (name := Str.ofString "__setitem__") hl.typeIs slot_list_setitem
    (wpAny_call_entry slot_list_setitem hl.typeIs entry_list_setitem ?_ (args_list_setitem _ _ _)))
  show wpAny _ _ (Builtin.List.listSubscript? (.ref sl) >>= _) _ _ s
  refine wpAny_bind ?_
  unfold Builtin.List.listSubscript?
  refine wpAny_bind (wpAny_specialOf hTs slice_no_index ?_)
  simp only [Option.isNone_none, if_true]
  refine wpAny_pure ?_
  show wpAny _ _ (typeOf (.ref sl) >>= _) _ _ s
  refine wpAny_bind (wpAny_typeOf hTs ?_)
  first
    | rw [if_neg (by decide)]
    | refine PySem.W.KFB.if_not (by decide) ?_
  rw [listSliceParts_eq]
  refine wpAny_bind (wpAny_bind (wpAny_field hos hds (x := .none) rfl (wpAny_bind (wpAny_listPart .none ?_))))
  rw [if_neg hstep]
  refine wpAny_bind (wpAny_field hos hds (x := vl) rfl (wpAny_bind (wpAny_listPart pl ?_)))
  refine wpAny_bind (wpAny_field hos hds (x := vu) rfl (wpAny_bind (wpAny_listPart pu (wpAny_pure ?_))))
  first
    | simp only [hsame, Bool.false_eq_true, if_false]
    | refine PySem.W.KFB.if_not hsame ?_
    | (dsimp only
       rw [if_neg (by rw [hsame]; exact Bool.false_ne_true)])
  refine wpAny_bind (m := Builtin.List.listAllItems (.ref b) "must assign iterable to extended slice") ?_
  unfold Builtin.List.listAllItems
  refine wpAny_bind (wpAny_typeOf hb.typeIs ?_)
  first
    | refine PySem.W.KFB.if_so (by decide) ?_
    | rw [if_pos (by decide)]
    | simp only [beq_self_eq_true, Bool.true_or, if_true]
  unfold Builtin.List.listItems
  refine wpAny_bind (wpAny_seqItems e2 rfl (wpAny_pure ?_))
  refine wpAny_bind (wpAny_bind (wpAny_seqItems e rfl (wpAny_pure ?_)))
  refine wpAny_bind (wpAny_of_eq ((sliceIndices_raw (some (a : Int)) (some (c0 : Int)) none items.size (by simp)).trans (congrArg (pure : Int × Int × Int → Sem (Int × Int × Int)) ((bounds_run' hac0 ha).trans (by rw [hc])))) ?_)
  show wpAny _ _ (if ((1 : Int) == 1) = true then _ else _) _ _ s
  rw [if_pos (by decide)]
  refine wpAny_bind (wpAny_rule ?_)
  first
    | simp only [L2.notLongL hsz, Bool.false_eq_true, if_false]
    | refine PySem.W.KFB.if_not (L2.notLongL hsz) ?_
  first | refine wpAny_bind (wpAny_pure ?_) | skip
  show wpAny _ _ (updateSeq l (fun xs => xs.extract 0 ((a : Int)).toNat ++ new ++ xs.extract (max (a : Int) (c : Int)).toNat xs.size) >>= _) _ _ s
  rw [hmax, Int.toNat_natCast]
  refine wpAny_bind (wpAny_updateSeq (hz := Nat.le_trans (Nat.le_add_right _ _) hsz) (_hz' := hz') e rfl ?_)
  refine wpAny_bind (wpAny_letGo ?_)
  first
    | exact wpAny_bind (wpAny_pure (wpAny_pure ⟨.none, rfl, wpAny_pure h⟩))
    | exact wpAny_pure ⟨.none, rfl, wpAny_pure h⟩
end
end HT
namespace Lb
open PySem PySem.Spec PyProof.Rows L2
/-- x[::-1]: of a tuple; of a list a new list -/
def revD (x : D) (h : Hs) : R D := match x with
  | .tup xs => .ok (.tup xs.reverse) h
  | _ => .bad
def revLD (x : D) (h : Hs) : R (List D) := match listOf h x with
  | some xs => .ok xs.reverse h
  | none => .bad
def lRev (A : Ev) : Ln := fun e h => (A e h).bind revLD
theorem RDs.rev {K : PySem.W.Frag} {ρ : List Addr} {H : Hp} : ∀ {ds : List D} {vs : List V}, RDs K ρ H ds vs → RDs K ρ H ds.reverse vs.reverse
  | [], _, h => by cases h; exact rfl
  | d :: ds, _, ⟨v, r, e, h1, h2⟩ => by subst e; rw [List.reverse_cons, List.reverse_cons]; exact (RDs.rev h2).append (.one h1)
section
variable {X : Cx} {a : Expr} {A : Ev} {k : Nat} {p1 p2 p3 pos : Pos}
theorem de_rev (ha : DE X a A) : DE X (.Subscript a (.Slice none none (some (.UnaryOp .USub (.Constant (.int 1) k p1) p2)) p3) pos) (e1 revD A) := by
  refine ⟨fun {pins s τ H ρ e σ} I h => ?_⟩
  refine Subscript_ (ha.thenD I h fun x σ1 ρ1 v w H1 s1 q1 I1 x1 rd rv h1 => ?_)
  obtain ⟨xs, rfl⟩ : ∃ xs, x = .tup xs := by
    cases x with
    | tup xs => exact ⟨xs, rfl⟩
    | _ => exact absurd rfl h1.nb
  obtain ⟨p, vs, rfl, t, rds⟩ := id rd
  cases rv
  have hst : PO X (some (.UnaryOp .USub (.Constant (.int 1) k p1) p2)) (tPart (tUn (rU fun i => .int (-i)) (tC (.int 1)))) := po_some (pe_un un_neg pe_int)
  refine wpAny_Slice (thn (po_none.run pins s1 τ H1 (fun o H2 => o = none ∧ H2 = H1) I1.inv ⟨rfl, rfl⟩) fun vl s2 ⟨l, H2, I2, pl, el, e2⟩ => ?_)
  subst el e2
  refine thn (po_none.run pins s2 τ H2 (fun o H3 => o = none ∧ H3 = H2) I2 ⟨rfl, rfl⟩) fun vu s3 ⟨u, H3, I3, pu, eu, e3⟩ => ?_
  subst eu e3
  refine thn (hst.run pins s3 τ H3 (fun o H4 => o = some (-1) ∧ H4 = H3) I3 ⟨1, rfl, -1, rfl, rfl, rfl⟩) fun vt s4 ⟨o, H4, I4, ps, eo, e4⟩ => ?_
  subst eo e4
  have I5 : Inv X pins τ H4 { s4 with heap := s4.heap.push { cls := .type "slice", data := .fields #[vl, vu, vt] } } := I4.kept (t' := s4.toks) fun b ob q => Heap.get?_push_of_some _ q
  obtain ⟨its, r, ht, hz⟩ := I5.tuple t.seq
  have hlen := r.length
  show wpAny (model X.prog X.w) X.A (subscriptTail a (.Slice none none (some (.UnaryOp .USub (.Constant (.int 1) k p1) p2)) p3) (.ref p) (.ref s4.heap.objs.size)) _ X.xe { s4 with heap := s4.heap.push { cls := .type "slice", data := .fields #[vl, vu, vt] } }
  refine tail_any (ops := [.ref p, .ref s4.heap.objs.size]) ht.typeIs (PyProof.Rows.slot_tuple_getitem.lookup) ?_ (by with_unfolding_all rfl)
  refine HT.getItem_tuple_rev ht (Heap.IsSliceOf.new _ vl vu vt) pl pu ps ?_ (by rw [List.size_toArray]; omega)
  have hp := I5.hok.fresh (Nat.le_refl _)
  have I6 : SR X pins ρ1 e σ1 τ H4 { s4 with heap := s4.heap.push { cls := .type "slice", data := .fields #[vl, vu, vt] } } := ⟨I5, I1.rs, I1.re⟩
  refine ⟨.ref _, _, I5.laid (t' := s4.toks) (o := .tup vs.reverse) (fun b ob q => Heap.get?_push_of_some _ q) (Nat.le_refl _) ?_, rfl, ?_⟩
  · exact ⟨by rw [List.length_reverse]; exact hz, _, r.reverse, ⟨_, Heap.get?_push_size _ rfl, rfl, 0, rfl⟩⟩
  · exact GD.right (f := fun x h1 => revD x h1) q1 x1 (gd_tup I6 hp rds.rev)
theorem dn_rev (ha : DE X a A) : DN X (.Subscript a (.Slice none none (some (.UnaryOp .USub (.Constant (.int 1) k p1) p2)) p3) pos) (lRev A) := by
  refine ⟨fun {pins s τ H ρ e σ} I h => ?_⟩
  refine (pe_revL (pe_of ha)).run pins s τ H _ I.inv ⟨ρ, e, σ, I.rs, I.re, h.left, fun v H' ⟨d, σ', ρ', q, x, rs, rd⟩ => ?_⟩
  have nb := (h.right q x).nb
  cases hl : listOf σ' d with
  | none => exact absurd (by simp only [revLD, hl]) nb
  | some xs =>
    obtain ⟨p, vs, rfl, hq, rds⟩ := list_at rs rd hl
    refine ⟨p, vs, rfl, hq, fun p' hp' => ?_⟩
    exact ⟨xs.reverse, σ', ρ', H', p', vs.reverse, by unfold lRev; rw [q]; show revLD d σ' = _; simp only [revLD, hl], x, rs, rds.rev, hp', rfl, rfl⟩
end
/-! ### xs[a:b] = a list -/
def setSlD (o : D) (lo hi : Option Int) (v : D) (h : Hs) : R Unit := match o, lo, hi, v with
  | .ref n, some a, some c, .lst ys => match h[n]? with
    | some (.lst xs) => if 0 ≤ a ∧ a ≤ c ∧ a ≤ xs.length ∧ xs.length + ys.length ≤ sizeLine then .ok () (h.set n (.lst (xs.take a.toNat ++ ys ++ xs.drop c.toNat))) else .bad
    | _ => .bad
  | _, _, _, _ => .bad
def sPutSl (A O : Ev) (P Q : Po) : Sv := fun e h => (A e h).st e fun v h1 => (O e h1).st e fun o h2 => (P e h2).st e fun lo h3 => (Q e h3).st e fun hi h4 => (setSlD o lo hi v h4).st e fun _ h5 => .nx e h5
theorem setSl_nb {o v : D} {lo hi : Option Int} {h : Hs} (nb : setSlD o lo hi v h ≠ .bad) : ∃ n a c xs ys, o = .ref n ∧ lo = some a ∧ hi = some c ∧ v = .lst ys ∧ h[n]? = some (.lst xs) ∧ (0 ≤ a ∧ a ≤ c ∧ a ≤ xs.length ∧ xs.length + ys.length ≤ sizeLine) ∧
    setSlD o lo hi v h = .ok () (h.set n (.lst (xs.take a.toNat ++ ys ++ xs.drop c.toNat))) := by
  unfold setSlD at nb ⊢
  split at nb
  · rename_i n a c ys
    cases hn : h[n]? with
    | none => rw [hn] at nb; exact absurd rfl nb
    | some ob =>
      cases ob with
      | lst xs =>
        rw [hn] at nb
        dsimp only at nb
        have hz := nbad nb
        exact ⟨n, a, c, xs, ys, rfl, rfl, rfl, rfl, hn, hz, by simp only [hn, if_pos hz]⟩
      | _ => rw [hn] at nb; exact absurd rfl nb
  · exact absurd rfl nb
theorem DP.thenF {X : Cx} {x : Option Expr} {A : Po} (hx : DP X x A) {pins s τ H ρ} {e : En} {σ : Hs} {F : Option Int → Hs → Fl} {f : Value → Shared → Prop} (I : SR X pins ρ e σ τ H s) (h : SafeF X ρ H ((A e σ).st e F))
    (k : ∀ d σ1 ρ1 u H1 s1, A e σ = .ok d σ1 → SR X pins ρ1 e σ1 τ H1 s1 → Ext ρ ρ1 H H1 → IsPart u d → SafeF X ρ1 H1 (F d σ1) → f u s1) :
    wpAny (model X.prog X.w) X.A (evalPart x X.env) f X.xe s := by
  refine thn (hx.run I (SafeF.of I h)) fun u s1 ⟨d, σ1, ρ1, H1, q1, i, x1, rs, ip⟩ => ?_
  exact k d σ1 ρ1 u H1 s1 q1 (I.next i x1 rs) x1 ip (SafeF.right (k := F) h q1 x1)
section
variable {X : Cx} {a o : Expr} {lo hi : Option Expr} {A O : Ev} {PA PB : Po} {p2 tpos pos : Pos}
theorem setSl_ok {pins s τ H ρ} {e : En} {σ : Hs} {od v : D} {l u : Option Int} {vo vv : V} {uo uv vl vu : Value} {sl : Addr} (I : SR X pins ρ e σ τ H s) (ro : RD X.K ρ H od vo) (rvo : RelV vo uo) (rv : RD X.K ρ H v vv) (rvv : RelV vv uv)
    (hs : s.heap.IsSliceOf sl vl vu .none) (pl : IsPart vl l) (pu : IsPart vu u) (nb : setSlD od l u v σ ≠ .bad) : wpAny (model X.prog X.w) X.A (setItem uo (.ref sl) uv) (fun _ s' => ∃ H', Inv X pins τ H' s' ∧ GU X ρ H (setSlD od l u v σ) H') X.xe s := by
  obtain ⟨n, a, c, xs, ys, rfl, rfl, rfl, rfl, hn, ⟨h0, h1, h2, h3⟩, e1⟩ := setSl_nb nb
  rw [e1]
  obtain ⟨p, ws, rfl, ha, hH, rr⟩ := I.rs.lst ro hn
  obtain ⟨q, zs, rfl, ⟨hB, hq⟩, rz⟩ := rv
  cases rvo
  cases rvv
  have hne : p ≠ q := fun z => hq (z ▸ List.mem_of_getElem? ha)
  obtain ⟨z, its, k, r, hl, e⟩ := I.inv.lstM hH
  obtain ⟨z2, its2, k2, r2, hl2, e2⟩ := I.inv.lstM hB
  obtain ⟨a', rfl⟩ := Int.eq_ofNat_of_zero_le h0
  obtain ⟨c', rfl⟩ := Int.eq_ofNat_of_zero_le (Int.le_trans h0 h1)
  have l1 := rr.length
  have l2 := rz.length
  have l3 := r.length
  have l4 := r2.length
  refine HT.setItem_slice' (a := a') (c0 := c') e e2 hne hs pl pu (by omega) (by rw [List.size_toArray]; omega) (by rw [List.size_toArray, List.size_toArray]; omega) ?_
  simp only [Int.toNat_natCast]
  have ed : ws.drop (min c' its.length) = ws.drop c' := by
    by_cases hc : c' ≤ its.length
    · rw [Nat.min_eq_left hc]
    · rw [List.drop_of_length_le (show ws.length ≤ c' by omega), List.drop_of_length_le (by omega)]
  have xe : Ext ρ ρ H (upd H p (.lst (ws.take a' ++ zs ++ ws.drop c'))) := Ext.put (List.mem_of_getElem? ha)
  refine ⟨_, I.inv.lset (its' := its.take a' ++ its2 ++ its.drop (min c' its.length)) (t' := s.toks) hH e ?_ (Vals.append (Vals.append (r.take _) r2) (by rw [← ed]; exact r.drop _)) ?_, _, ρ, rfl, xe, I.rs.put ha ⟨_, upd_same, RDs.ext xe _ _ ((rr.take _ |>.append rz).append (rr.drop _))⟩⟩
  · show its.toArray.extract 0 a' ++ its2.toArray ++ its.toArray.extract (min c' its.toArray.size) its.toArray.size = _
    rw [List.size_toArray]
    exact splice_eq its its2 a' _
  · rw [List.length_append, List.length_append, List.length_take, List.length_drop]
    omega
theorem ds_putSl (ha : DE X a A) (ho : DE X o O) (hl : DP X lo PA) (hu : DP X hi PB)
    (hs : swapsWithSole [.Subscript o (.Slice lo hi none p2) tpos] a pos.line X.env = pure false := by rfl) (hw : swappedStores [.Subscript o (.Slice lo hi none p2) tpos] a X.env = pure none := by rfl)
    (hsub : ∀ v, assign (.Subscript o (.Slice lo hi none p2) tpos) X.env v = (do
      let ov ← holding [v] (eval o X.env)
      let iv ← holding [v, ov] (eval (.Slice lo hi none p2) X.env)
      standAt tpos
      holding [v, ov, iv] (setItem ov iv v)
      release [iv, v, ov] []) := by intro _; rfl)
    (h1 : (assignEach [.Subscript o (.Slice lo hi none p2) tpos] X.env).map (·.2) = [assign (.Subscript o (.Slice lo hi none p2) tpos) X.env] := by rfl) : DS X (.Assign [.Subscript o (.Slice lo hi none p2) tpos] a pos) (sPutSl A O PA PB) := by
  refine ⟨fun {pins s τ H ρ e σ} I h => ?_⟩
  refine wpAny_Assign_stores (thn (ha.run I (SafeF.of I h)) fun u s1 ⟨v, H1, i1, rv, d, σ1, ρ1, q1, x1, rs1, rd⟩ => ?_) hs hw
  have I1 := I.next i1 x1 rs1
  have k1 : SafeF X ρ1 H1 ((O e σ1).st e fun o h2 => (PA e h2).st e fun lo h3 => (PB e h3).st e fun hi h4 => (setSlD o lo hi d h4).st e fun _ h5 => .nx e h5) := SafeF.right (k := fun v h1 => (O e h1).st e fun o h2 => (PA e h2).st e fun lo h3 => (PB e h3).st e fun hi h4 => (setSlD o lo hi v h4).st e fun _ h5 => .nx e h5) h q1 x1
  rw [h1]
  show wpAny _ _ (assign (.Subscript o (.Slice lo hi none p2) tpos) X.env u) _ _ _
  rw [hsub]
  refine wpAny_bind (wpAny_holding (thn (ho.run I1 (SafeF.of I1 k1)) fun uo s2 ⟨vo, H2, i2, rvo, o2, σ2, ρ2, q2, x2, rs2, ro⟩ => ?_))
  have I2 := I1.next i2 x2 rs2
  have k2 : SafeF X ρ2 H2 ((PA e σ2).st e fun lo h3 => (PB e h3).st e fun hi h4 => (setSlD o2 lo hi d h4).st e fun _ h5 => .nx e h5) := SafeF.right (k := fun o h2 => (PA e h2).st e fun lo h3 => (PB e h3).st e fun hi h4 => (setSlD o lo hi d h4).st e fun _ h5 => .nx e h5) k1 q2 x2
  refine wpAny_bind (wpAny_holding (wpAny_Slice (hl.thenF I2 k2 fun l σ3 ρ3 vl H3 s3 q3 I3 x3 pl k3 => hu.thenF I3 k3 fun u' σ4 ρ4 vu H4 s4 q4 I4 x4 pu k4 => ?_)))
  rw [evalPart_none]
  refine wpAny_pure ?_
  have I5 : SR X pins ρ4 e σ4 τ H4 { s4 with heap := s4.heap.push { cls := .type "slice", data := .fields #[vl, vu, .none] } } := ⟨I4.inv.kept (t' := s4.toks) fun b ob q => Heap.get?_push_of_some _ q, I4.rs, I4.re⟩
  refine wpAny_bind (wpAny_standAt (wpAny_bind (wpAny_holding (thn (setSl_ok I5 (RD.ext (x3.trans x4) _ _ ro) rvo (RD.ext (x2.trans (x3.trans x4)) _ _ rd) rv (Heap.IsSliceOf.new ..) pl pu (SafeF.of I5 k4).nb) fun _ s6 ⟨H6, i6, σ6, ρ6, q6, x6, rs6⟩ => ?_))))
  refine wpAny_release ⟨τ, H6, i6, e, σ6, ρ6, ?_, x1.trans (x2.trans (x3.trans (x4.trans x6))), rs6, (((((I.re.ext x1).ext x2).ext x3).ext x4).ext x6)⟩
  unfold sPutSl
  rw [q1]
  show ((O e σ1).st e fun o h2 => (PA e h2).st e fun lo h3 => (PB e h3).st e fun hi h4 => (setSlD o lo hi d h4).st e fun _ h5 => .nx e h5) = _
  rw [q2]
  show ((PA e σ2).st e fun lo h3 => (PB e h3).st e fun hi h4 => (setSlD o2 lo hi d h4).st e fun _ h5 => .nx e h5) = _
  rw [q3]
  show ((PB e σ3).st e fun hi h4 => (setSlD o2 l hi d h4).st e fun _ h5 => .nx e h5) = _
  rw [q4]
  show ((setSlD o2 l u' d σ4).st e fun _ h5 => .nx e h5) = _
  rw [q6]
  rfl
end
end Lb

set_option Elab.async false
set_option linter.all false
set_option maxRecDepth 100000
set_option maxHeartbeats 4000000
namespace K01
open PySem PySem.Spec PyProof.Rows L2 Lb
def top (i : Nat) : Stmt := PySem.Challenge.pw_layerbody_k01_what_are_bodies.main.body.getD i (.Pass ⟨0, 0, 0, 0⟩)
def c_EDGE : D := (.int 9)
def c_MOST_CELLS : D := (.int 200)
def c_SIDES : D := (.tup [(.tup [(.int 0), (.int 1)]), (.tup [(.int 0), (.int (-1))]), (.tup [(.int 1), (.int 0)]), (.tup [(.int (-1)), (.int 0)])])
def c_TOP : D := (.int 7)
/-- what the top of the program has left -/
structure TT (K : PySem.W.Frag) (mg : Str → Option Value) (w : World) : Prop where
  triv : True
  z_abs : mg "abs" = none
  z_all : mg "all" = none
  z_bool : mg "bool" = none
  z_int : mg "int" = none
  z_isinstance : mg "isinstance" = none
  z_len : mg "len" = none
  z_list : mg "list" = none
  z_max : mg "max" = none
  z_min : mg "min" = none
  z_range : mg "range" = none
  z_set : mg "set" = none
  z_sorted : mg "sorted" = none
  z_str : mg "str" = none
  z_sum : mg "sum" = none
  z_tuple : mg "tuple" = none
  z_zip : mg "zip" = none
  c_EDGE : GlD K mg "EDGE" c_EDGE
  c_MOST_CELLS : GlD K mg "MOST_CELLS" c_MOST_CELLS
  c_SIDES : GlD K mg "SIDES" c_SIDES
  c_TOP : GlD K mg "TOP" c_TOP
abbrev s_rising : Stmt := top 8
abbrev s_is_int : Stmt := top 5
abbrev s_is_whole : Stmt := top 6
abbrev s_is_tuple : Stmt := top 7
abbrev s_is_cell : Stmt := top 9
abbrev s_are_cells : Stmt := top 10
abbrev s_is_body : Stmt := top 11
abbrev s_beside : Stmt := top 12
abbrev s_pieces : Stmt := top 13
abbrev s_bounds : Stmt := top 14
abbrev s_l_well : Stmt := top 16
abbrev s_l_says : Stmt := top 19
abbrev s_l_take : Stmt := top 17
abbrev s_l_thing : Stmt := top 20
abbrev s_l_otherwise : Stmt := top 21
abbrev s_l_body : Stmt := top 22
abbrev s_l_is_int : Stmt := top 18
abbrev s_l_is_cell : Stmt := top 23
abbrev s_l_are_cells : Stmt := top 24
abbrev s_l_beside : Stmt := top 25
abbrev s_l_pieces : Stmt := top 26
abbrev s_law : Stmt := top 27
variable {P : Program} {w : World} {K : PySem.W.Frag} {mg : Str → Option Value} {base : Heap}
def f_rising : Fn := fnB 2 ((sRet (eCall allD (aCons (eFroz (lComp (iRng1 (aCons (e2 subD (eCall lenD (aCons (eVar 0) aNil)) (eC (.int 1))) aNil)) [1] (gN 1) tTrue (e2 ltD (e2 ixD (eVar 0) (eVar 1)) (e2 ixD (eVar 0) (e2 addD (eVar 1) (eC (.int 1))))))) aNil))))
theorem sc_rising : FnScope ["some", "k"] ["some"] (defScope s_rising) := ⟨rfl, rfl, rfl, by decide +kernel, rfl, by decide +kernel, by decide +kernel⟩
theorem d_rising {f : Addr} {fd : FuncData} (F : L2.Fun K "rising" "rising" s_rising f fd) (T : TT K mg w)  : FnD P w K mg base 1 f fd ["some"] f_rising :=
  fnD_of (k := 0) F sc_rising (by decide) fun cdv A outer s H E hr g =>
    (dss_one (ds_ret (de_callB (op_all g) (by rfl) T.z_all PyProof.Rows.boot_all (da_cons (de_froz (dn_comp g (di_rng1 (by rfl) T.z_range (da_cons (de_bin op_subD (de_callB op_len (by rfl) T.z_len PySem.boot_len (da_cons (de_var rfl (.inr (.inl rfl))) da_nil)) de_int) da_nil)) (own := [("k", 1)]) (blkOk_of rfl (by rfl)) (fun s1 H1 C1 cl1 fp1 => (dg_name (g.blk s1 H1 _ _ fp1) rfl (.inl rfl))) (fun s1 H1 C1 cl1 fp1 => dts_nil) (fun s1 H1 C1 cl1 fp1 => (de_cmp (op_ltD' (g.blk s1 H1 _ _ fp1)) (de_ix (ixD_ok (g.blk s1 H1 _ _ fp1)) (de_var rfl (.inr (.inl rfl))) (de_var rfl (.inl rfl)) fun _ _ => rfl) (de_ix (ixD_ok (g.blk s1 H1 _ _ fp1)) (de_var rfl (.inr (.inl rfl))) (de_bin op_addD (de_var rfl (.inl rfl)) de_int) fun _ _ => rfl) (by rfl))))) da_nil))))
def f_is_int : Fn := fnB 1 ((sRet (eAnd (e1 (isiD "int") (eVar 0)) (eNot (e1 (isiD "bool") (eVar 0))))))
theorem sc_is_int : FnScope ["thing"] ["thing"] (defScope s_is_int) := ⟨rfl, rfl, rfl, by decide +kernel, rfl, by decide +kernel, by decide +kernel⟩
theorem d_is_int {f : Addr} {fd : FuncData} (F : L2.Fun K "is_int" "is_int" s_is_int f fd) (T : TT K mg w)  : FnD P w K mg base 1 f fd ["thing"] f_is_int :=
  fnD_of (k := 0) F sc_is_int (by decide) fun cdv A outer s H E hr g =>
    (dss_one (ds_ret (de_and (de_isi (T := "int") (by rfl) T.z_isinstance (by rfl) T.z_int PyProof.Rows.boot_int (de_var rfl (.inl rfl))) (de_one (de_not (de_isi (T := "bool") (by rfl) T.z_isinstance (by rfl) T.z_bool PyProof.Rows.boot_bool (de_var rfl (.inl rfl))))))))
def f_is_whole : Fn := fnB 3 ((sRet (eAnd (eCallN (argsN 1 0 (fun a _ => a) (fz true f_is_int)) (aCons (eVar 0) aNil) aNil) (eChain leD leD (eVar 1) (eVar 0) (eVar 2)))))
theorem sc_is_whole : FnScope ["thing", "low", "high"] ["thing", "low", "high"] (defScope s_is_whole) := ⟨rfl, rfl, rfl, by decide +kernel, rfl, by decide +kernel, by decide +kernel⟩
theorem d_is_whole {f : Addr} {fd : FuncData} (F : L2.Fun K "is_whole" "is_whole" s_is_whole f fd) (T : TT K mg w) (N_is_int_1 : DfN P w K mg base "is_int" 1 ["thing"] f_is_int 1 [] (fun a _ => a)) : FnD P w K mg base 2 f fd ["thing", "low", "high"] f_is_whole :=
  fnD_of (k := 1) F sc_is_whole (by decide) fun cdv A outer s H E hr g =>
    (dss_one (ds_ret (de_and (de_callN true N_is_int_1 hr (by decide) (by rfl) (da_cons (de_var rfl (.inl rfl)) da_nil) dk_nil) (de_one (de_chain op_leD nox_le op_leD nox_le (de_var rfl (.inl rfl)) (de_var rfl (.inl rfl)) (de_var rfl (.inl rfl)))))))
def f_is_tuple : Fn := fnB 2 ((sRet (eAnd (e1 (isiD "tuple") (eVar 0)) (e2 eqD (eCall lenD (aCons (eVar 0) aNil)) (eVar 1)))))
theorem sc_is_tuple : FnScope ["thing", "many"] ["thing", "many"] (defScope s_is_tuple) := ⟨rfl, rfl, rfl, by decide +kernel, rfl, by decide +kernel, by decide +kernel⟩
theorem d_is_tuple {f : Addr} {fd : FuncData} (F : L2.Fun K "is_tuple" "is_tuple" s_is_tuple f fd) (T : TT K mg w)  : FnD P w K mg base 1 f fd ["thing", "many"] f_is_tuple :=
  fnD_of (k := 0) F sc_is_tuple (by decide) fun cdv A outer s H E hr g =>
    (dss_one (ds_ret (de_and (de_isi (T := "tuple") (by rfl) T.z_isinstance (by rfl) T.z_tuple PyProof.Rows.boot_tuple (de_var rfl (.inl rfl))) (de_one (de_cmp (op_eqD' g) (de_callB op_len (by rfl) T.z_len PySem.boot_len (da_cons (de_var rfl (.inl rfl)) da_nil)) (de_var rfl (.inl rfl)) (by rfl))))))
def f_is_cell : Fn := fnB 1 ((sSeq (sIf (tOr (tNot (tE (eCallN (argsN 2 0 (fun a _ => a) (fz true f_is_tuple)) (aCons (eVar 0) (aCons (eC (.int 3)) aNil)) aNil))) (tNot (tE (eCallN (argsN 3 0 (fun a _ => a) (fz true f_is_whole)) (aCons (e2 ixD (eVar 0) (eC (.int 0))) (aCons (eC (.int 0)) (aCons (eC c_TOP) aNil))) aNil)))) (sRet (eC (.bl false))) sPass)
    (sRet (eAnd (eCallN (argsN 3 0 (fun a _ => a) (fz true f_is_whole)) (aCons (e2 ixD (eVar 0) (eC (.int 1))) (aCons (eC (.int 0)) (aCons (eC c_EDGE) aNil))) aNil) (eCallN (argsN 3 0 (fun a _ => a) (fz true f_is_whole)) (aCons (e2 ixD (eVar 0) (eC (.int 2))) (aCons (eC (.int 0)) (aCons (eC c_EDGE) aNil))) aNil)))))
theorem sc_is_cell : FnScope ["thing"] ["thing"] (defScope s_is_cell) := ⟨rfl, rfl, rfl, by decide +kernel, rfl, by decide +kernel, by decide +kernel⟩
theorem d_is_cell {f : Addr} {fd : FuncData} (F : L2.Fun K "is_cell" "is_cell" s_is_cell f fd) (T : TT K mg w) (N_is_whole_3 : DfN P w K mg base "is_whole" 2 ["thing", "low", "high"] f_is_whole 3 [] (fun a _ => a)) (N_is_tuple_2 : DfN P w K mg base "is_tuple" 1 ["thing", "many"] f_is_tuple 2 [] (fun a _ => a)) : FnD P w K mg base 3 f fd ["thing"] f_is_cell :=
  fnD_of (k := 2) F sc_is_cell (by decide) fun cdv A outer s H E hr g =>
    (dss_cons (ds_if (dw_or (dt_not (dt_plain (de_callN true N_is_tuple_2 hr (by decide) (by rfl) (da_cons (de_var rfl (.inl rfl)) (da_cons de_int da_nil)) dk_nil))) (dw_or1 (dt_not (dt_plain (de_callN true N_is_whole_3 hr (by decide) (by rfl) (da_cons (de_ix (ixD_ok g) (de_var rfl (.inl rfl)) de_int fun _ _ => rfl) (da_cons de_int (da_cons (de_globE T.c_TOP (by rfl)) da_nil))) dk_nil))))).dt (dss_one (ds_ret de_bl)) dss_nil)
    (dss_one (ds_ret (de_and (de_callN true N_is_whole_3 hr (by decide) (by rfl) (da_cons (de_ix (ixD_ok g) (de_var rfl (.inl rfl)) de_int fun _ _ => rfl) (da_cons de_int (da_cons (de_globE T.c_EDGE (by rfl)) da_nil))) dk_nil) (de_one (de_callN true N_is_whole_3 hr (by decide) (by rfl) (da_cons (de_ix (ixD_ok g) (de_var rfl (.inl rfl)) de_int fun _ _ => rfl) (da_cons de_int (da_cons (de_globE T.c_EDGE (by rfl)) da_nil))) dk_nil))))))
def f_are_cells : Fn := fnB 2 ((sRet (eAnd (e1 (isiD "tuple") (eVar 0)) (eAnd (eCall allD (aCons (eFroz (lComp (iVal (eVar 0)) [1] (gN 1) tTrue (eCallN (argsN 1 0 (fun a _ => a) (fz true f_is_cell)) (aCons (eVar 1) aNil) aNil))) aNil)) (eCallN (argsN 1 0 (fun a _ => a) (fz true f_rising)) (aCons (eVar 0) aNil) aNil)))))
theorem sc_are_cells : FnScope ["thing", "one"] ["thing"] (defScope s_are_cells) := ⟨rfl, rfl, rfl, by decide +kernel, rfl, by decide +kernel, by decide +kernel⟩
theorem d_are_cells {f : Addr} {fd : FuncData} (F : L2.Fun K "are_cells" "are_cells" s_are_cells f fd) (T : TT K mg w) (N_rising_1 : DfN P w K mg base "rising" 1 ["some"] f_rising 1 [] (fun a _ => a)) (N_is_cell_1 : DfN P w K mg base "is_cell" 3 ["thing"] f_is_cell 1 [] (fun a _ => a)) : FnD P w K mg base 4 f fd ["thing"] f_are_cells :=
  fnD_of (k := 3) F sc_are_cells (by decide) fun cdv A outer s H E hr g =>
    (dss_one (ds_ret (de_and (de_isi (T := "tuple") (by rfl) T.z_isinstance (by rfl) T.z_tuple PyProof.Rows.boot_tuple (de_var rfl (.inl rfl))) (de_and (de_callB (op_all g) (by rfl) T.z_all PyProof.Rows.boot_all (da_cons (de_froz (dn_comp g (di_val (de_var rfl (.inl rfl))) (own := [("one", 1)]) (blkOk_of rfl (by rfl)) (fun s1 H1 C1 cl1 fp1 => (dg_name (g.blk s1 H1 _ _ fp1) rfl (.inl rfl))) (fun s1 H1 C1 cl1 fp1 => dts_nil) (fun s1 H1 C1 cl1 fp1 => (de_callN true N_is_cell_1 hr (by decide) (by rfl) (da_cons (de_var rfl (.inl rfl)) da_nil) dk_nil)))) da_nil)) (de_one (de_callN true N_rising_1 hr (by decide) (by rfl) (da_cons (de_var rfl (.inl rfl)) da_nil) dk_nil))))))
def f_is_body : Fn := fnB 1 ((sRet (eAnd (eCallN (argsN 1 0 (fun a _ => a) (fz true f_are_cells)) (aCons (eVar 0) aNil) aNil) (eChain leD leD (eC (.int 1)) (eCall lenD (aCons (eVar 0) aNil)) (eC c_MOST_CELLS)))))
theorem sc_is_body : FnScope ["thing"] ["thing"] (defScope s_is_body) := ⟨rfl, rfl, rfl, by decide +kernel, rfl, by decide +kernel, by decide +kernel⟩
theorem d_is_body {f : Addr} {fd : FuncData} (F : L2.Fun K "is_body" "is_body" s_is_body f fd) (T : TT K mg w) (N_are_cells_1 : DfN P w K mg base "are_cells" 4 ["thing"] f_are_cells 1 [] (fun a _ => a)) : FnD P w K mg base 5 f fd ["thing"] f_is_body :=
  fnD_of (k := 4) F sc_is_body (by decide) fun cdv A outer s H E hr g =>
    (dss_one (ds_ret (de_and (de_callN true N_are_cells_1 hr (by decide) (by rfl) (da_cons (de_var rfl (.inl rfl)) da_nil) dk_nil) (de_one (de_chain op_leD nox_le op_leD nox_le de_int (de_callB op_len (by rfl) T.z_len PySem.boot_len (da_cons (de_var rfl (.inl rfl)) da_nil)) (de_globE T.c_MOST_CELLS (by rfl)))))))
def f_beside : Fn := fnB 6 ((sSeq (sAsg (eVar 0) (gTp [(gN 1), (gN 2), (gN 3)]))
    (sRet (e2 addD (eFroz (lComp (iVal (eC c_SIDES)) [4, 5] (gTp [(gN 4), (gN 5)]) tTrue (eTup (aCons (eVar 1) (aCons (e2 addD (eVar 2) (eVar 4)) (aCons (e2 addD (eVar 3) (eVar 5)) aNil)))))) (eFroz (lDisp (aCons (eTup (aCons (e2 addD (eVar 1) (eC (.int 1))) (aCons (eVar 2) (aCons (eVar 3) aNil)))) (aCons (eTup (aCons (e2 subD (eVar 1) (eC (.int 1))) (aCons (eVar 2) (aCons (eVar 3) aNil)))) aNil))))))))
theorem sc_beside : FnScope ["cell", "z", "y", "x", "dy", "dx"] ["cell"] (defScope s_beside) := ⟨rfl, rfl, rfl, by decide +kernel, rfl, by decide +kernel, by decide +kernel⟩
theorem d_beside {f : Addr} {fd : FuncData} (F : L2.Fun K "beside" "beside" s_beside f fd) (T : TT K mg w)  : FnD P w K mg base 1 f fd ["cell"] f_beside :=
  fnD_of (k := 0) F sc_beside (by decide) fun cdv A outer s H E hr g =>
    (dss_cons (ds_asg (de_var rfl (.inl rfl)) (dg_tup g (dgs_cons (dg_name g rfl (.inr rfl)) (dgs_cons (dg_name g rfl (.inr rfl)) (dgs_cons (dg_name g rfl (.inr rfl)) dgs_nil)))))
    (dss_one (ds_ret (de_bin op_addD (de_froz (dn_comp g (di_val (de_globE T.c_SIDES (by rfl))) (own := [("dy", 4), ("dx", 5)]) (blkOk_of rfl (by rfl)) (fun s1 H1 C1 cl1 fp1 => (dg_tup (g.blk s1 H1 _ _ fp1) (dgs_cons (dg_name (g.blk s1 H1 _ _ fp1) rfl (.inl rfl)) (dgs_cons (dg_name (g.blk s1 H1 _ _ fp1) rfl (.inl rfl)) dgs_nil)))) (fun s1 H1 C1 cl1 fp1 => dts_nil) (fun s1 H1 C1 cl1 fp1 => (de_tup (da_cons (de_var rfl (.inr (.inl rfl))) (da_cons (de_bin op_addD (de_var rfl (.inr (.inl rfl))) (de_var rfl (.inl rfl))) (da_cons (de_bin op_addD (de_var rfl (.inr (.inl rfl))) (de_var rfl (.inl rfl))) da_nil))))))) (de_froz (dn_disp (da_cons (de_tup (da_cons (de_bin op_addD (de_var rfl (.inr (.inl rfl))) de_int) (da_cons (de_var rfl (.inr (.inl rfl))) (da_cons (de_var rfl (.inr (.inl rfl))) da_nil)))) (da_cons (de_tup (da_cons (de_bin op_subD (de_var rfl (.inr (.inl rfl))) de_int) (da_cons (de_var rfl (.inr (.inl rfl))) (da_cons (de_var rfl (.inr (.inl rfl))) da_nil)))) da_nil))))))))
def f_pieces : Fn := fnB 7 ((sSeq (sPar2 1 2 (aCons (eDComp (iVal (eVar 0)) [3] (gN 3) tTrue (eVar 3) (eC (.bl true))) (aCons (eMut (lDisp aNil)) aNil)))
    (sSeq (sFor (iVal (eVar 0)) (gN 3) (sIf (tE (e2 inD (eVar 3) (eVar 1))) (sSeq (sDrop (eMeth "dict" popDD (eVar 1) (aCons (eVar 3) aNil)))
    (sSeq (sPar2 4 5 (aCons (eMut (lDisp (aCons (eVar 3) aNil))) (aCons (eMut (lDisp (aCons (eVar 3) aNil))) aNil)))
    (sSeq (sWhile (tE (e2 neD (eVar 5) (eFroz (lDisp aNil)))) (sFor (iVal (eCallN (argsN 1 0 (fun a _ => a) (fz true f_beside)) (aCons (eMeth0 "list" (lstMD popP) (eVar 5)) aNil) aNil)) (gN 6) (sIf (tE (e2 inD (eVar 6) (eVar 1))) (sSeq (sDrop (eMeth "dict" popDD (eVar 1) (aCons (eVar 6) aNil)))
    (sSeq (sDrop (eMeth "list" appendD (eVar 4) (aCons (eVar 6) aNil)))
    (sDrop (eMeth "list" appendD (eVar 5) (aCons (eVar 6) aNil))))) sPass)))
    (sDrop (eMeth "list" appendD (eVar 2) (aCons (eCall tupleD (aCons (eFroz (lCall sortedL (aCons (eVar 4) aNil))) aNil)) aNil)))))) sPass))
    (sRet (eMut (lCall sortedL (aCons (eVar 2) aNil)))))))
theorem sc_pieces : FnScope ["body", "left", "found", "cell", "piece", "row", "near"] ["body"] (defScope s_pieces) := ⟨rfl, rfl, rfl, by decide +kernel, rfl, by decide +kernel, by decide +kernel⟩
theorem d_pieces {f : Addr} {fd : FuncData} (F : L2.Fun K "pieces" "pieces" s_pieces f fd) (T : TT K mg w) (N_beside_1 : DfN P w K mg base "beside" 1 ["cell"] f_beside 1 [] (fun a _ => a)) : FnD P w K mg base 2 f fd ["body"] f_pieces :=
  fnD_of (k := 1) F sc_pieces (by decide) fun cdv A outer s H E hr g =>
    (dss_cons (ds_par2 g rfl rfl (by decide) rfl rfl (da_cons (de_dcomp g (di_val (de_var rfl (.inl rfl))) (own := [("cell", 3)]) (blkOk_of rfl (by rfl)) (fun s1 H1 C1 cl1 fp1 => (dg_name (g.blk s1 H1 _ _ fp1) rfl (.inl rfl))) (fun s1 H1 C1 cl1 fp1 => dts_nil) (fun s1 H1 C1 cl1 fp1 => (de_var rfl (.inl rfl))) (fun s1 H1 C1 cl1 fp1 => de_bl)) (da_cons (de_mut (dn_disp da_nil)) da_nil)) rfl)
    (dss_cons (ds_for g (di_val (de_var rfl (.inl rfl))) (dg_name g rfl (.inl rfl)) (dss_one (ds_if (dt_cmp (op_inD' g) (de_var rfl (.inl rfl)) (de_var rfl (.inl rfl)) (by rfl)) (dss_cons (ds_expr (de_bm (om_dpop g) PySem.F.plainAttrs_dict PySem.F.slot_dict_pop PySem.F.type_dict_pop (de_var rfl (.inl rfl)) (da_cons (de_var rfl (.inl rfl)) da_nil)))
    (dss_cons (ds_par2 g rfl rfl (by decide) rfl rfl (da_cons (de_mut (dn_disp (da_cons (de_var rfl (.inl rfl)) da_nil))) (da_cons (de_mut (dn_disp (da_cons (de_var rfl (.inl rfl)) da_nil))) da_nil)) rfl)
    (dss_cons (ds_while g (dt_cmp (op_neD' g) (de_var rfl (.inl rfl)) (de_froz (dn_disp da_nil)) (by rfl)) (dss_one (ds_for g (di_val (de_callN true N_beside_1 hr (by decide) (by rfl) (da_cons (de_bm0 om_pop PySem.F.plainAttrs_list PySem.F.slot_list_pop PySem.F.type_list_pop (de_var rfl (.inl rfl))) da_nil) dk_nil)) (dg_name g rfl (.inl rfl)) (dss_one (ds_if (dt_cmp (op_inD' g) (de_var rfl (.inl rfl)) (de_var rfl (.inl rfl)) (by rfl)) (dss_cons (ds_expr (de_bm (om_dpop g) PySem.F.plainAttrs_dict PySem.F.slot_dict_pop PySem.F.type_dict_pop (de_var rfl (.inl rfl)) (da_cons (de_var rfl (.inl rfl)) da_nil)))
    (dss_cons (ds_expr (de_append (de_var rfl (.inl rfl)) (da_cons (de_var rfl (.inl rfl)) da_nil)))
    (dss_one (ds_expr (de_append (de_var rfl (.inl rfl)) (da_cons (de_var rfl (.inl rfl)) da_nil)))))) dss_nil)))))
    (dss_one (ds_expr (de_append (de_var rfl (.inl rfl)) (da_cons (de_callTy op_tuple (by rfl) T.z_tuple PyProof.Rows.boot_tuple (da_cons (de_froz (dn_callB (op_sorted g) (by rfl) T.z_sorted PyProof.Rows.boot_sorted (da_cons (de_var rfl (.inl rfl)) da_nil))) da_nil)) da_nil))))))) dss_nil)))
    (dss_one (ds_ret (de_mut (dn_callB (op_sorted g) (by rfl) T.z_sorted PyProof.Rows.boot_sorted (da_cons (de_var rfl (.inl rfl)) da_nil)))))))
def f_bounds : Fn := fnB 5 ((sSeq (sSetL 1 (lComp (iRng1 (aCons (eC (.int 3)) aNil)) [2] (gN 2) tTrue (eFroz (lComp (iVal (eVar 0)) [3] (gN 3) tTrue (e2 ixD (eVar 3) (eVar 2))))) false)
    (sRet (eTup (aCons (eCall tupleD (aCons (eFroz (lComp (iVal (eVar 1)) [4] (gN 4) tTrue (eCall minA (aCons (eVar 4) aNil)))) aNil)) (aCons (eCall tupleD (aCons (eFroz (lComp (iVal (eVar 1)) [4] (gN 4) tTrue (eCall maxA (aCons (eVar 4) aNil)))) aNil)) aNil))))))
theorem sc_bounds : FnScope ["body", "sides", "k", "cell", "side"] ["body"] (defScope s_bounds) := ⟨rfl, rfl, rfl, by decide +kernel, rfl, by decide +kernel, by decide +kernel⟩
theorem d_bounds {f : Addr} {fd : FuncData} (F : L2.Fun K "bounds" "bounds" s_bounds f fd) (T : TT K mg w)  : FnD P w K mg base 1 f fd ["body"] f_bounds :=
  fnD_of (k := 0) F sc_bounds (by decide) fun cdv A outer s H E hr g =>
    (dss_cons (ds_setLc g false rfl (by rfl) (sw_true rfl (by rfl) (by rfl) (by rfl)) (di_rng1 (by rfl) T.z_range (da_cons de_int da_nil)) (own := [("k", 2)]) (blkOk_of rfl (by rfl)) (fun s1 H1 C1 cl1 fp1 => (dg_name (g.blk s1 H1 _ _ fp1) rfl (.inr rfl))) (fun s1 H1 C1 cl1 fp1 => dts_nil) (fun s1 H1 C1 cl1 fp1 => (de_froz (dn_comp (g.blk s1 H1 _ _ fp1) (di_val (de_var rfl (.inr (.inl rfl)))) (own := [("cell", 3)]) (blkOk_of rfl (by rfl)) (fun s2 H2 C2 cl2 fp2 => (dg_name ((g.blk s1 H1 _ _ fp1).blk s2 H2 _ _ fp2) rfl (.inl rfl))) (fun s2 H2 C2 cl2 fp2 => dts_nil) (fun s2 H2 C2 cl2 fp2 => (de_ix (ixD_ok ((g.blk s1 H1 _ _ fp1).blk s2 H2 _ _ fp2)) (de_var rfl (.inl rfl)) (de_var rfl (.inr (.inl rfl))) fun _ _ => rfl))))))
    (dss_one (ds_ret (de_tup (da_cons (de_callTy op_tuple (by rfl) T.z_tuple PyProof.Rows.boot_tuple (da_cons (de_froz (dn_comp g (di_val (de_var rfl (.inl rfl))) (own := [("side", 4)]) (blkOk_of rfl (by rfl)) (fun s1 H1 C1 cl1 fp1 => (dg_name (g.blk s1 H1 _ _ fp1) rfl (.inl rfl))) (fun s1 H1 C1 cl1 fp1 => dts_nil) (fun s1 H1 C1 cl1 fp1 => (de_callB (op_min (g.blk s1 H1 _ _ fp1)) (by rfl) T.z_min PyProof.Rows.boot_min (da_cons (de_var rfl (.inl rfl)) da_nil))))) da_nil)) (da_cons (de_callTy op_tuple (by rfl) T.z_tuple PyProof.Rows.boot_tuple (da_cons (de_froz (dn_comp g (di_val (de_var rfl (.inl rfl))) (own := [("side", 4)]) (blkOk_of rfl (by rfl)) (fun s1 H1 C1 cl1 fp1 => (dg_name (g.blk s1 H1 _ _ fp1) rfl (.inl rfl))) (fun s1 H1 C1 cl1 fp1 => dts_nil) (fun s1 H1 C1 cl1 fp1 => (de_callB (op_max (g.blk s1 H1 _ _ fp1)) (by rfl) T.z_max PyProof.Rows.boot_max (da_cons (de_var rfl (.inl rfl)) da_nil))))) da_nil)) da_nil))))))
def f_l_well : Fn := fnB 5 ((sSeq (sSet 2 (eC (.int 0)))
    (sSeq (sIf (tE (e2 ltD (eVar 1) (eCall lenD (aCons (eVar 0) aNil)))) (sSet 2 (e2 ixD (eVar 0) (eVar 1))) sPass)
    (sSeq (sSet 3 (eFroz (lDisp (aCons (eC (.int 2147483647)) (aCons (eC (.int 2147483629)) (aCons (eC (.int 2147483587)) (aCons (eC (.int 2147483579)) (aCons (eC (.int 2147483563)) (aCons (eC (.int 2147483549)) (aCons (eC (.int 2147483543)) (aCons (eC (.int 2147483497)) aNil)))))))))))
    (sSeq (sSet 4 (e2 modD (e2 mulD (e2 addD (e2 modD (eVar 2) (eC (.int 2147483489))) (eC (.int 1))) (e2 addD (eC (.int 48271)) (e2 mulD (eC (.int 2)) (eVar 1)))) (eC (.int 2147483489))))
    (sSeq (sSet 4 (e2 addD (e2 addD (e2 modD (e2 mulD (eVar 4) (eVar 4)) (eC (.int 2147483477))) (eVar 1)) (eC (.int 1))))
    (sSeq (sIf (tE (e2 geD (eVar 2) (e2 powD (eC (.int 10)) (eC (.int 18))))) (sRet (eMut (lDisp (aCons (eVar 2) (aCons (eVar 4) (aCons (e2 ixD (eVar 3) (e2 modD (eVar 1) (eC (.int 8)))) aNil)))))) sPass)
    (sRet (eMut (lDisp (aCons (eC (.int 0)) (aCons (eVar 4) (aCons (e2 ixD (eVar 3) (e2 modD (eVar 1) (eC (.int 8)))) aNil)))))))))))))
theorem sc_l_well : FnScope ["_law_script", "_law_k", "_law_cell", "_law_primes", "_law_seed"] ["_law_script", "_law_k"] (defScope s_l_well) := ⟨rfl, rfl, rfl, by decide +kernel, rfl, by decide +kernel, by decide +kernel⟩
theorem d_l_well {f : Addr} {fd : FuncData} (F : L2.Fun K "_law_well" "_law_well" s_l_well f fd) (T : TT K mg w)  : FnD P w K mg base 1 f fd ["_law_script", "_law_k"] f_l_well :=
  fnD_of (k := 0) F sc_l_well (by decide) fun cdv A outer s H E hr g =>
    (dss_cons (ds_set g rfl (.inl rfl) de_int)
    (dss_cons (ds_if (dt_cmp (op_ltD' g) (de_var rfl (.inl rfl)) (de_callB op_len (by rfl) T.z_len PySem.boot_len (da_cons (de_var rfl (.inl rfl)) da_nil)) (by rfl)) (dss_one (ds_set g rfl (.inl rfl) (de_ix (ixD_ok g) (de_var rfl (.inl rfl)) (de_var rfl (.inl rfl)) fun _ _ => rfl))) dss_nil)
    (dss_cons (ds_set g rfl (.inl rfl) (de_froz (dn_disp (da_cons de_int (da_cons de_int (da_cons de_int (da_cons de_int (da_cons de_int (da_cons de_int (da_cons de_int (da_cons de_int da_nil)))))))))))
    (dss_cons (ds_set g rfl (.inl rfl) (de_bin op_modD (de_bin op_mulD (de_bin op_addD (de_bin op_modD (de_var rfl (.inl rfl)) de_int) de_int) (de_bin op_addD de_int (de_bin op_mulD de_int (de_var rfl (.inl rfl))))) de_int))
    (dss_cons (ds_set g rfl (.inl rfl) (de_bin op_addD (de_bin op_addD (de_bin op_modD (de_bin op_mulD (de_var rfl (.inl rfl)) (de_var rfl (.inl rfl))) de_int) (de_var rfl (.inl rfl))) de_int))
    (dss_cons (ds_if (dt_cmp op_geD (de_var rfl (.inl rfl)) (de_bin op_powD de_int de_int) (by rfl)) (dss_one (ds_ret (de_mut (dn_disp (da_cons (de_var rfl (.inl rfl)) (da_cons (de_var rfl (.inl rfl)) (da_cons (de_ix (ixD_ok g) (de_var rfl (.inl rfl)) (de_bin op_modD (de_var rfl (.inl rfl)) de_int) fun _ _ => rfl) da_nil))))))) dss_nil)
    (dss_one (ds_ret (de_mut (dn_disp (da_cons de_int (da_cons (de_var rfl (.inl rfl)) (da_cons (de_ix (ixD_ok g) (de_var rfl (.inl rfl)) (de_bin op_modD (de_var rfl (.inl rfl)) de_int) fun _ _ => rfl) da_nil)))))))))))))
def f_l_says : Fn := fnB 2 ((sRet (eAnd (e1 (isiD "bool") (eVar 0)) (e2 eqD (eVar 0) (eVar 1)))))
theorem sc_l_says : FnScope ["_law_found", "_law_due"] ["_law_found", "_law_due"] (defScope s_l_says) := ⟨rfl, rfl, rfl, by decide +kernel, rfl, by decide +kernel, by decide +kernel⟩
theorem d_l_says {f : Addr} {fd : FuncData} (F : L2.Fun K "_law_says" "_law_says" s_l_says f fd) (T : TT K mg w)  : FnD P w K mg base 1 f fd ["_law_found", "_law_due"] f_l_says :=
  fnD_of (k := 0) F sc_l_says (by decide) fun cdv A outer s H E hr g =>
    (dss_one (ds_ret (de_and (de_isi (T := "bool") (by rfl) T.z_isinstance (by rfl) T.z_bool PyProof.Rows.boot_bool (de_var rfl (.inl rfl))) (de_one (de_cmp (op_eqD' g) (de_var rfl (.inl rfl)) (de_var rfl (.inl rfl)) (by rfl))))))
def f_l_take : Fn := fnB 3 ((sSeq (sIf (tE (e2 gtD (e2 ixD (eVar 0) (eC (.int 0))) (eC (.int 0)))) (sSeq (sSet 2 (e2 modD (e2 ixD (eVar 0) (eC (.int 0))) (eVar 1)))
    (sSeq (sPut (e2 divD (e2 ixD (eVar 0) (eC (.int 0))) (eVar 1)) (eVar 0) (eC (.int 0)))
    (sRet (eVar 2)))) sPass)
    (sSeq (sPut (e2 addD (e2 modD (e2 mulD (e2 ixD (eVar 0) (eC (.int 1))) (eC (.int 48271))) (e2 ixD (eVar 0) (eC (.int 2)))) (eC (.int 1))) (eVar 0) (eC (.int 1)))
    (sRet (e2 modD (e2 divD (e2 modD (e2 mulD (e2 ixD (eVar 0) (eC (.int 1))) (e2 ixD (eVar 0) (eC (.int 1)))) (eC (.int 2147483423))) (eC (.int 7))) (eVar 1))))))
theorem sc_l_take : FnScope ["_law_well_here", "_law_many", "_law_got"] ["_law_well_here", "_law_many"] (defScope s_l_take) := ⟨rfl, rfl, rfl, by decide +kernel, rfl, by decide +kernel, by decide +kernel⟩
theorem d_l_take {f : Addr} {fd : FuncData} (F : L2.Fun K "_law_take" "_law_take" s_l_take f fd) (T : TT K mg w)  : FnD P w K mg base 1 f fd ["_law_well_here", "_law_many"] f_l_take :=
  fnD_of (k := 0) F sc_l_take (by decide) fun cdv A outer s H E hr g =>
    (dss_cons (ds_if (dt_cmp op_gtD (de_ix (ixD_ok g) (de_var rfl (.inl rfl)) de_int fun _ _ => rfl) de_int (by rfl)) (dss_cons (ds_set g rfl (.inl rfl) (de_bin op_modD (de_ix (ixD_ok g) (de_var rfl (.inl rfl)) de_int fun _ _ => rfl) (de_var rfl (.inl rfl))))
    (dss_cons (ds_put g (de_bin op_divD (de_ix (ixD_ok g) (de_var rfl (.inl rfl)) de_int fun _ _ => rfl) (de_var rfl (.inl rfl))) (de_var rfl (.inl rfl)) de_int)
    (dss_one (ds_ret (de_var rfl (.inl rfl)))))) dss_nil)
    (dss_cons (ds_put g (de_bin op_addD (de_bin op_modD (de_bin op_mulD (de_ix (ixD_ok g) (de_var rfl (.inl rfl)) de_int fun _ _ => rfl) de_int) (de_ix (ixD_ok g) (de_var rfl (.inl rfl)) de_int fun _ _ => rfl)) de_int) (de_var rfl (.inl rfl)) de_int)
    (dss_one (ds_ret (de_bin op_modD (de_bin op_divD (de_bin op_modD (de_bin op_mulD (de_ix (ixD_ok g) (de_var rfl (.inl rfl)) de_int fun _ _ => rfl) (de_ix (ixD_ok g) (de_var rfl (.inl rfl)) de_int fun _ _ => rfl)) de_int) de_int) (de_var rfl (.inl rfl)))))))
def fr_l_thing (R : Fn) : Fn := fnB 6 ((sSeq (sSet 2 (eCallN (argsN 2 0 (fun a _ => a) (fz true f_l_take)) (aCons (eVar 0) (aCons (eC (.int 9)) aNil)) aNil))
    (sSeq (sIf (tOr (tE (e2 ltD (eVar 2) (eC (.int 6)))) (tE (e2 eqD (eVar 1) (eC (.int 0))))) (sSeq (sSet 3 (eFroz (lDisp (aCons (eC (.int 0)) (aCons (e1 negD (eC (.int 1))) (aCons (eC (.int 1)) (aCons (eC (.bl true)) (aCons (eC (.bl false)) (aCons (eC .non) (aCons (eC (.str "")) (aCons (eC (.str "a")) (aCons (eC (.str "ab")) (aCons (eC (.str "A")) (aCons (eC (.str "a b")) (aCons (eC (.str "abcdefghi")) (aCons (eC (.int 2)) (aCons (eC (.int 3)) (aCons (e1 negD (eC (.int 7))) (aCons (eC (.str "take")) (aCons (e2 powD (eC (.int 10)) (eC (.int 11))) (aCons (eC (.int 8)) aNil)))))))))))))))))))))
    (sRet (e2 ixD (e2 addD (eVar 3) (eFroz (lDisp (aCons (eTup aNil) (aCons (eFroz (lDisp aNil)) (aCons (eTup (aCons (eC (.int 0)) (aCons (eC (.int 1)) aNil))) aNil)))))) (eCallN (argsN 2 0 (fun a _ => a) (fz true f_l_take)) (aCons (eVar 0) (aCons (eC (.int 21)) aNil)) aNil)))) sPass)
    (sSeq (sSetL 4 (lComp (iRng1 (aCons (eCallN (argsN 2 0 (fun a _ => a) (fz true f_l_take)) (aCons (eVar 0) (aCons (eC (.int 6)) aNil)) aNil) aNil)) [5] (gN 5) tTrue (eCallN (argsN 2 0 (fun a _ => a) (fz true R)) (aCons (eVar 0) (aCons (e2 subD (eVar 1) (eC (.int 1))) aNil)) aNil)) false)
    (sRet (e2 ixD (eFroz (lDisp (aCons (eVar 4) (aCons (eCall tupleD (aCons (eVar 4) aNil)) (aCons (eCall tupleD (aCons (eVar 4) aNil)) aNil))))) (e2 subD (eVar 2) (eC (.int 6)))))))))
def fl_l_thing : Nat → Fn
  | 0 => badFn
  | n + 1 => fr_l_thing (fl_l_thing n)
def f_l_thing : Fn := fl_l_thing 5
theorem sc_l_thing : FnScope ["_law_well_here", "_law_deep", "_law_way", "_law_some", "_law_parts", "_law_k"] ["_law_well_here", "_law_deep"] (defScope s_l_thing) := ⟨rfl, rfl, rfl, by decide +kernel, rfl, by decide +kernel, by decide +kernel⟩
theorem d_l_thing {f : Addr} {fd : FuncData} {R : Fn} {kR : Nat} (hkR : 1 ≤ kR) (F : L2.Fun K "_law_thing" "_law_thing" s_l_thing f fd) (T : TT K mg w) (N_l_take_2 : DfN P w K mg base "_law_take" 1 ["_law_well_here", "_law_many"] f_l_take 2 [] (fun a _ => a)) (N_rec : DfN P w K mg base "_law_thing" kR ["_law_well_here", "_law_deep"] R 2 [] (fun a _ => a)) : FnD P w K mg base (kR + 1) f fd ["_law_well_here", "_law_deep"] (fr_l_thing R) :=
  fnD_of (k := kR) F sc_l_thing (by decide) fun cdv A outer s H E hr g =>
    (dss_cons (ds_set g rfl (.inl rfl) (de_callN true N_l_take_2 hr (by omega) (by rfl) (da_cons (de_var rfl (.inr (.inl rfl))) (da_cons de_int da_nil)) dk_nil))
    (dss_cons (ds_if (dw_or (dt_cmp (op_ltD' g) (de_var rfl (.inl rfl)) de_int (by rfl)) (dw_or1 (dt_cmp (op_eqD' g) (de_var rfl (.inr (.inl rfl))) de_int (by rfl)))).dt (dss_cons (ds_set g rfl (.inl rfl) (de_froz (dn_disp (da_cons de_int (da_cons (de_un op_negD de_int) (da_cons de_int (da_cons de_bl (da_cons de_bl (da_cons de_non (da_cons de_str (da_cons de_str (da_cons de_str (da_cons de_str (da_cons de_str (da_cons de_str (da_cons de_int (da_cons de_int (da_cons (de_un op_negD de_int) (da_cons de_str (da_cons (de_bin op_powD de_int de_int) (da_cons de_int da_nil)))))))))))))))))))))
    (dss_one (ds_ret (de_ix (ixD_ok g) (de_bin op_addD (de_var rfl (.inl rfl)) (de_froz (dn_disp (da_cons (de_tup da_nil) (da_cons (de_froz (dn_disp da_nil)) (da_cons (de_tup (da_cons de_int (da_cons de_int da_nil))) da_nil)))))) (de_callN true N_l_take_2 hr (by omega) (by rfl) (da_cons (de_var rfl (.inr (.inl rfl))) (da_cons de_int da_nil)) dk_nil) fun _ _ => rfl)))) dss_nil)
    (dss_cons (ds_setLc g false rfl (by rfl) (sw_true rfl (by rfl) (by rfl) (by rfl)) (di_rng1 (by rfl) T.z_range (da_cons (de_callN true N_l_take_2 hr (by omega) (by rfl) (da_cons (de_var rfl (.inr (.inl rfl))) (da_cons de_int da_nil)) dk_nil) da_nil)) (own := [("_law_k", 5)]) (blkOk_of rfl (by rfl)) (fun s1 H1 C1 cl1 fp1 => (dg_name (g.blk s1 H1 _ _ fp1) rfl (.inl rfl))) (fun s1 H1 C1 cl1 fp1 => dts_nil) (fun s1 H1 C1 cl1 fp1 => (de_callN true N_rec hr (by omega) (by rfl) (da_cons (de_var rfl (.inr (.inl rfl))) (da_cons (de_bin op_subD (de_var rfl (.inr (.inl rfl))) de_int) da_nil)) dk_nil)))
    (dss_one (ds_ret (de_ix (ixD_ok g) (de_froz (dn_disp (da_cons (de_var rfl (.inl rfl)) (da_cons (de_callTy op_tuple (by rfl) T.z_tuple PyProof.Rows.boot_tuple (da_cons (de_var rfl (.inl rfl)) da_nil)) (da_cons (de_callTy op_tuple (by rfl) T.z_tuple PyProof.Rows.boot_tuple (da_cons (de_var rfl (.inl rfl)) da_nil)) da_nil))))) (de_bin op_subD (de_var rfl (.inl rfl)) de_int) fun _ _ => rfl))))))
def fr_l_otherwise (R : Fn) : Fn := fnB 7 ((sSeq (sSet 3 (eMut (lCall listAL (aCons (eVar 1) aNil))))
    (sSeq (sIf (tE (e2 eqD (eVar 3) (eFroz (lDisp aNil)))) (sRet (eTup (aCons (eCallN (argsN 2 0 (fun a _ => a) (fz true f_l_thing)) (aCons (eVar 0) (aCons (eC (.int 1)) aNil)) aNil) aNil))) sPass)
    (sSeq (sSet 4 (eCallN (argsN 2 0 (fun a _ => a) (fz true f_l_take)) (aCons (eVar 0) (aCons (eCall lenD (aCons (eVar 3) aNil)) aNil)) aNil))
    (sSeq (sIf (tAnd (tE (e1 (isiD "tuple") (e2 ixD (eVar 3) (eVar 4)))) (tAnd (tE (e2 gtD (eVar 2) (eC (.int 0)))) (tE (e2 gtD (eCallN (argsN 2 0 (fun a _ => a) (fz true f_l_take)) (aCons (eVar 0) (aCons (eC (.int 4)) aNil)) aNil) (eC (.int 0)))))) (sSeq (sPut (eCallN (argsN 3 0 (fun a _ => a) (fz true R)) (aCons (eVar 0) (aCons (e2 ixD (eVar 3) (eVar 4)) (aCons (e2 subD (eVar 2) (eC (.int 1))) aNil))) aNil) (eVar 3) (eVar 4))
    (sRet (eCall tupleD (aCons (eVar 3) aNil)))) sPass)
    (sSeq (sSet 5 (eCallN (argsN 2 0 (fun a _ => a) (fz true f_l_take)) (aCons (eVar 0) (aCons (eC (.int 9)) aNil)) aNil))
    (sSeq (sIf (tE (e2 eqD (eVar 5) (eC (.int 0)))) (sDrop (eMeth "list" (lstMD popP) (eVar 3) (aCons (eVar 4) aNil))) (sIf (tE (e2 eqD (eVar 5) (eC (.int 1)))) (sDrop (eMeth "list" (lstMD insertP) (eVar 3) (aCons (eVar 4) (aCons (e2 ixD (eVar 3) (eVar 4)) aNil)))) (sIf (tE (e2 eqD (eVar 5) (eC (.int 2)))) (sPutSl (eFroz (lRev (eFroz (lSlice (eVar 3) (pSome (eVar 4)) (pSome (e2 addD (eVar 4) (eC (.int 2)))))))) (eVar 3) (pSome (eVar 4)) (pSome (e2 addD (eVar 4) (eC (.int 2))))) (sIf (tE (e2 eqD (eVar 5) (eC (.int 3)))) (sPut (eCallN (argsN 2 0 (fun a _ => a) (fz true f_l_thing)) (aCons (eVar 0) (aCons (eC (.int 2)) aNil)) aNil) (eVar 3) (eVar 4)) (sIf (tOr (tE (e2 eqD (eVar 5) (eC (.int 4)))) (tE (e2 eqD (eVar 5) (eC (.int 5))))) (sSeq (sSet 6 (eFroz (lDisp (aCons (eC (.int 0)) (aCons (eC (.int 1)) (aCons (e1 negD (eC (.int 1))) (aCons (eC (.int 2)) (aCons (eC (.int 8)) (aCons (eC (.int 9)) (aCons (eC (.int 200)) (aCons (eC (.int 201)) (aCons (eC (.int 400)) (aCons (eC (.int 401)) (aCons (eC .non) (aCons (eC (.bl true)) (aCons (eC (.bl false)) (aCons (eC (.str "a")) (aCons (eTup aNil) (aCons (eTup (aCons (eC (.int 1)) (aCons (eC (.int 1)) aNil))) (aCons (eTup (aCons (eC (.int 2)) (aCons (eC (.int 4)) aNil))) (aCons (eTup (aCons (eC (.int 0)) (aCons (eC (.int 1)) aNil))) (aCons (eC (.int 7)) (aCons (eC (.str "cut")) aNil)))))))))))))))))))))))
    (sPut (e2 ixD (eVar 6) (eCallN (argsN 2 0 (fun a _ => a) (fz true f_l_take)) (aCons (eVar 0) (aCons (eC (.int 20)) aNil)) aNil)) (eVar 3) (eVar 4))) (sIf (tAnd (tE (e2 eqD (eVar 5) (eC (.int 6)))) (tAnd (tE (e1 (isiD "int") (e2 ixD (eVar 3) (eVar 4)))) (tNot (tE (e1 (isiD "bool") (e2 ixD (eVar 3) (eVar 4))))))) (sPut (e2 addD (e2 ixD (eVar 3) (eVar 4)) (e2 ixD (eFroz (lDisp (aCons (eC (.int 1)) (aCons (e1 negD (eC (.int 1))) (aCons (eC (.int 8)) (aCons (e1 negD (eC (.int 12))) aNil)))))) (eCallN (argsN 2 0 (fun a _ => a) (fz true f_l_take)) (aCons (eVar 0) (aCons (eC (.int 4)) aNil)) aNil))) (eVar 3) (eVar 4)) (sIf (tAnd (tE (e2 eqD (eVar 5) (eC (.int 7)))) (tE (e1 (isiD "tuple") (e2 ixD (eVar 3) (eVar 4))))) (sPut (eFroz (lCall listAL (aCons (e2 ixD (eVar 3) (eVar 4)) aNil))) (eVar 3) (eVar 4)) (sIf (tAnd (tE (e2 eqD (eVar 5) (eC (.int 8)))) (tE (e1 (isiD "str") (e2 ixD (eVar 3) (eVar 4))))) (sPut (e2 addD (e2 ixD (eVar 3) (eVar 4)) (e2 ixD (eFroz (lDisp (aCons (eC (.str "a")) (aCons (eC (.str "A")) (aCons (eC (.str " ")) (aCons (eC (.str "bbbbbbbb")) aNil)))))) (eCallN (argsN 2 0 (fun a _ => a) (fz true f_l_take)) (aCons (eVar 0) (aCons (eC (.int 4)) aNil)) aNil))) (eVar 3) (eVar 4)) (sRet (eVar 3))))))))))
    (sRet (eCall tupleD (aCons (eVar 3) aNil))))))))))
def fl_l_otherwise : Nat → Fn
  | 0 => badFn
  | n + 1 => fr_l_otherwise (fl_l_otherwise n)
def f_l_otherwise : Fn := fl_l_otherwise 4
theorem sc_l_otherwise : FnScope ["_law_well_here", "_law_thing_here", "_law_deep", "_law_parts", "_law_at", "_law_way", "_law_near"] ["_law_well_here", "_law_thing_here", "_law_deep"] (defScope s_l_otherwise) := ⟨rfl, rfl, rfl, by decide +kernel, rfl, by decide +kernel, by decide +kernel⟩
theorem d_l_otherwise {f : Addr} {fd : FuncData} {R : Fn} {kR : Nat} (hkR : 6 ≤ kR) (F : L2.Fun K "_law_otherwise" "_law_otherwise" s_l_otherwise f fd) (T : TT K mg w) (N_l_take_2 : DfN P w K mg base "_law_take" 1 ["_law_well_here", "_law_many"] f_l_take 2 [] (fun a _ => a)) (N_l_thing_2 : DfN P w K mg base "_law_thing" 6 ["_law_well_here", "_law_deep"] f_l_thing 2 [] (fun a _ => a)) (N_rec : DfN P w K mg base "_law_otherwise" kR ["_law_well_here", "_law_thing_here", "_law_deep"] R 3 [] (fun a _ => a)) : FnD P w K mg base (kR + 1) f fd ["_law_well_here", "_law_thing_here", "_law_deep"] (fr_l_otherwise R) :=
  fnD_of (k := kR) F sc_l_otherwise (by decide) fun cdv A outer s H E hr g =>
    (dss_cons (ds_set g rfl (.inl rfl) (de_mut (dn_callTy (op_list g) (by rfl) T.z_list PyProof.Rows.boot_list (da_cons (de_var rfl (.inl rfl)) da_nil))))
    (dss_cons (ds_if (dt_cmp (op_eqD' g) (de_var rfl (.inl rfl)) (de_froz (dn_disp da_nil)) (by rfl)) (dss_one (ds_ret (de_tup (da_cons (de_callN true N_l_thing_2 hr (by omega) (by rfl) (da_cons (de_var rfl (.inl rfl)) (da_cons de_int da_nil)) dk_nil) da_nil)))) dss_nil)
    (dss_cons (ds_set g rfl (.inl rfl) (de_callN true N_l_take_2 hr (by omega) (by rfl) (da_cons (de_var rfl (.inl rfl)) (da_cons (de_callB op_len (by rfl) T.z_len PySem.boot_len (da_cons (de_var rfl (.inl rfl)) da_nil)) da_nil)) dk_nil))
    (dss_cons (ds_if (dw_and (dt_plain (de_isi (T := "tuple") (by rfl) T.z_isinstance (by rfl) T.z_tuple PyProof.Rows.boot_tuple (de_ix (ixD_ok g) (de_var rfl (.inl rfl)) (de_var rfl (.inl rfl)) fun _ _ => rfl))) (dw_and (dt_cmp op_gtD (de_var rfl (.inl rfl)) de_int (by rfl)) (dw_and1 (dt_cmp op_gtD (de_callN true N_l_take_2 hr (by omega) (by rfl) (da_cons (de_var rfl (.inl rfl)) (da_cons de_int da_nil)) dk_nil) de_int (by rfl))))).dt (dss_cons (ds_put g (de_callN true N_rec hr (by omega) (by rfl) (da_cons (de_var rfl (.inl rfl)) (da_cons (de_ix (ixD_ok g) (de_var rfl (.inl rfl)) (de_var rfl (.inl rfl)) fun _ _ => rfl) (da_cons (de_bin op_subD (de_var rfl (.inl rfl)) de_int) da_nil))) dk_nil) (de_var rfl (.inl rfl)) (de_var rfl (.inl rfl)))
    (dss_one (ds_ret (de_callTy op_tuple (by rfl) T.z_tuple PyProof.Rows.boot_tuple (da_cons (de_var rfl (.inl rfl)) da_nil))))) dss_nil)
    (dss_cons (ds_set g rfl (.inl rfl) (de_callN true N_l_take_2 hr (by omega) (by rfl) (da_cons (de_var rfl (.inl rfl)) (da_cons de_int da_nil)) dk_nil))
    (dss_cons (ds_if (dt_cmp (op_eqD' g) (de_var rfl (.inl rfl)) de_int (by rfl)) (dss_one (ds_expr (de_bm om_pop PySem.F.plainAttrs_list PySem.F.slot_list_pop PySem.F.type_list_pop (de_var rfl (.inl rfl)) (da_cons (de_var rfl (.inl rfl)) da_nil)))) (dss_one (ds_if (dt_cmp (op_eqD' g) (de_var rfl (.inl rfl)) de_int (by rfl)) (dss_one (ds_expr (de_bm om_insert PySem.F.plainAttrs_list PySem.F.slot_list_insert PySem.F.type_list_insert (de_var rfl (.inl rfl)) (da_cons (de_var rfl (.inl rfl)) (da_cons (de_ix (ixD_ok g) (de_var rfl (.inl rfl)) (de_var rfl (.inl rfl)) fun _ _ => rfl) da_nil))))) (dss_one (ds_if (dt_cmp (op_eqD' g) (de_var rfl (.inl rfl)) de_int (by rfl)) (dss_one (ds_putSl (de_froz (dn_rev (de_froz (dn_slice (de_var rfl (.inl rfl)) (dp_some (de_var rfl (.inl rfl))) (dp_some (de_bin op_addD (de_var rfl (.inl rfl)) de_int)))))) (de_var rfl (.inl rfl)) (dp_some (de_var rfl (.inl rfl))) (dp_some (de_bin op_addD (de_var rfl (.inl rfl)) de_int)))) (dss_one (ds_if (dt_cmp (op_eqD' g) (de_var rfl (.inl rfl)) de_int (by rfl)) (dss_one (ds_put g (de_callN true N_l_thing_2 hr (by omega) (by rfl) (da_cons (de_var rfl (.inl rfl)) (da_cons de_int da_nil)) dk_nil) (de_var rfl (.inl rfl)) (de_var rfl (.inl rfl)))) (dss_one (ds_if (dw_or (dt_cmp (op_eqD' g) (de_var rfl (.inl rfl)) de_int (by rfl)) (dw_or1 (dt_cmp (op_eqD' g) (de_var rfl (.inl rfl)) de_int (by rfl)))).dt (dss_cons (ds_set g rfl (.inl rfl) (de_froz (dn_disp (da_cons de_int (da_cons de_int (da_cons (de_un op_negD de_int) (da_cons de_int (da_cons de_int (da_cons de_int (da_cons de_int (da_cons de_int (da_cons de_int (da_cons de_int (da_cons de_non (da_cons de_bl (da_cons de_bl (da_cons de_str (da_cons (de_tup da_nil) (da_cons (de_tup (da_cons de_int (da_cons de_int da_nil))) (da_cons (de_tup (da_cons de_int (da_cons de_int da_nil))) (da_cons (de_tup (da_cons de_int (da_cons de_int da_nil))) (da_cons de_int (da_cons de_str da_nil)))))))))))))))))))))))
    (dss_one (ds_put g (de_ix (ixD_ok g) (de_var rfl (.inl rfl)) (de_callN true N_l_take_2 hr (by omega) (by rfl) (da_cons (de_var rfl (.inl rfl)) (da_cons de_int da_nil)) dk_nil) fun _ _ => rfl) (de_var rfl (.inl rfl)) (de_var rfl (.inl rfl))))) (dss_one (ds_if (dw_and (dt_cmp (op_eqD' g) (de_var rfl (.inl rfl)) de_int (by rfl)) (dw_and (dt_plain (de_isi (T := "int") (by rfl) T.z_isinstance (by rfl) T.z_int PyProof.Rows.boot_int (de_ix (ixD_ok g) (de_var rfl (.inl rfl)) (de_var rfl (.inl rfl)) fun _ _ => rfl))) (dw_and1 (dt_not (dt_plain (de_isi (T := "bool") (by rfl) T.z_isinstance (by rfl) T.z_bool PyProof.Rows.boot_bool (de_ix (ixD_ok g) (de_var rfl (.inl rfl)) (de_var rfl (.inl rfl)) fun _ _ => rfl))))))).dt (dss_one (ds_put g (de_bin op_addD (de_ix (ixD_ok g) (de_var rfl (.inl rfl)) (de_var rfl (.inl rfl)) fun _ _ => rfl) (de_ix (ixD_ok g) (de_froz (dn_disp (da_cons de_int (da_cons (de_un op_negD de_int) (da_cons de_int (da_cons (de_un op_negD de_int) da_nil)))))) (de_callN true N_l_take_2 hr (by omega) (by rfl) (da_cons (de_var rfl (.inl rfl)) (da_cons de_int da_nil)) dk_nil) fun _ _ => rfl)) (de_var rfl (.inl rfl)) (de_var rfl (.inl rfl)))) (dss_one (ds_if (dw_and (dt_cmp (op_eqD' g) (de_var rfl (.inl rfl)) de_int (by rfl)) (dw_and1 (dt_plain (de_isi (T := "tuple") (by rfl) T.z_isinstance (by rfl) T.z_tuple PyProof.Rows.boot_tuple (de_ix (ixD_ok g) (de_var rfl (.inl rfl)) (de_var rfl (.inl rfl)) fun _ _ => rfl))))).dt (dss_one (ds_put g (de_froz (dn_callTy (op_list g) (by rfl) T.z_list PyProof.Rows.boot_list (da_cons (de_ix (ixD_ok g) (de_var rfl (.inl rfl)) (de_var rfl (.inl rfl)) fun _ _ => rfl) da_nil))) (de_var rfl (.inl rfl)) (de_var rfl (.inl rfl)))) (dss_one (ds_if (dw_and (dt_cmp (op_eqD' g) (de_var rfl (.inl rfl)) de_int (by rfl)) (dw_and1 (dt_plain (de_isi (T := "str") (by rfl) T.z_isinstance (by rfl) T.z_str PyProof.Rows.boot_str (de_ix (ixD_ok g) (de_var rfl (.inl rfl)) (de_var rfl (.inl rfl)) fun _ _ => rfl))))).dt (dss_one (ds_put g (de_bin op_addD (de_ix (ixD_ok g) (de_var rfl (.inl rfl)) (de_var rfl (.inl rfl)) fun _ _ => rfl) (de_ix (ixD_ok g) (de_froz (dn_disp (da_cons de_str (da_cons de_str (da_cons de_str (da_cons de_str da_nil)))))) (de_callN true N_l_take_2 hr (by omega) (by rfl) (da_cons (de_var rfl (.inl rfl)) (da_cons de_int da_nil)) dk_nil) fun _ _ => rfl)) (de_var rfl (.inl rfl)) (de_var rfl (.inl rfl)))) (dss_one (ds_ret (de_var rfl (.inl rfl)))))))))))))))))))
    (dss_one (ds_ret (de_callTy op_tuple (by rfl) T.z_tuple PyProof.Rows.boot_tuple (da_cons (de_var rfl (.inl rfl)) da_nil))))))))))
def f_l_body : Fn := fnB 8 ((sSeq (sSet 2 (eDict1 (eTup (aCons (eCallN (argsN 2 0 (fun a _ => a) (fz true f_l_take)) (aCons (eVar 0) (aCons (eVar 1) aNil)) aNil) (aCons (eCallN (argsN 2 0 (fun a _ => a) (fz true f_l_take)) (aCons (eVar 0) (aCons (eC (.int 4)) aNil)) aNil) (aCons (eCallN (argsN 2 0 (fun a _ => a) (fz true f_l_take)) (aCons (eVar 0) (aCons (eC (.int 10)) aNil)) aNil) aNil)))) (eC (.bl true))))
    (sSeq (sFor (iRng1 (aCons (eCallN (argsN 2 0 (fun a _ => a) (fz true f_l_take)) (aCons (eVar 0) (aCons (eC (.int 9)) aNil)) aNil) aNil)) (gN 3) (sSeq (sPar3 4 5 6 (aCons (eCallN (argsN 2 0 (fun a _ => a) (fz true f_l_take)) (aCons (eVar 0) (aCons (eVar 1) aNil)) aNil) (aCons (eCallN (argsN 2 0 (fun a _ => a) (fz true f_l_take)) (aCons (eVar 0) (aCons (eC (.int 4)) aNil)) aNil) (aCons (eCallN (argsN 2 0 (fun a _ => a) (fz true f_l_take)) (aCons (eVar 0) (aCons (eC (.int 10)) aNil)) aNil) aNil))))
    (sFor (iRng1 (aCons (e2 addD (eC (.int 1)) (eCallN (argsN 2 0 (fun a _ => a) (fz true f_l_take)) (aCons (eVar 0) (aCons (eC (.int 6)) aNil)) aNil)) aNil)) (gN 7) (sIf (tE (e2 ltD (e2 addD (eVar 6) (eVar 7)) (eC (.int 10)))) (sPut (eC (.bl true)) (eVar 2) (eTup (aCons (eVar 4) (aCons (eVar 5) (aCons (e2 addD (eVar 6) (eVar 7)) aNil))))) sPass))))
    (sSeq (sIf (tE (e2 eqD (eCallN (argsN 2 0 (fun a _ => a) (fz true f_l_take)) (aCons (eVar 0) (aCons (eC (.int 3)) aNil)) aNil) (eC (.int 0)))) (sDrop (eMeth "dict" updD (eVar 2) (aCons (eFroz (lComp (iVal (eFroz (lCall listAL (aCons (eVar 2) aNil)))) [4, 5, 6] (gTp [(gN 4), (gN 5), (gN 6)]) tTrue (eTup (aCons (eTup (aCons (eC (.int 0)) (aCons (eVar 5) (aCons (eVar 6) aNil)))) (aCons (eC (.bl true)) aNil))))) aNil))) sPass)
    (sRet (eCall tupleD (aCons (eFroz (lCall sortedL (aCons (eVar 2) aNil))) aNil)))))))
theorem sc_l_body : FnScope ["_law_well_here", "_law_high", "_law_found", "_law_turn", "_law_z", "_law_y", "_law_x", "_law_step"] ["_law_well_here", "_law_high"] (defScope s_l_body) := ⟨rfl, rfl, rfl, by decide +kernel, rfl, by decide +kernel, by decide +kernel⟩
theorem d_l_body {f : Addr} {fd : FuncData} (F : L2.Fun K "_law_body" "_law_body" s_l_body f fd) (T : TT K mg w) (N_l_take_2 : DfN P w K mg base "_law_take" 1 ["_law_well_here", "_law_many"] f_l_take 2 [] (fun a _ => a)) : FnD P w K mg base 2 f fd ["_law_well_here", "_law_high"] f_l_body :=
  fnD_of (k := 1) F sc_l_body (by decide) fun cdv A outer s H E hr g =>
    (dss_cons (ds_set g rfl (.inl rfl) (de_dict1 g (de_tup (da_cons (de_callN true N_l_take_2 hr (by decide) (by rfl) (da_cons (de_var rfl (.inl rfl)) (da_cons (de_var rfl (.inl rfl)) da_nil)) dk_nil) (da_cons (de_callN true N_l_take_2 hr (by decide) (by rfl) (da_cons (de_var rfl (.inl rfl)) (da_cons de_int da_nil)) dk_nil) (da_cons (de_callN true N_l_take_2 hr (by decide) (by rfl) (da_cons (de_var rfl (.inl rfl)) (da_cons de_int da_nil)) dk_nil) da_nil)))) de_bl))
    (dss_cons (ds_for g (di_rng1 (by rfl) T.z_range (da_cons (de_callN true N_l_take_2 hr (by decide) (by rfl) (da_cons (de_var rfl (.inl rfl)) (da_cons de_int da_nil)) dk_nil) da_nil)) (dg_name g rfl (.inl rfl)) (dss_cons (ds_par3 g rfl rfl rfl (by decide) (by decide) (by decide) rfl rfl rfl (da_cons (de_callN true N_l_take_2 hr (by decide) (by rfl) (da_cons (de_var rfl (.inl rfl)) (da_cons (de_var rfl (.inl rfl)) da_nil)) dk_nil) (da_cons (de_callN true N_l_take_2 hr (by decide) (by rfl) (da_cons (de_var rfl (.inl rfl)) (da_cons de_int da_nil)) dk_nil) (da_cons (de_callN true N_l_take_2 hr (by decide) (by rfl) (da_cons (de_var rfl (.inl rfl)) (da_cons de_int da_nil)) dk_nil) da_nil))) rfl)
    (dss_one (ds_for g (di_rng1 (by rfl) T.z_range (da_cons (de_bin op_addD de_int (de_callN true N_l_take_2 hr (by decide) (by rfl) (da_cons (de_var rfl (.inl rfl)) (da_cons de_int da_nil)) dk_nil)) da_nil)) (dg_name g rfl (.inl rfl)) (dss_one (ds_if (dt_cmp (op_ltD' g) (de_bin op_addD (de_var rfl (.inl rfl)) (de_var rfl (.inl rfl))) de_int (by rfl)) (dss_one (ds_put g de_bl (de_var rfl (.inl rfl)) (de_tup (da_cons (de_var rfl (.inl rfl)) (da_cons (de_var rfl (.inl rfl)) (da_cons (de_bin op_addD (de_var rfl (.inl rfl)) (de_var rfl (.inl rfl))) da_nil)))))) dss_nil))))))
    (dss_cons (ds_if (dt_cmp (op_eqD' g) (de_callN true N_l_take_2 hr (by decide) (by rfl) (da_cons (de_var rfl (.inl rfl)) (da_cons de_int da_nil)) dk_nil) de_int (by rfl)) (dss_one (ds_expr (de_bm (om_update g) PySem.F.plainAttrs_dict PySem.F.slot_dict_update PySem.F.type_dict_update (de_var rfl (.inl rfl)) (da_cons (de_froz (dn_comp g (di_val (de_froz (dn_callTy (op_list g) (by rfl) T.z_list PyProof.Rows.boot_list (da_cons (de_var rfl (.inl rfl)) da_nil)))) (own := [("_law_z", 4), ("_law_y", 5), ("_law_x", 6)]) (blkOk_of rfl (by rfl)) (fun s1 H1 C1 cl1 fp1 => (dg_tup (g.blk s1 H1 _ _ fp1) (dgs_cons (dg_name (g.blk s1 H1 _ _ fp1) rfl (.inl rfl)) (dgs_cons (dg_name (g.blk s1 H1 _ _ fp1) rfl (.inl rfl)) (dgs_cons (dg_name (g.blk s1 H1 _ _ fp1) rfl (.inl rfl)) dgs_nil))))) (fun s1 H1 C1 cl1 fp1 => dts_nil) (fun s1 H1 C1 cl1 fp1 => (de_tup (da_cons (de_tup (da_cons de_int (da_cons (de_var rfl (.inl rfl)) (da_cons (de_var rfl (.inl rfl)) da_nil)))) (da_cons de_bl da_nil)))))) da_nil)))) dss_nil)
    (dss_one (ds_ret (de_callTy op_tuple (by rfl) T.z_tuple PyProof.Rows.boot_tuple (da_cons (de_froz (dn_callB (op_sorted g) (by rfl) T.z_sorted PyProof.Rows.boot_sorted (da_cons (de_var rfl (.inl rfl)) da_nil))) da_nil)))))))
def f_l_is_int : Fn := fnB 3 ((sRet (eAnd (e1 (isiD "int") (eVar 0)) (eAnd (eNot (e1 (isiD "bool") (eVar 0))) (eAnd (e2 leD (eVar 1) (eVar 0)) (e2 leD (eVar 0) (eVar 2)))))))
theorem sc_l_is_int : FnScope ["_law_thing_here", "_law_low", "_law_high"] ["_law_thing_here", "_law_low", "_law_high"] (defScope s_l_is_int) := ⟨rfl, rfl, rfl, by decide +kernel, rfl, by decide +kernel, by decide +kernel⟩
theorem d_l_is_int {f : Addr} {fd : FuncData} (F : L2.Fun K "_law_is_int" "_law_is_int" s_l_is_int f fd) (T : TT K mg w)  : FnD P w K mg base 1 f fd ["_law_thing_here", "_law_low", "_law_high"] f_l_is_int :=
  fnD_of (k := 0) F sc_l_is_int (by decide) fun cdv A outer s H E hr g =>
    (dss_one (ds_ret (de_and (de_isi (T := "int") (by rfl) T.z_isinstance (by rfl) T.z_int PyProof.Rows.boot_int (de_var rfl (.inl rfl))) (de_and (de_not (de_isi (T := "bool") (by rfl) T.z_isinstance (by rfl) T.z_bool PyProof.Rows.boot_bool (de_var rfl (.inl rfl)))) (de_and (de_cmp op_leD (de_var rfl (.inl rfl)) (de_var rfl (.inl rfl)) (by rfl)) (de_one (de_cmp op_leD (de_var rfl (.inl rfl)) (de_var rfl (.inl rfl)) (by rfl))))))))
def f_l_is_cell : Fn := fnB 1 ((sSeq (sIf (tOr (tNot (tE (e1 (isiD "tuple") (eVar 0)))) (tOr (tE (e2 neD (eCall lenD (aCons (eVar 0) aNil)) (eC (.int 3)))) (tNot (tE (eCallN (argsN 3 0 (fun a _ => a) (fz true f_l_is_int)) (aCons (e2 ixD (eVar 0) (eC (.int 0))) (aCons (eC (.int 0)) (aCons (eC (.int 7)) aNil))) aNil))))) (sRet (eC (.bl false))) sPass)
    (sRet (eAnd (eCallN (argsN 3 0 (fun a _ => a) (fz true f_l_is_int)) (aCons (e2 ixD (eVar 0) (eC (.int 1))) (aCons (eC (.int 0)) (aCons (eC (.int 9)) aNil))) aNil) (eCallN (argsN 3 0 (fun a _ => a) (fz true f_l_is_int)) (aCons (e2 ixD (eVar 0) (eC (.int 2))) (aCons (eC (.int 0)) (aCons (eC (.int 9)) aNil))) aNil)))))
theorem sc_l_is_cell : FnScope ["_law_thing_here"] ["_law_thing_here"] (defScope s_l_is_cell) := ⟨rfl, rfl, rfl, by decide +kernel, rfl, by decide +kernel, by decide +kernel⟩
theorem d_l_is_cell {f : Addr} {fd : FuncData} (F : L2.Fun K "_law_is_cell" "_law_is_cell" s_l_is_cell f fd) (T : TT K mg w) (N_l_is_int_3 : DfN P w K mg base "_law_is_int" 1 ["_law_thing_here", "_law_low", "_law_high"] f_l_is_int 3 [] (fun a _ => a)) : FnD P w K mg base 2 f fd ["_law_thing_here"] f_l_is_cell :=
  fnD_of (k := 1) F sc_l_is_cell (by decide) fun cdv A outer s H E hr g =>
    (dss_cons (ds_if (dw_or (dt_not (dt_plain (de_isi (T := "tuple") (by rfl) T.z_isinstance (by rfl) T.z_tuple PyProof.Rows.boot_tuple (de_var rfl (.inl rfl))))) (dw_or (dt_cmp (op_neD' g) (de_callB op_len (by rfl) T.z_len PySem.boot_len (da_cons (de_var rfl (.inl rfl)) da_nil)) de_int (by rfl)) (dw_or1 (dt_not (dt_plain (de_callN true N_l_is_int_3 hr (by decide) (by rfl) (da_cons (de_ix (ixD_ok g) (de_var rfl (.inl rfl)) de_int fun _ _ => rfl) (da_cons de_int (da_cons de_int da_nil))) dk_nil)))))).dt (dss_one (ds_ret de_bl)) dss_nil)
    (dss_one (ds_ret (de_and (de_callN true N_l_is_int_3 hr (by decide) (by rfl) (da_cons (de_ix (ixD_ok g) (de_var rfl (.inl rfl)) de_int fun _ _ => rfl) (da_cons de_int (da_cons de_int da_nil))) dk_nil) (de_one (de_callN true N_l_is_int_3 hr (by decide) (by rfl) (da_cons (de_ix (ixD_ok g) (de_var rfl (.inl rfl)) de_int fun _ _ => rfl) (da_cons de_int (da_cons de_int da_nil))) dk_nil))))))
def f_l_are_cells : Fn := fnB 2 ((sSeq (sIf (tOr (tNot (tE (e1 (isiD "tuple") (eVar 0)))) (tE (e2 neD (eFroz (lComp (iVal (eVar 0)) [1] (gN 1) (tNot (tE (eCallN (argsN 1 0 (fun a _ => a) (fz true f_l_is_cell)) (aCons (eVar 1) aNil) aNil))) (eVar 1))) (eFroz (lDisp aNil))))) (sRet (eC (.bl false))) sPass)
    (sRet (e2 eqD (eFroz (lCall listAL (aCons (eVar 0) aNil))) (eFroz (lCall setSortL (aCons (eVar 0) aNil)))))))
theorem sc_l_are_cells : FnScope ["_law_thing_here", "_law_one"] ["_law_thing_here"] (defScope s_l_are_cells) := ⟨rfl, rfl, rfl, by decide +kernel, rfl, by decide +kernel, by decide +kernel⟩
theorem d_l_are_cells {f : Addr} {fd : FuncData} (F : L2.Fun K "_law_are_cells" "_law_are_cells" s_l_are_cells f fd) (T : TT K mg w) (N_l_is_cell_1 : DfN P w K mg base "_law_is_cell" 2 ["_law_thing_here"] f_l_is_cell 1 [] (fun a _ => a)) : FnD P w K mg base 3 f fd ["_law_thing_here"] f_l_are_cells :=
  fnD_of (k := 2) F sc_l_are_cells (by decide) fun cdv A outer s H E hr g =>
    (dss_cons (ds_if (dw_or (dt_not (dt_plain (de_isi (T := "tuple") (by rfl) T.z_isinstance (by rfl) T.z_tuple PyProof.Rows.boot_tuple (de_var rfl (.inl rfl))))) (dw_or1 (dt_cmp (op_neD' g) (de_froz (dn_comp g (di_val (de_var rfl (.inl rfl))) (own := [("_law_one", 1)]) (blkOk_of rfl (by rfl)) (fun s1 H1 C1 cl1 fp1 => (dg_name (g.blk s1 H1 _ _ fp1) rfl (.inl rfl))) (fun s1 H1 C1 cl1 fp1 => (dts_one (dt_not (dt_plain (de_callN true N_l_is_cell_1 hr (by decide) (by rfl) (da_cons (de_var rfl (.inl rfl)) da_nil) dk_nil))))) (fun s1 H1 C1 cl1 fp1 => (de_var rfl (.inl rfl))))) (de_froz (dn_disp da_nil)) (by rfl)))).dt (dss_one (ds_ret de_bl)) dss_nil)
    (dss_one (ds_ret (de_cmp (op_eqD' g) (de_froz (dn_callTy (op_list g) (by rfl) T.z_list PyProof.Rows.boot_list (da_cons (de_var rfl (.inl rfl)) da_nil))) (de_froz (dn_sortSet g (by rfl) T.z_sorted (by rfl) T.z_set (de_var rfl (.inl rfl)))) (by rfl)))))
def f_l_beside : Fn := fnB 4 ((sRet (e2 eqD (eCall sumD (aCons (eFroz (lComp (iZipD (aCons (eVar 0) (aCons (eVar 1) aNil))) [2, 3] (gTp [(gN 2), (gN 3)]) tTrue (eCall absD (aCons (e2 subD (eVar 2) (eVar 3)) aNil)))) aNil)) (eC (.int 1)))))
theorem sc_l_beside : FnScope ["_law_one", "_law_other", "_law_first", "_law_second"] ["_law_one", "_law_other"] (defScope s_l_beside) := ⟨rfl, rfl, rfl, by decide +kernel, rfl, by decide +kernel, by decide +kernel⟩
theorem d_l_beside {f : Addr} {fd : FuncData} (F : L2.Fun K "_law_beside" "_law_beside" s_l_beside f fd) (T : TT K mg w)  : FnD P w K mg base 1 f fd ["_law_one", "_law_other"] f_l_beside :=
  fnD_of (k := 0) F sc_l_beside (by decide) fun cdv A outer s H E hr g =>
    (dss_one (ds_ret (de_cmp (op_eqD' g) (de_callB (op_sum g) (by rfl) T.z_sum PyProof.Rows.boot_sum (da_cons (de_froz (dn_comp g (di_zip (by rfl) T.z_zip (da_cons (de_var rfl (.inl rfl)) (da_cons (de_var rfl (.inl rfl)) da_nil))) (own := [("_law_first", 2), ("_law_second", 3)]) (blkOk_of rfl (by rfl)) (fun s1 H1 C1 cl1 fp1 => (dg_tup (g.blk s1 H1 _ _ fp1) (dgs_cons (dg_name (g.blk s1 H1 _ _ fp1) rfl (.inl rfl)) (dgs_cons (dg_name (g.blk s1 H1 _ _ fp1) rfl (.inl rfl)) dgs_nil)))) (fun s1 H1 C1 cl1 fp1 => dts_nil) (fun s1 H1 C1 cl1 fp1 => (de_callB op_abs (by rfl) T.z_abs PyProof.Rows.boot_abs (da_cons (de_bin op_subD (de_var rfl (.inl rfl)) (de_var rfl (.inl rfl))) da_nil))))) da_nil)) de_int (by rfl))))
def f_l_pieces : Fn := fnB 7 ((sSeq (sSet 1 (eFroz (lDisp aNil)))
    (sSeq (sFor (iVal (eVar 0)) (gN 2) (sSeq (sSet 3 (eFroz (lComp (iVal (eVar 1)) [5] (gN 5) (tE (e2 neD (eFroz (lComp (iVal (eVar 5)) [6] (gN 6) (tE (eCallN (argsN 2 0 (fun a _ => a) (fz true f_l_beside)) (aCons (eVar 6) (aCons (eVar 2) aNil)) aNil)) (eVar 6))) (eFroz (lDisp aNil)))) (eVar 5))))
    (sSeq (sSetL 4 (lComp (iVal (eVar 1)) [5] (gN 5) (tE (e2 ninD (eVar 5) (eVar 3))) (eVar 5)) false)
    (sSet 1 (e2 addD (eVar 4) (eFroz (lDisp (aCons (eFroz (lCall sortedL (aCons (e2 addD (eCall sumD (aCons (eVar 3) (aCons (eFroz (lDisp aNil)) aNil))) (eFroz (lDisp (aCons (eVar 2) aNil)))) aNil))) aNil))))))))
    (sRet (eFroz (lCall sortedL (aCons (eFroz (lComp (iVal (eVar 1)) [5] (gN 5) tTrue (eCall tupleD (aCons (eVar 5) aNil)))) aNil)))))))
theorem sc_l_pieces : FnScope ["_law_body_here", "_law_found", "_law_cell", "_law_near", "_law_rest", "_law_piece", "_law_one"] ["_law_body_here"] (defScope s_l_pieces) := ⟨rfl, rfl, rfl, by decide +kernel, rfl, by decide +kernel, by decide +kernel⟩
theorem d_l_pieces {f : Addr} {fd : FuncData} (F : L2.Fun K "_law_pieces" "_law_pieces" s_l_pieces f fd) (T : TT K mg w) (N_l_beside_2 : DfN P w K mg base "_law_beside" 1 ["_law_one", "_law_other"] f_l_beside 2 [] (fun a _ => a)) : FnD P w K mg base 2 f fd ["_law_body_here"] f_l_pieces :=
  fnD_of (k := 1) F sc_l_pieces (by decide) fun cdv A outer s H E hr g =>
    (dss_cons (ds_set g rfl (.inl rfl) (de_froz (dn_disp da_nil)))
    (dss_cons (ds_for g (di_val (de_var rfl (.inl rfl))) (dg_name g rfl (.inr rfl)) (dss_cons (ds_set g rfl (.inr rfl) (de_froz (dn_comp g (di_val (de_var rfl (.inl rfl))) (own := [("_law_piece", 5)]) (blkOk_of rfl (by rfl)) (fun s1 H1 C1 cl1 fp1 => (dg_name (g.blk s1 H1 _ _ fp1) rfl (.inl rfl))) (fun s1 H1 C1 cl1 fp1 => (dts_one (dt_cmp (op_neD' (g.blk s1 H1 _ _ fp1)) (de_froz (dn_comp (g.blk s1 H1 _ _ fp1) (di_val (de_var rfl (.inl rfl))) (own := [("_law_one", 6)]) (blkOk_of rfl (by rfl)) (fun s2 H2 C2 cl2 fp2 => (dg_name ((g.blk s1 H1 _ _ fp1).blk s2 H2 _ _ fp2) rfl (.inl rfl))) (fun s2 H2 C2 cl2 fp2 => (dts_one (dt_plain (de_callN true N_l_beside_2 hr (by decide) (by rfl) (da_cons (de_var rfl (.inl rfl)) (da_cons (de_var rfl (.inr (.inl rfl))) da_nil)) dk_nil)))) (fun s2 H2 C2 cl2 fp2 => (de_var rfl (.inl rfl))))) (de_froz (dn_disp da_nil)) (by rfl)))) (fun s1 H1 C1 cl1 fp1 => (de_var rfl (.inl rfl))))))
    (dss_cons (ds_setLc g false rfl (by rfl) (sw_true rfl (by rfl) (by rfl) (by rfl)) (di_val (de_var rfl (.inl rfl))) (own := [("_law_piece", 5)]) (blkOk_of rfl (by rfl)) (fun s1 H1 C1 cl1 fp1 => (dg_name (g.blk s1 H1 _ _ fp1) rfl (.inl rfl))) (fun s1 H1 C1 cl1 fp1 => (dts_one (dt_cmp (op_ninD' (g.blk s1 H1 _ _ fp1)) (de_var rfl (.inl rfl)) (de_var rfl (.inr (.inl rfl))) (by rfl)))) (fun s1 H1 C1 cl1 fp1 => (de_var rfl (.inl rfl))))
    (dss_one (ds_set g rfl (.inl rfl) (de_bin op_addD (de_var rfl (.inl rfl)) (de_froz (dn_disp (da_cons (de_froz (dn_callB (op_sorted g) (by rfl) T.z_sorted PyProof.Rows.boot_sorted (da_cons (de_bin op_addD (de_callB (op_sum g) (by rfl) T.z_sum PyProof.Rows.boot_sum (da_cons (de_var rfl (.inr (.inl rfl))) (da_cons (de_froz (dn_disp da_nil)) da_nil))) (de_froz (dn_disp (da_cons (de_var rfl (.inr (.inl rfl))) da_nil)))) da_nil))) da_nil)))))))))
    (dss_one (ds_ret (de_froz (dn_callB (op_sorted g) (by rfl) T.z_sorted PyProof.Rows.boot_sorted (da_cons (de_froz (dn_comp g (di_val (de_var rfl (.inl rfl))) (own := [("_law_piece", 5)]) (blkOk_of rfl (by rfl)) (fun s1 H1 C1 cl1 fp1 => (dg_name (g.blk s1 H1 _ _ fp1) rfl (.inl rfl))) (fun s1 H1 C1 cl1 fp1 => dts_nil) (fun s1 H1 C1 cl1 fp1 => (de_callTy op_tuple (by rfl) T.z_tuple PyProof.Rows.boot_tuple (da_cons (de_var rfl (.inl rfl)) da_nil))))) da_nil)))))))
def f_law : Fn := fnB 16 ((sSeq (sSet 1 (eFroz (lDisp aNil)))
    (sSeq (sFor (iRng1 (aCons (eC (.int 3)) aNil)) (gN 2) (sFor (iRng1 (aCons (eC (.int 10)) aNil)) (gN 3) (sSet 1 (e2 addD (eVar 1) (eFroz (lComp (iRng1 (aCons (eC (.int 10)) aNil)) [14] (gN 14) tTrue (eTup (aCons (eVar 2) (aCons (eVar 3) (aCons (eVar 14) aNil))))))))))
    (sSeq (sFor (iRng1 (aCons (eCall maxA (aCons (eC (.int 6)) (aCons (eCall minA (aCons (eC (.int 40)) (aCons (eCall lenD (aCons (eVar 0) aNil)) aNil))) aNil))) aNil)) (gN 4) (sSeq (sSet 5 (eCallN (argsN 2 0 (fun a _ => a) (fz false f_l_well)) (aCons (eVar 0) (aCons (eVar 4) aNil)) aNil))
    (sSeq (sSet 6 (eCallN (argsN 2 0 (fun a _ => a) (fz true f_l_body)) (aCons (eVar 5) (aCons (eC (.int 4)) aNil)) aNil))
    (sSeq (sSet 7 (eFroz (lDisp (aCons (eVar 6) (aCons (eCallN (argsN 3 0 (fun a _ => a) (fz true f_l_otherwise)) (aCons (eVar 5) (aCons (eVar 6) (aCons (eC (.int 2)) aNil))) aNil) (aCons (eCallN (argsN 3 0 (fun a _ => a) (fz true f_l_otherwise)) (aCons (eVar 5) (aCons (eVar 6) (aCons (eC (.int 1)) aNil))) aNil) (aCons (eFroz (lCall listAL (aCons (eVar 6) aNil))) (aCons (eTup aNil) (aCons (e1 revD (eVar 6)) aNil)))))))))
    (sSeq (sSet 7 (e2 addD (eVar 7) (eFroz (lDisp (aCons (eCall tupleD (aCons (eFroz (lSlice (eVar 1) pNo (pSome (eC (.int 200))))) aNil)) (aCons (eCall tupleD (aCons (eFroz (lSlice (eVar 1) pNo (pSome (eC (.int 201))))) aNil)) (aCons (e2 addD (eVar 6) (eSlice (eVar 6) (pSome (e1 negD (eC (.int 1)))) pNo)) (aCons (eCallN (argsN 2 0 (fun a _ => a) (fz true f_l_thing)) (aCons (eVar 5) (aCons (eC (.int 3)) aNil)) aNil) (aCons (eTup (aCons (eTup (aCons (eC (.int 7)) (aCons (eC (.int 9)) (aCons (eC (.int 9)) aNil)))) aNil)) aNil)))))))))
    (sSeq (sFor (iVal (e2 addD (eVar 7) (eFroz (lDisp (aCons (eTup (aCons (eTup (aCons (eC (.int 8)) (aCons (eC (.int 0)) (aCons (eC (.int 0)) aNil)))) aNil)) (aCons (eTup (aCons (eTup (aCons (eC (.int 0)) (aCons (eC (.int 10)) (aCons (eC (.int 0)) aNil)))) aNil)) (aCons (eTup (aCons (eTup (aCons (eC (.int 0)) (aCons (eC (.int 0)) (aCons (eC (.bl true)) aNil)))) aNil)) aNil))))))) (gN 8) (sSeq (sSet 9 (eAnd (eCallN (argsN 1 0 (fun a _ => a) (fz true f_l_are_cells)) (aCons (eVar 8) aNil) aNil) (eAnd (e2 ltD (eC (.int 0)) (eCall lenD (aCons (eVar 8) aNil))) (e2 ltD (eCall lenD (aCons (eVar 8) aNil)) (eC (.int 201))))))
    (sIf (tNot (tE (eCallN (argsN 2 0 (fun a _ => a) (fz true f_l_says)) (aCons (eCallN (argsN 1 0 (fun a _ => a) (fz true f_is_body)) (aCons (eVar 8) aNil) aNil) (aCons (eVar 9) aNil)) aNil))) (sRet (eC (.bl false))) sPass)))
    (sSeq (sSet 10 (eCallN (argsN 1 0 (fun a _ => a) (fz false f_pieces)) (aCons (eVar 6) aNil) aNil))
    (sSeq (sIf (tE (e2 neD (eVar 10) (eCallN (argsN 1 0 (fun a _ => a) (fz true f_l_pieces)) (aCons (eVar 6) aNil) aNil))) (sRet (eC (.bl false))) sPass)
    (sSeq (sDrop (eMeth "list" appendD (eVar 10) (aCons (eC (.int 7)) aNil)))
    (sSeq (sSet 11 (eCall tupleD (aCons (eFroz (lComp (iRng1 (aCons (eC (.int 3)) aNil)) [13] (gN 13) tTrue (eCall minA (aCons (eFroz (lComp (iVal (eVar 6)) [15] (gN 15) tTrue (e2 ixD (eVar 15) (eVar 13)))) aNil)))) aNil)))
    (sSeq (sSet 12 (eCall tupleD (aCons (eFroz (lComp (iRng1 (aCons (eC (.int 3)) aNil)) [13] (gN 13) tTrue (eCall maxA (aCons (eFroz (lComp (iVal (eVar 6)) [15] (gN 15) tTrue (e2 ixD (eVar 15) (eVar 13)))) aNil)))) aNil)))
    (sIf (tOr (tE (e2 neD (eCallN (argsN 1 0 (fun a _ => a) (fz true f_bounds)) (aCons (eVar 6) aNil) aNil) (eTup (aCons (eVar 11) (aCons (eVar 12) aNil))))) (tE (e2 eqD (eCallN (argsN 1 0 (fun a _ => a) (fz true f_pieces)) (aCons (eVar 6) aNil) aNil) (eVar 10)))) (sRet (eC (.bl false))) sPass))))))))))))
    (sRet (eC (.bl true)))))))
theorem sc_law : FnScope ["_law_script", "_law_many", "_law_z", "_law_y", "_law_k", "_law_well_here", "_law_body_here", "_law_some", "_law_thing_here", "_law_due", "_law_told", "_law_low", "_law_high", "_law_at", "_law_x", "_law_cell"] ["_law_script"] (defScope s_law) := ⟨rfl, rfl, rfl, by decide +kernel, rfl, by decide +kernel, by decide +kernel⟩
theorem d_law {f : Addr} {fd : FuncData} (F : L2.Fun K "law" "law" s_law f fd) (T : TT K mg w) (N_is_body_1 : DfN P w K mg base "is_body" 5 ["thing"] f_is_body 1 [] (fun a _ => a)) (N_pieces_1 : DfN P w K mg base "pieces" 2 ["body"] f_pieces 1 [] (fun a _ => a)) (N_bounds_1 : DfN P w K mg base "bounds" 1 ["body"] f_bounds 1 [] (fun a _ => a)) (N_l_well_2 : DfN P w K mg base "_law_well" 1 ["_law_script", "_law_k"] f_l_well 2 [] (fun a _ => a)) (N_l_says_2 : DfN P w K mg base "_law_says" 1 ["_law_found", "_law_due"] f_l_says 2 [] (fun a _ => a)) (N_l_thing_2 : DfN P w K mg base "_law_thing" 6 ["_law_well_here", "_law_deep"] f_l_thing 2 [] (fun a _ => a)) (N_l_otherwise_3 : DfN P w K mg base "_law_otherwise" 10 ["_law_well_here", "_law_thing_here", "_law_deep"] f_l_otherwise 3 [] (fun a _ => a)) (N_l_body_2 : DfN P w K mg base "_law_body" 2 ["_law_well_here", "_law_high"] f_l_body 2 [] (fun a _ => a)) (N_l_are_cells_1 : DfN P w K mg base "_law_are_cells" 3 ["_law_thing_here"] f_l_are_cells 1 [] (fun a _ => a)) (N_l_pieces_1 : DfN P w K mg base "_law_pieces" 2 ["_law_body_here"] f_l_pieces 1 [] (fun a _ => a)) : FnD P w K mg base 11 f fd ["_law_script"] f_law :=
  fnD_of (k := 10) F sc_law (by decide) fun cdv A outer s H E hr g =>
    (dss_cons (ds_set g rfl (.inl rfl) (de_froz (dn_disp da_nil)))
    (dss_cons (ds_for g (di_rng1 (by rfl) T.z_range (da_cons de_int da_nil)) (dg_name g rfl (.inr rfl)) (dss_one (ds_for g (di_rng1 (by rfl) T.z_range (da_cons de_int da_nil)) (dg_name g rfl (.inr rfl)) (dss_one (ds_set g rfl (.inl rfl) (de_bin op_addD (de_var rfl (.inl rfl)) (de_froz (dn_comp g (di_rng1 (by rfl) T.z_range (da_cons de_int da_nil)) (own := [("_law_x", 14)]) (blkOk_of rfl (by rfl)) (fun s1 H1 C1 cl1 fp1 => (dg_name (g.blk s1 H1 _ _ fp1) rfl (.inl rfl))) (fun s1 H1 C1 cl1 fp1 => dts_nil) (fun s1 H1 C1 cl1 fp1 => (de_tup (da_cons (de_var rfl (.inr (.inl rfl))) (da_cons (de_var rfl (.inr (.inl rfl))) (da_cons (de_var rfl (.inl rfl)) da_nil)))))))))))))
    (dss_cons (ds_for g (di_rng1 (by rfl) T.z_range (da_cons (de_callB (op_max g) (by rfl) T.z_max PyProof.Rows.boot_max (da_cons de_int (da_cons (de_callB (op_min g) (by rfl) T.z_min PyProof.Rows.boot_min (da_cons de_int (da_cons (de_callB op_len (by rfl) T.z_len PySem.boot_len (da_cons (de_var rfl (.inl rfl)) da_nil)) da_nil))) da_nil))) da_nil)) (dg_name g rfl (.inl rfl)) (dss_cons (ds_set g rfl (.inl rfl) (de_callN false N_l_well_2 hr (by decide) (by rfl) (da_cons (de_var rfl (.inl rfl)) (da_cons (de_var rfl (.inl rfl)) da_nil)) dk_nil))
    (dss_cons (ds_set g rfl (.inr rfl) (de_callN true N_l_body_2 hr (by decide) (by rfl) (da_cons (de_var rfl (.inl rfl)) (da_cons de_int da_nil)) dk_nil))
    (dss_cons (ds_set g rfl (.inl rfl) (de_froz (dn_disp (da_cons (de_var rfl (.inr (.inl rfl))) (da_cons (de_callN true N_l_otherwise_3 hr (by decide) (by rfl) (da_cons (de_var rfl (.inl rfl)) (da_cons (de_var rfl (.inr (.inl rfl))) (da_cons de_int da_nil))) dk_nil) (da_cons (de_callN true N_l_otherwise_3 hr (by decide) (by rfl) (da_cons (de_var rfl (.inl rfl)) (da_cons (de_var rfl (.inr (.inl rfl))) (da_cons de_int da_nil))) dk_nil) (da_cons (de_froz (dn_callTy (op_list g) (by rfl) T.z_list PyProof.Rows.boot_list (da_cons (de_var rfl (.inr (.inl rfl))) da_nil))) (da_cons (de_tup da_nil) (da_cons (de_rev (de_var rfl (.inr (.inl rfl)))) da_nil)))))))))
    (dss_cons (ds_set g rfl (.inl rfl) (de_bin op_addD (de_var rfl (.inl rfl)) (de_froz (dn_disp (da_cons (de_callTy op_tuple (by rfl) T.z_tuple PyProof.Rows.boot_tuple (da_cons (de_froz (dn_slice (de_var rfl (.inl rfl)) dp_none (dp_some de_int))) da_nil)) (da_cons (de_callTy op_tuple (by rfl) T.z_tuple PyProof.Rows.boot_tuple (da_cons (de_froz (dn_slice (de_var rfl (.inl rfl)) dp_none (dp_some de_int))) da_nil)) (da_cons (de_bin op_addD (de_var rfl (.inr (.inl rfl))) (de_slice (de_var rfl (.inr (.inl rfl))) (dp_some (de_un op_negD de_int)) dp_none)) (da_cons (de_callN true N_l_thing_2 hr (by decide) (by rfl) (da_cons (de_var rfl (.inl rfl)) (da_cons de_int da_nil)) dk_nil) (da_cons (de_tup (da_cons (de_tup (da_cons de_int (da_cons de_int (da_cons de_int da_nil)))) da_nil)) da_nil)))))))))
    (dss_cons (ds_for g (di_val (de_bin op_addD (de_var rfl (.inl rfl)) (de_froz (dn_disp (da_cons (de_tup (da_cons (de_tup (da_cons de_int (da_cons de_int (da_cons de_int da_nil)))) da_nil)) (da_cons (de_tup (da_cons (de_tup (da_cons de_int (da_cons de_int (da_cons de_int da_nil)))) da_nil)) (da_cons (de_tup (da_cons (de_tup (da_cons de_int (da_cons de_int (da_cons de_bl da_nil)))) da_nil)) da_nil))))))) (dg_name g rfl (.inl rfl)) (dss_cons (ds_set g rfl (.inl rfl) (de_and (de_callN true N_l_are_cells_1 hr (by decide) (by rfl) (da_cons (de_var rfl (.inl rfl)) da_nil) dk_nil) (de_and (de_cmp (op_ltD' g) de_int (de_callB op_len (by rfl) T.z_len PySem.boot_len (da_cons (de_var rfl (.inl rfl)) da_nil)) (by rfl)) (de_one (de_cmp (op_ltD' g) (de_callB op_len (by rfl) T.z_len PySem.boot_len (da_cons (de_var rfl (.inl rfl)) da_nil)) de_int (by rfl))))))
    (dss_one (ds_if (dt_not (dt_plain (de_callN true N_l_says_2 hr (by decide) (by rfl) (da_cons (de_callN true N_is_body_1 hr (by decide) (by rfl) (da_cons (de_var rfl (.inl rfl)) da_nil) dk_nil) (da_cons (de_var rfl (.inl rfl)) da_nil)) dk_nil))) (dss_one (ds_ret de_bl)) dss_nil))))
    (dss_cons (ds_set g rfl (.inl rfl) (de_callN false N_pieces_1 hr (by decide) (by rfl) (da_cons (de_var rfl (.inr (.inl rfl))) da_nil) dk_nil))
    (dss_cons (ds_if (dt_cmp (op_neD' g) (de_var rfl (.inl rfl)) (de_callN true N_l_pieces_1 hr (by decide) (by rfl) (da_cons (de_var rfl (.inr (.inl rfl))) da_nil) dk_nil) (by rfl)) (dss_one (ds_ret de_bl)) dss_nil)
    (dss_cons (ds_expr (de_append (de_var rfl (.inl rfl)) (da_cons de_int da_nil)))
    (dss_cons (ds_set g rfl (.inl rfl) (de_callTy op_tuple (by rfl) T.z_tuple PyProof.Rows.boot_tuple (da_cons (de_froz (dn_comp g (di_rng1 (by rfl) T.z_range (da_cons de_int da_nil)) (own := [("_law_at", 13)]) (blkOk_of rfl (by rfl)) (fun s1 H1 C1 cl1 fp1 => (dg_name (g.blk s1 H1 _ _ fp1) rfl (.inr rfl))) (fun s1 H1 C1 cl1 fp1 => dts_nil) (fun s1 H1 C1 cl1 fp1 => (de_callB (op_min (g.blk s1 H1 _ _ fp1)) (by rfl) T.z_min PyProof.Rows.boot_min (da_cons (de_froz (dn_comp (g.blk s1 H1 _ _ fp1) (di_val (de_var rfl (.inr (.inl rfl)))) (own := [("_law_cell", 15)]) (blkOk_of rfl (by rfl)) (fun s2 H2 C2 cl2 fp2 => (dg_name ((g.blk s1 H1 _ _ fp1).blk s2 H2 _ _ fp2) rfl (.inl rfl))) (fun s2 H2 C2 cl2 fp2 => dts_nil) (fun s2 H2 C2 cl2 fp2 => (de_ix (ixD_ok ((g.blk s1 H1 _ _ fp1).blk s2 H2 _ _ fp2)) (de_var rfl (.inl rfl)) (de_var rfl (.inr (.inl rfl))) fun _ _ => rfl)))) da_nil))))) da_nil)))
    (dss_cons (ds_set g rfl (.inl rfl) (de_callTy op_tuple (by rfl) T.z_tuple PyProof.Rows.boot_tuple (da_cons (de_froz (dn_comp g (di_rng1 (by rfl) T.z_range (da_cons de_int da_nil)) (own := [("_law_at", 13)]) (blkOk_of rfl (by rfl)) (fun s1 H1 C1 cl1 fp1 => (dg_name (g.blk s1 H1 _ _ fp1) rfl (.inr rfl))) (fun s1 H1 C1 cl1 fp1 => dts_nil) (fun s1 H1 C1 cl1 fp1 => (de_callB (op_max (g.blk s1 H1 _ _ fp1)) (by rfl) T.z_max PyProof.Rows.boot_max (da_cons (de_froz (dn_comp (g.blk s1 H1 _ _ fp1) (di_val (de_var rfl (.inr (.inl rfl)))) (own := [("_law_cell", 15)]) (blkOk_of rfl (by rfl)) (fun s2 H2 C2 cl2 fp2 => (dg_name ((g.blk s1 H1 _ _ fp1).blk s2 H2 _ _ fp2) rfl (.inl rfl))) (fun s2 H2 C2 cl2 fp2 => dts_nil) (fun s2 H2 C2 cl2 fp2 => (de_ix (ixD_ok ((g.blk s1 H1 _ _ fp1).blk s2 H2 _ _ fp2)) (de_var rfl (.inl rfl)) (de_var rfl (.inr (.inl rfl))) fun _ _ => rfl)))) da_nil))))) da_nil)))
    (dss_one (ds_if (dw_or (dt_cmp (op_neD' g) (de_callN true N_bounds_1 hr (by decide) (by rfl) (da_cons (de_var rfl (.inr (.inl rfl))) da_nil) dk_nil) (de_tup (da_cons (de_var rfl (.inl rfl)) (da_cons (de_var rfl (.inl rfl)) da_nil))) (by rfl)) (dw_or1 (dt_cmp (op_eqD' g) (de_callN true N_pieces_1 hr (by decide) (by rfl) (da_cons (de_var rfl (.inr (.inl rfl))) da_nil) dk_nil) (de_var rfl (.inl rfl)) (by rfl)))).dt (dss_one (ds_ret de_bl)) dss_nil)))))))))))))
    (dss_one (ds_ret de_bl)))))
/-- what the law promises, whatever the script is -/
def Main (m : Nat) : Prop := ∀ ns : List Int, ns.length ≤ m → ∃ h, f_law [.scr ns] [] = .ok (.bl true) h
theorem all_mk {l : PySem.W.OpenLaw} {w : World} {K : PySem.W.Frag} {h : Heap} {mg : Str → Option Value} {fa : Addr} {m : Nat} (main : Main m) (X : K.In h) (G : h.Ns mainGlobals mg) (hfa : mg "law" = some (.ref fa))
    {od1 an1 : Option Addr} {sl1 : Array (Option Value)} {oc1 dc1 pm1 cd1 ct1 : Value} {f1 : Addr}
    {kV1 : Value}
    {od2 an2 : Option Addr} {sl2 : Array (Option Value)} {oc2 dc2 pm2 cd2 ct2 : Value} {f2 : Addr}
    {kV2 : Value}
    {od3 an3 : Option Addr} {sl3 : Array (Option Value)} {oc3 dc3 pm3 cd3 ct3 : Value} {f3 : Addr}
    {kV3 : Value}
    {od4 an4 : Option Addr} {sl4 : Array (Option Value)} {oc4 dc4 pm4 cd4 ct4 : Value} {f4 : Addr}
    {kV4 : Value}
    {od5 an5 : Option Addr} {sl5 : Array (Option Value)} {oc5 dc5 pm5 cd5 ct5 : Value} {f5 : Addr}
    {kV5 : Value}
    {od6 an6 : Option Addr} {sl6 : Array (Option Value)} {oc6 dc6 pm6 cd6 ct6 : Value} {f6 : Addr}
    {kV6 : Value}
    {od7 an7 : Option Addr} {sl7 : Array (Option Value)} {oc7 dc7 pm7 cd7 ct7 : Value} {f7 : Addr}
    {kV7 : Value}
    {od8 an8 : Option Addr} {sl8 : Array (Option Value)} {oc8 dc8 pm8 cd8 ct8 : Value} {f8 : Addr}
    {kV8 : Value}
    {od9 an9 : Option Addr} {sl9 : Array (Option Value)} {oc9 dc9 pm9 cd9 ct9 : Value} {f9 : Addr}
    {kV9 : Value}
    {od10 an10 : Option Addr} {sl10 : Array (Option Value)} {oc10 dc10 pm10 cd10 ct10 : Value} {f10 : Addr}
    {kV10 : Value}
    {od11 an11 : Option Addr} {sl11 : Array (Option Value)} {oc11 dc11 pm11 cd11 ct11 : Value} {f11 : Addr}
    {kV11 : Value}
    {od12 an12 : Option Addr} {sl12 : Array (Option Value)} {oc12 dc12 pm12 cd12 ct12 : Value} {f12 : Addr}
    {kV12 : Value}
    {od13 an13 : Option Addr} {sl13 : Array (Option Value)} {oc13 dc13 pm13 cd13 ct13 : Value} {f13 : Addr}
    {kV13 : Value}
    {od14 an14 : Option Addr} {sl14 : Array (Option Value)} {oc14 dc14 pm14 cd14 ct14 : Value} {f14 : Addr}
    {kV14 : Value}
    {od15 an15 : Option Addr} {sl15 : Array (Option Value)} {oc15 dc15 pm15 cd15 ct15 : Value} {f15 : Addr}
    {kV15 : Value}
    {od16 an16 : Option Addr} {sl16 : Array (Option Value)} {oc16 dc16 pm16 cd16 ct16 : Value} {f16 : Addr}
    {kV16 : Value}
    {od17 an17 : Option Addr} {sl17 : Array (Option Value)} {oc17 dc17 pm17 cd17 ct17 : Value} {f17 : Addr}
    {kV17 : Value}
    {od18 an18 : Option Addr} {sl18 : Array (Option Value)} {oc18 dc18 pm18 cd18 ct18 : Value} {f18 : Addr}
    {kV18 : Value}
    {od19 an19 : Option Addr} {sl19 : Array (Option Value)} {oc19 dc19 pm19 cd19 ct19 : Value} {f19 : Addr}
    {kV19 : Value}
    {od20 an20 : Option Addr} {sl20 : Array (Option Value)} {oc20 dc20 pm20 cd20 ct20 : Value} {f20 : Addr}
    {kV20 : Value}
    {od21 an21 : Option Addr} {sl21 : Array (Option Value)} {oc21 dc21 pm21 cd21 ct21 : Value} {f21 : Addr}
    {kV21 : Value}
    {od22 an22 : Option Addr} {sl22 : Array (Option Value)} {oc22 dc22 pm22 cd22 ct22 : Value} {f22 : Addr}
    {kV22 : Value}
    {kt1 : Tok}
    {kt2 : Tok}
    {kt5 : Tok}
    {kt6 : Tok}
    {ka4 : Addr} {ko4 : Obj} {kn4 : Nat}
    {kt8 : Tok}
    {kt9 : Tok}
    {ka7 : Addr} {ko7 : Obj} {kn7 : Nat}
    {kt11 : Tok}
    {kt12 : Tok}
    {ka10 : Addr} {ko10 : Obj} {kn10 : Nat}
    {kt14 : Tok}
    {kt15 : Tok}
    {ka13 : Addr} {ko13 : Obj} {kn13 : Nat}
    {ka3 : Addr} {ko3 : Obj} {kn3 : Nat}
    {kt16 : Tok}
    (a1 : PySem.W.nsIn K mainGlobals "rising" = some (some (.ref f1)))
    (l1 : K.lookup f1 = some ⟨oc1, od1, .func (PySem.W.fnOf "rising" "rising" (defArgs s_rising) (defBody s_rising) (defScope s_rising) .none kV1 dc1 pm1 an1 cd1 ct1), sl1⟩) (c1 : PySem.W.codeIn K cd1 "rising" = true) (k1 : PySem.W.keepIn K (.ref f1) = true)
    (a2 : PySem.W.nsIn K mainGlobals "is_int" = some (some (.ref f2)))
    (l2 : K.lookup f2 = some ⟨oc2, od2, .func (PySem.W.fnOf "is_int" "is_int" (defArgs s_is_int) (defBody s_is_int) (defScope s_is_int) .none kV2 dc2 pm2 an2 cd2 ct2), sl2⟩) (c2 : PySem.W.codeIn K cd2 "is_int" = true) (k2 : PySem.W.keepIn K (.ref f2) = true)
    (a3 : PySem.W.nsIn K mainGlobals "is_whole" = some (some (.ref f3)))
    (l3 : K.lookup f3 = some ⟨oc3, od3, .func (PySem.W.fnOf "is_whole" "is_whole" (defArgs s_is_whole) (defBody s_is_whole) (defScope s_is_whole) .none kV3 dc3 pm3 an3 cd3 ct3), sl3⟩) (c3 : PySem.W.codeIn K cd3 "is_whole" = true) (k3 : PySem.W.keepIn K (.ref f3) = true)
    (a4 : PySem.W.nsIn K mainGlobals "is_tuple" = some (some (.ref f4)))
    (l4 : K.lookup f4 = some ⟨oc4, od4, .func (PySem.W.fnOf "is_tuple" "is_tuple" (defArgs s_is_tuple) (defBody s_is_tuple) (defScope s_is_tuple) .none kV4 dc4 pm4 an4 cd4 ct4), sl4⟩) (c4 : PySem.W.codeIn K cd4 "is_tuple" = true) (k4 : PySem.W.keepIn K (.ref f4) = true)
    (a5 : PySem.W.nsIn K mainGlobals "is_cell" = some (some (.ref f5)))
    (l5 : K.lookup f5 = some ⟨oc5, od5, .func (PySem.W.fnOf "is_cell" "is_cell" (defArgs s_is_cell) (defBody s_is_cell) (defScope s_is_cell) .none kV5 dc5 pm5 an5 cd5 ct5), sl5⟩) (c5 : PySem.W.codeIn K cd5 "is_cell" = true) (k5 : PySem.W.keepIn K (.ref f5) = true)
    (a6 : PySem.W.nsIn K mainGlobals "are_cells" = some (some (.ref f6)))
    (l6 : K.lookup f6 = some ⟨oc6, od6, .func (PySem.W.fnOf "are_cells" "are_cells" (defArgs s_are_cells) (defBody s_are_cells) (defScope s_are_cells) .none kV6 dc6 pm6 an6 cd6 ct6), sl6⟩) (c6 : PySem.W.codeIn K cd6 "are_cells" = true) (k6 : PySem.W.keepIn K (.ref f6) = true)
    (a7 : PySem.W.nsIn K mainGlobals "is_body" = some (some (.ref f7)))
    (l7 : K.lookup f7 = some ⟨oc7, od7, .func (PySem.W.fnOf "is_body" "is_body" (defArgs s_is_body) (defBody s_is_body) (defScope s_is_body) .none kV7 dc7 pm7 an7 cd7 ct7), sl7⟩) (c7 : PySem.W.codeIn K cd7 "is_body" = true) (k7 : PySem.W.keepIn K (.ref f7) = true)
    (a8 : PySem.W.nsIn K mainGlobals "beside" = some (some (.ref f8)))
    (l8 : K.lookup f8 = some ⟨oc8, od8, .func (PySem.W.fnOf "beside" "beside" (defArgs s_beside) (defBody s_beside) (defScope s_beside) .none kV8 dc8 pm8 an8 cd8 ct8), sl8⟩) (c8 : PySem.W.codeIn K cd8 "beside" = true) (k8 : PySem.W.keepIn K (.ref f8) = true)
    (a9 : PySem.W.nsIn K mainGlobals "pieces" = some (some (.ref f9)))
    (l9 : K.lookup f9 = some ⟨oc9, od9, .func (PySem.W.fnOf "pieces" "pieces" (defArgs s_pieces) (defBody s_pieces) (defScope s_pieces) .none kV9 dc9 pm9 an9 cd9 ct9), sl9⟩) (c9 : PySem.W.codeIn K cd9 "pieces" = true) (k9 : PySem.W.keepIn K (.ref f9) = true)
    (a10 : PySem.W.nsIn K mainGlobals "bounds" = some (some (.ref f10)))
    (l10 : K.lookup f10 = some ⟨oc10, od10, .func (PySem.W.fnOf "bounds" "bounds" (defArgs s_bounds) (defBody s_bounds) (defScope s_bounds) .none kV10 dc10 pm10 an10 cd10 ct10), sl10⟩) (c10 : PySem.W.codeIn K cd10 "bounds" = true) (k10 : PySem.W.keepIn K (.ref f10) = true)
    (a11 : PySem.W.nsIn K mainGlobals "_law_well" = some (some (.ref f11)))
    (l11 : K.lookup f11 = some ⟨oc11, od11, .func (PySem.W.fnOf "_law_well" "_law_well" (defArgs s_l_well) (defBody s_l_well) (defScope s_l_well) .none kV11 dc11 pm11 an11 cd11 ct11), sl11⟩) (c11 : PySem.W.codeIn K cd11 "_law_well" = true) (k11 : PySem.W.keepIn K (.ref f11) = true)
    (a12 : PySem.W.nsIn K mainGlobals "_law_says" = some (some (.ref f12)))
    (l12 : K.lookup f12 = some ⟨oc12, od12, .func (PySem.W.fnOf "_law_says" "_law_says" (defArgs s_l_says) (defBody s_l_says) (defScope s_l_says) .none kV12 dc12 pm12 an12 cd12 ct12), sl12⟩) (c12 : PySem.W.codeIn K cd12 "_law_says" = true) (k12 : PySem.W.keepIn K (.ref f12) = true)
    (a13 : PySem.W.nsIn K mainGlobals "_law_take" = some (some (.ref f13)))
    (l13 : K.lookup f13 = some ⟨oc13, od13, .func (PySem.W.fnOf "_law_take" "_law_take" (defArgs s_l_take) (defBody s_l_take) (defScope s_l_take) .none kV13 dc13 pm13 an13 cd13 ct13), sl13⟩) (c13 : PySem.W.codeIn K cd13 "_law_take" = true) (k13 : PySem.W.keepIn K (.ref f13) = true)
    (a14 : PySem.W.nsIn K mainGlobals "_law_thing" = some (some (.ref f14)))
    (l14 : K.lookup f14 = some ⟨oc14, od14, .func (PySem.W.fnOf "_law_thing" "_law_thing" (defArgs s_l_thing) (defBody s_l_thing) (defScope s_l_thing) .none kV14 dc14 pm14 an14 cd14 ct14), sl14⟩) (c14 : PySem.W.codeIn K cd14 "_law_thing" = true) (k14 : PySem.W.keepIn K (.ref f14) = true)
    (a15 : PySem.W.nsIn K mainGlobals "_law_otherwise" = some (some (.ref f15)))
    (l15 : K.lookup f15 = some ⟨oc15, od15, .func (PySem.W.fnOf "_law_otherwise" "_law_otherwise" (defArgs s_l_otherwise) (defBody s_l_otherwise) (defScope s_l_otherwise) .none kV15 dc15 pm15 an15 cd15 ct15), sl15⟩) (c15 : PySem.W.codeIn K cd15 "_law_otherwise" = true) (k15 : PySem.W.keepIn K (.ref f15) = true)
    (a16 : PySem.W.nsIn K mainGlobals "_law_body" = some (some (.ref f16)))
    (l16 : K.lookup f16 = some ⟨oc16, od16, .func (PySem.W.fnOf "_law_body" "_law_body" (defArgs s_l_body) (defBody s_l_body) (defScope s_l_body) .none kV16 dc16 pm16 an16 cd16 ct16), sl16⟩) (c16 : PySem.W.codeIn K cd16 "_law_body" = true) (k16 : PySem.W.keepIn K (.ref f16) = true)
    (a17 : PySem.W.nsIn K mainGlobals "_law_is_int" = some (some (.ref f17)))
    (l17 : K.lookup f17 = some ⟨oc17, od17, .func (PySem.W.fnOf "_law_is_int" "_law_is_int" (defArgs s_l_is_int) (defBody s_l_is_int) (defScope s_l_is_int) .none kV17 dc17 pm17 an17 cd17 ct17), sl17⟩) (c17 : PySem.W.codeIn K cd17 "_law_is_int" = true) (k17 : PySem.W.keepIn K (.ref f17) = true)
    (a18 : PySem.W.nsIn K mainGlobals "_law_is_cell" = some (some (.ref f18)))
    (l18 : K.lookup f18 = some ⟨oc18, od18, .func (PySem.W.fnOf "_law_is_cell" "_law_is_cell" (defArgs s_l_is_cell) (defBody s_l_is_cell) (defScope s_l_is_cell) .none kV18 dc18 pm18 an18 cd18 ct18), sl18⟩) (c18 : PySem.W.codeIn K cd18 "_law_is_cell" = true) (k18 : PySem.W.keepIn K (.ref f18) = true)
    (a19 : PySem.W.nsIn K mainGlobals "_law_are_cells" = some (some (.ref f19)))
    (l19 : K.lookup f19 = some ⟨oc19, od19, .func (PySem.W.fnOf "_law_are_cells" "_law_are_cells" (defArgs s_l_are_cells) (defBody s_l_are_cells) (defScope s_l_are_cells) .none kV19 dc19 pm19 an19 cd19 ct19), sl19⟩) (c19 : PySem.W.codeIn K cd19 "_law_are_cells" = true) (k19 : PySem.W.keepIn K (.ref f19) = true)
    (a20 : PySem.W.nsIn K mainGlobals "_law_beside" = some (some (.ref f20)))
    (l20 : K.lookup f20 = some ⟨oc20, od20, .func (PySem.W.fnOf "_law_beside" "_law_beside" (defArgs s_l_beside) (defBody s_l_beside) (defScope s_l_beside) .none kV20 dc20 pm20 an20 cd20 ct20), sl20⟩) (c20 : PySem.W.codeIn K cd20 "_law_beside" = true) (k20 : PySem.W.keepIn K (.ref f20) = true)
    (a21 : PySem.W.nsIn K mainGlobals "_law_pieces" = some (some (.ref f21)))
    (l21 : K.lookup f21 = some ⟨oc21, od21, .func (PySem.W.fnOf "_law_pieces" "_law_pieces" (defArgs s_l_pieces) (defBody s_l_pieces) (defScope s_l_pieces) .none kV21 dc21 pm21 an21 cd21 ct21), sl21⟩) (c21 : PySem.W.codeIn K cd21 "_law_pieces" = true) (k21 : PySem.W.keepIn K (.ref f21) = true)
    (a22 : PySem.W.nsIn K mainGlobals "law" = some (some (.ref f22)))
    (l22 : K.lookup f22 = some ⟨oc22, od22, .func (PySem.W.fnOf "law" "law" (defArgs s_law) (defBody s_law) (defScope s_law) .none kV22 dc22 pm22 an22 cd22 ct22), sl22⟩) (c22 : PySem.W.codeIn K cd22 "law" = true) (k22 : PySem.W.keepIn K (.ref f22) = true)
    (z_abs : PySem.W.nsIn K mainGlobals "abs" = some none)
    (z_all : PySem.W.nsIn K mainGlobals "all" = some none)
    (z_bool : PySem.W.nsIn K mainGlobals "bool" = some none)
    (z_int : PySem.W.nsIn K mainGlobals "int" = some none)
    (z_isinstance : PySem.W.nsIn K mainGlobals "isinstance" = some none)
    (z_len : PySem.W.nsIn K mainGlobals "len" = some none)
    (z_list : PySem.W.nsIn K mainGlobals "list" = some none)
    (z_max : PySem.W.nsIn K mainGlobals "max" = some none)
    (z_min : PySem.W.nsIn K mainGlobals "min" = some none)
    (z_range : PySem.W.nsIn K mainGlobals "range" = some none)
    (z_set : PySem.W.nsIn K mainGlobals "set" = some none)
    (z_sorted : PySem.W.nsIn K mainGlobals "sorted" = some none)
    (z_str : PySem.W.nsIn K mainGlobals "str" = some none)
    (z_sum : PySem.W.nsIn K mainGlobals "sum" = some none)
    (z_tuple : PySem.W.nsIn K mainGlobals "tuple" = some none)
    (z_zip : PySem.W.nsIn K mainGlobals "zip" = some none)
    (g_EDGE : PySem.W.nsIn K mainGlobals "EDGE" = some (some (.int (9) kt1)))
    (g_MOST_CELLS : PySem.W.nsIn K mainGlobals "MOST_CELLS" = some (some (.int (200) kt2)))
    (g_SIDES : PySem.W.nsIn K mainGlobals "SIDES" = some (some (.ref ka3)))
    (kl3 : K.lookup ka3 = some ko3)
    (kc3 : ko3.cls = .type "tuple")
    (kd3 : ko3.data = .seq #[.ref ka4, .ref ka7, .ref ka10, .ref ka13] kn3)
    (kl4 : K.lookup ka4 = some ko4)
    (kc4 : ko4.cls = .type "tuple")
    (kd4 : ko4.data = .seq #[.int (0) kt5, .int (1) kt6] kn4)
    (kl7 : K.lookup ka7 = some ko7)
    (kc7 : ko7.cls = .type "tuple")
    (kd7 : ko7.data = .seq #[.int (0) kt8, .int (-1) kt9] kn7)
    (kl10 : K.lookup ka10 = some ko10)
    (kc10 : ko10.cls = .type "tuple")
    (kd10 : ko10.data = .seq #[.int (1) kt11, .int (0) kt12] kn10)
    (kl13 : K.lookup ka13 = some ko13)
    (kc13 : ko13.cls = .type "tuple")
    (kd13 : ko13.data = .seq #[.int (-1) kt14, .int (0) kt15] kn13)
    (g_TOP : PySem.W.nsIn K mainGlobals "TOP" = some (some (.int (7) kt16))) :
    ∃ fd : FuncData, (∀ (s : Shared) (v : Value), BindsTo s fd ⟨[v], []⟩ [("_law_script", v)]) ∧ ∀ base : Heap, K.In base → base.Ns mainGlobals mg → FnOk l.prog w K mg base (L2.CX l.prog w) 11 fa fd ["_law_script"] (spLaw K m) := by
  have e := hfa.symm.trans (PySem.W.mg_of X G a22)
  cases e
  have T : TT K mg w := ⟨trivial, PySem.W.mg_none_of X G z_abs, PySem.W.mg_none_of X G z_all, PySem.W.mg_none_of X G z_bool, PySem.W.mg_none_of X G z_int, PySem.W.mg_none_of X G z_isinstance, PySem.W.mg_none_of X G z_len, PySem.W.mg_none_of X G z_list, PySem.W.mg_none_of X G z_max, PySem.W.mg_none_of X G z_min, PySem.W.mg_none_of X G z_range, PySem.W.mg_none_of X G z_set, PySem.W.mg_none_of X G z_sorted, PySem.W.mg_none_of X G z_str, PySem.W.mg_none_of X G z_sum, PySem.W.mg_none_of X G z_tuple, PySem.W.mg_none_of X G z_zip, ⟨.int (9), _, PySem.W.mg_of X G g_EDGE, ⟨_, rfl⟩, fun ρ H => rfl⟩, ⟨.int (200), _, PySem.W.mg_of X G g_MOST_CELLS, ⟨_, rfl⟩, fun ρ H => rfl⟩, ⟨.ref ka3, _, PySem.W.mg_of X G g_SIDES, rfl, fun ρ H => ⟨ka3, [.ref ka4, .ref ka7, .ref ka10, .ref ka13], rfl, .inr ⟨ko3, _, _, kl3, kc3, kd3, by show 4 ≤ sizeLine; decide, (.cons rfl (.cons rfl (.cons rfl (.cons rfl .nil))))⟩, ⟨_, _, rfl, ⟨ka4, [.int (0), .int (1)], rfl, .inr ⟨ko4, _, _, kl4, kc4, kd4, by show 2 ≤ sizeLine; decide, (.cons ⟨_, rfl⟩ (.cons ⟨_, rfl⟩ .nil))⟩, ⟨_, _, rfl, rfl, ⟨_, _, rfl, rfl, rfl⟩⟩⟩, ⟨_, _, rfl, ⟨ka7, [.int (0), .int (-1)], rfl, .inr ⟨ko7, _, _, kl7, kc7, kd7, by show 2 ≤ sizeLine; decide, (.cons ⟨_, rfl⟩ (.cons ⟨_, rfl⟩ .nil))⟩, ⟨_, _, rfl, rfl, ⟨_, _, rfl, rfl, rfl⟩⟩⟩, ⟨_, _, rfl, ⟨ka10, [.int (1), .int (0)], rfl, .inr ⟨ko10, _, _, kl10, kc10, kd10, by show 2 ≤ sizeLine; decide, (.cons ⟨_, rfl⟩ (.cons ⟨_, rfl⟩ .nil))⟩, ⟨_, _, rfl, rfl, ⟨_, _, rfl, rfl, rfl⟩⟩⟩, ⟨_, _, rfl, ⟨ka13, [.int (-1), .int (0)], rfl, .inr ⟨ko13, _, _, kl13, kc13, kd13, by show 2 ≤ sizeLine; decide, (.cons ⟨_, rfl⟩ (.cons ⟨_, rfl⟩ .nil))⟩, ⟨_, _, rfl, rfl, ⟨_, _, rfl, rfl, rfl⟩⟩⟩, rfl⟩⟩⟩⟩⟩⟩, ⟨.int (7), _, PySem.W.mg_of X G g_TOP, ⟨_, rfl⟩, fun ρ H => rfl⟩⟩
  have F1 := fun_mk (st := s_rising) l1 c1 k1
  have b1 := F1.binds (ps := ["some"]) fun _ _ _ _ _ _ us hl => match us, hl with | [_], _ => rfl
  have F2 := fun_mk (st := s_is_int) l2 c2 k2
  have b2 := F2.binds (ps := ["thing"]) fun _ _ _ _ _ _ us hl => match us, hl with | [_], _ => rfl
  have F3 := fun_mk (st := s_is_whole) l3 c3 k3
  have b3 := F3.binds (ps := ["thing", "low", "high"]) fun _ _ _ _ _ _ us hl => match us, hl with | [_, _, _], _ => rfl
  have F4 := fun_mk (st := s_is_tuple) l4 c4 k4
  have b4 := F4.binds (ps := ["thing", "many"]) fun _ _ _ _ _ _ us hl => match us, hl with | [_, _], _ => rfl
  have F5 := fun_mk (st := s_is_cell) l5 c5 k5
  have b5 := F5.binds (ps := ["thing"]) fun _ _ _ _ _ _ us hl => match us, hl with | [_], _ => rfl
  have F6 := fun_mk (st := s_are_cells) l6 c6 k6
  have b6 := F6.binds (ps := ["thing"]) fun _ _ _ _ _ _ us hl => match us, hl with | [_], _ => rfl
  have F7 := fun_mk (st := s_is_body) l7 c7 k7
  have b7 := F7.binds (ps := ["thing"]) fun _ _ _ _ _ _ us hl => match us, hl with | [_], _ => rfl
  have F8 := fun_mk (st := s_beside) l8 c8 k8
  have b8 := F8.binds (ps := ["cell"]) fun _ _ _ _ _ _ us hl => match us, hl with | [_], _ => rfl
  have F9 := fun_mk (st := s_pieces) l9 c9 k9
  have b9 := F9.binds (ps := ["body"]) fun _ _ _ _ _ _ us hl => match us, hl with | [_], _ => rfl
  have F10 := fun_mk (st := s_bounds) l10 c10 k10
  have b10 := F10.binds (ps := ["body"]) fun _ _ _ _ _ _ us hl => match us, hl with | [_], _ => rfl
  have F11 := fun_mk (st := s_l_well) l11 c11 k11
  have b11 := F11.binds (ps := ["_law_script", "_law_k"]) fun _ _ _ _ _ _ us hl => match us, hl with | [_, _], _ => rfl
  have F12 := fun_mk (st := s_l_says) l12 c12 k12
  have b12 := F12.binds (ps := ["_law_found", "_law_due"]) fun _ _ _ _ _ _ us hl => match us, hl with | [_, _], _ => rfl
  have F13 := fun_mk (st := s_l_take) l13 c13 k13
  have b13 := F13.binds (ps := ["_law_well_here", "_law_many"]) fun _ _ _ _ _ _ us hl => match us, hl with | [_, _], _ => rfl
  have F14 := fun_mk (st := s_l_thing) l14 c14 k14
  have b14 := F14.binds (ps := ["_law_well_here", "_law_deep"]) fun _ _ _ _ _ _ us hl => match us, hl with | [_, _], _ => rfl
  have F15 := fun_mk (st := s_l_otherwise) l15 c15 k15
  have b15 := F15.binds (ps := ["_law_well_here", "_law_thing_here", "_law_deep"]) fun _ _ _ _ _ _ us hl => match us, hl with | [_, _, _], _ => rfl
  have F16 := fun_mk (st := s_l_body) l16 c16 k16
  have b16 := F16.binds (ps := ["_law_well_here", "_law_high"]) fun _ _ _ _ _ _ us hl => match us, hl with | [_, _], _ => rfl
  have F17 := fun_mk (st := s_l_is_int) l17 c17 k17
  have b17 := F17.binds (ps := ["_law_thing_here", "_law_low", "_law_high"]) fun _ _ _ _ _ _ us hl => match us, hl with | [_, _, _], _ => rfl
  have F18 := fun_mk (st := s_l_is_cell) l18 c18 k18
  have b18 := F18.binds (ps := ["_law_thing_here"]) fun _ _ _ _ _ _ us hl => match us, hl with | [_], _ => rfl
  have F19 := fun_mk (st := s_l_are_cells) l19 c19 k19
  have b19 := F19.binds (ps := ["_law_thing_here"]) fun _ _ _ _ _ _ us hl => match us, hl with | [_], _ => rfl
  have F20 := fun_mk (st := s_l_beside) l20 c20 k20
  have b20 := F20.binds (ps := ["_law_one", "_law_other"]) fun _ _ _ _ _ _ us hl => match us, hl with | [_, _], _ => rfl
  have F21 := fun_mk (st := s_l_pieces) l21 c21 k21
  have b21 := F21.binds (ps := ["_law_body_here"]) fun _ _ _ _ _ _ us hl => match us, hl with | [_], _ => rfl
  have F22 := fun_mk (st := s_law) l22 c22 k22
  refine ⟨PySem.W.fnOf "law" "law" (defArgs s_law) (defBody s_law) (defScope s_law) .none kV22 dc22 pm22 an22 cd22 ct22, fun s v => .of_eq rfl, fun base _ _ => ?_⟩
  have G1 := d_rising (P := l.prog) (w := w) (mg := mg) (base := base) F1 T 
  have N_rising_1 : DfN l.prog w K mg base "rising" 1 ["some"] f_rising 1 [] (fun a _ => a) := ⟨⟨f1, PySem.W.mg_of X G a1, k1, (cal_all (n := 1) G1 b1 rfl)⟩⟩
  have G2 := d_is_int (P := l.prog) (w := w) (mg := mg) (base := base) F2 T 
  have N_is_int_1 : DfN l.prog w K mg base "is_int" 1 ["thing"] f_is_int 1 [] (fun a _ => a) := ⟨⟨f2, PySem.W.mg_of X G a2, k2, (cal_all (n := 1) G2 b2 rfl)⟩⟩
  have G3 := d_is_whole (P := l.prog) (w := w) (mg := mg) (base := base) F3 T N_is_int_1
  have N_is_whole_3 : DfN l.prog w K mg base "is_whole" 2 ["thing", "low", "high"] f_is_whole 3 [] (fun a _ => a) := ⟨⟨f3, PySem.W.mg_of X G a3, k3, (cal_all (n := 3) G3 b3 rfl)⟩⟩
  have G4 := d_is_tuple (P := l.prog) (w := w) (mg := mg) (base := base) F4 T 
  have N_is_tuple_2 : DfN l.prog w K mg base "is_tuple" 1 ["thing", "many"] f_is_tuple 2 [] (fun a _ => a) := ⟨⟨f4, PySem.W.mg_of X G a4, k4, (cal_all (n := 2) G4 b4 rfl)⟩⟩
  have G5 := d_is_cell (P := l.prog) (w := w) (mg := mg) (base := base) F5 T N_is_whole_3 N_is_tuple_2
  have N_is_cell_1 : DfN l.prog w K mg base "is_cell" 3 ["thing"] f_is_cell 1 [] (fun a _ => a) := ⟨⟨f5, PySem.W.mg_of X G a5, k5, (cal_all (n := 1) G5 b5 rfl)⟩⟩
  have G6 := d_are_cells (P := l.prog) (w := w) (mg := mg) (base := base) F6 T N_rising_1 N_is_cell_1
  have N_are_cells_1 : DfN l.prog w K mg base "are_cells" 4 ["thing"] f_are_cells 1 [] (fun a _ => a) := ⟨⟨f6, PySem.W.mg_of X G a6, k6, (cal_all (n := 1) G6 b6 rfl)⟩⟩
  have G7 := d_is_body (P := l.prog) (w := w) (mg := mg) (base := base) F7 T N_are_cells_1
  have N_is_body_1 : DfN l.prog w K mg base "is_body" 5 ["thing"] f_is_body 1 [] (fun a _ => a) := ⟨⟨f7, PySem.W.mg_of X G a7, k7, (cal_all (n := 1) G7 b7 rfl)⟩⟩
  have G8 := d_beside (P := l.prog) (w := w) (mg := mg) (base := base) F8 T 
  have N_beside_1 : DfN l.prog w K mg base "beside" 1 ["cell"] f_beside 1 [] (fun a _ => a) := ⟨⟨f8, PySem.W.mg_of X G a8, k8, (cal_all (n := 1) G8 b8 rfl)⟩⟩
  have G9 := d_pieces (P := l.prog) (w := w) (mg := mg) (base := base) F9 T N_beside_1
  have N_pieces_1 : DfN l.prog w K mg base "pieces" 2 ["body"] f_pieces 1 [] (fun a _ => a) := ⟨⟨f9, PySem.W.mg_of X G a9, k9, (cal_all (n := 1) G9 b9 rfl)⟩⟩
  have G10 := d_bounds (P := l.prog) (w := w) (mg := mg) (base := base) F10 T 
  have N_bounds_1 : DfN l.prog w K mg base "bounds" 1 ["body"] f_bounds 1 [] (fun a _ => a) := ⟨⟨f10, PySem.W.mg_of X G a10, k10, (cal_all (n := 1) G10 b10 rfl)⟩⟩
  have G11 := d_l_well (P := l.prog) (w := w) (mg := mg) (base := base) F11 T 
  have N_l_well_2 : DfN l.prog w K mg base "_law_well" 1 ["_law_script", "_law_k"] f_l_well 2 [] (fun a _ => a) := ⟨⟨f11, PySem.W.mg_of X G a11, k11, (cal_all (n := 2) G11 b11 rfl)⟩⟩
  have G12 := d_l_says (P := l.prog) (w := w) (mg := mg) (base := base) F12 T 
  have N_l_says_2 : DfN l.prog w K mg base "_law_says" 1 ["_law_found", "_law_due"] f_l_says 2 [] (fun a _ => a) := ⟨⟨f12, PySem.W.mg_of X G a12, k12, (cal_all (n := 2) G12 b12 rfl)⟩⟩
  have G13 := d_l_take (P := l.prog) (w := w) (mg := mg) (base := base) F13 T 
  have N_l_take_2 : DfN l.prog w K mg base "_law_take" 1 ["_law_well_here", "_law_many"] f_l_take 2 [] (fun a _ => a) := ⟨⟨f13, PySem.W.mg_of X G a13, k13, (cal_all (n := 2) G13 b13 rfl)⟩⟩
  have N14_0 : DfN l.prog w K mg base "_law_thing" 1 ["_law_well_here", "_law_deep"] (fl_l_thing 0) 2 [] (fun a _ => a) := ⟨⟨f14, PySem.W.mg_of X G a14, k14, (cal_all (n := 2) (fnd_bad (P := l.prog) (w := w) (K := K) (mg := mg) (base := base) (k := 1) (f := f14) (fd := _) (ps := ["_law_well_here", "_law_deep"])) b14 rfl)⟩⟩
  have G14_1 : FnD l.prog w K mg base 2 f14 _ ["_law_well_here", "_law_deep"] (fl_l_thing 1) := d_l_thing (P := l.prog) (w := w) (mg := mg) (base := base) (by decide) F14 T N_l_take_2 N14_0
  have N14_1 : DfN l.prog w K mg base "_law_thing" 2 ["_law_well_here", "_law_deep"] (fl_l_thing 1) 2 [] (fun a _ => a) := ⟨⟨f14, PySem.W.mg_of X G a14, k14, (cal_all (n := 2) (G14_1) b14 rfl)⟩⟩
  have G14_2 : FnD l.prog w K mg base 3 f14 _ ["_law_well_here", "_law_deep"] (fl_l_thing 2) := d_l_thing (P := l.prog) (w := w) (mg := mg) (base := base) (by decide) F14 T N_l_take_2 N14_1
  have N14_2 : DfN l.prog w K mg base "_law_thing" 3 ["_law_well_here", "_law_deep"] (fl_l_thing 2) 2 [] (fun a _ => a) := ⟨⟨f14, PySem.W.mg_of X G a14, k14, (cal_all (n := 2) (G14_2) b14 rfl)⟩⟩
  have G14_3 : FnD l.prog w K mg base 4 f14 _ ["_law_well_here", "_law_deep"] (fl_l_thing 3) := d_l_thing (P := l.prog) (w := w) (mg := mg) (base := base) (by decide) F14 T N_l_take_2 N14_2
  have N14_3 : DfN l.prog w K mg base "_law_thing" 4 ["_law_well_here", "_law_deep"] (fl_l_thing 3) 2 [] (fun a _ => a) := ⟨⟨f14, PySem.W.mg_of X G a14, k14, (cal_all (n := 2) (G14_3) b14 rfl)⟩⟩
  have G14_4 : FnD l.prog w K mg base 5 f14 _ ["_law_well_here", "_law_deep"] (fl_l_thing 4) := d_l_thing (P := l.prog) (w := w) (mg := mg) (base := base) (by decide) F14 T N_l_take_2 N14_3
  have N14_4 : DfN l.prog w K mg base "_law_thing" 5 ["_law_well_here", "_law_deep"] (fl_l_thing 4) 2 [] (fun a _ => a) := ⟨⟨f14, PySem.W.mg_of X G a14, k14, (cal_all (n := 2) (G14_4) b14 rfl)⟩⟩
  have G14_5 : FnD l.prog w K mg base 6 f14 _ ["_law_well_here", "_law_deep"] (fl_l_thing 5) := d_l_thing (P := l.prog) (w := w) (mg := mg) (base := base) (by decide) F14 T N_l_take_2 N14_4
  have G14 : FnD l.prog w K mg base 6 f14 _ ["_law_well_here", "_law_deep"] f_l_thing := G14_5
  have N_l_thing_2 : DfN l.prog w K mg base "_law_thing" 6 ["_law_well_here", "_law_deep"] f_l_thing 2 [] (fun a _ => a) := ⟨⟨f14, PySem.W.mg_of X G a14, k14, (cal_all (n := 2) G14 b14 rfl)⟩⟩
  have N15_0 : DfN l.prog w K mg base "_law_otherwise" 6 ["_law_well_here", "_law_thing_here", "_law_deep"] (fl_l_otherwise 0) 3 [] (fun a _ => a) := ⟨⟨f15, PySem.W.mg_of X G a15, k15, (cal_all (n := 3) (fnd_bad (P := l.prog) (w := w) (K := K) (mg := mg) (base := base) (k := 6) (f := f15) (fd := _) (ps := ["_law_well_here", "_law_thing_here", "_law_deep"])) b15 rfl)⟩⟩
  have G15_1 : FnD l.prog w K mg base 7 f15 _ ["_law_well_here", "_law_thing_here", "_law_deep"] (fl_l_otherwise 1) := d_l_otherwise (P := l.prog) (w := w) (mg := mg) (base := base) (by decide) F15 T N_l_take_2 N_l_thing_2 N15_0
  have N15_1 : DfN l.prog w K mg base "_law_otherwise" 7 ["_law_well_here", "_law_thing_here", "_law_deep"] (fl_l_otherwise 1) 3 [] (fun a _ => a) := ⟨⟨f15, PySem.W.mg_of X G a15, k15, (cal_all (n := 3) (G15_1) b15 rfl)⟩⟩
  have G15_2 : FnD l.prog w K mg base 8 f15 _ ["_law_well_here", "_law_thing_here", "_law_deep"] (fl_l_otherwise 2) := d_l_otherwise (P := l.prog) (w := w) (mg := mg) (base := base) (by decide) F15 T N_l_take_2 N_l_thing_2 N15_1
  have N15_2 : DfN l.prog w K mg base "_law_otherwise" 8 ["_law_well_here", "_law_thing_here", "_law_deep"] (fl_l_otherwise 2) 3 [] (fun a _ => a) := ⟨⟨f15, PySem.W.mg_of X G a15, k15, (cal_all (n := 3) (G15_2) b15 rfl)⟩⟩
  have G15_3 : FnD l.prog w K mg base 9 f15 _ ["_law_well_here", "_law_thing_here", "_law_deep"] (fl_l_otherwise 3) := d_l_otherwise (P := l.prog) (w := w) (mg := mg) (base := base) (by decide) F15 T N_l_take_2 N_l_thing_2 N15_2
  have N15_3 : DfN l.prog w K mg base "_law_otherwise" 9 ["_law_well_here", "_law_thing_here", "_law_deep"] (fl_l_otherwise 3) 3 [] (fun a _ => a) := ⟨⟨f15, PySem.W.mg_of X G a15, k15, (cal_all (n := 3) (G15_3) b15 rfl)⟩⟩
  have G15_4 : FnD l.prog w K mg base 10 f15 _ ["_law_well_here", "_law_thing_here", "_law_deep"] (fl_l_otherwise 4) := d_l_otherwise (P := l.prog) (w := w) (mg := mg) (base := base) (by decide) F15 T N_l_take_2 N_l_thing_2 N15_3
  have G15 : FnD l.prog w K mg base 10 f15 _ ["_law_well_here", "_law_thing_here", "_law_deep"] f_l_otherwise := G15_4
  have N_l_otherwise_3 : DfN l.prog w K mg base "_law_otherwise" 10 ["_law_well_here", "_law_thing_here", "_law_deep"] f_l_otherwise 3 [] (fun a _ => a) := ⟨⟨f15, PySem.W.mg_of X G a15, k15, (cal_all (n := 3) G15 b15 rfl)⟩⟩
  have G16 := d_l_body (P := l.prog) (w := w) (mg := mg) (base := base) F16 T N_l_take_2
  have N_l_body_2 : DfN l.prog w K mg base "_law_body" 2 ["_law_well_here", "_law_high"] f_l_body 2 [] (fun a _ => a) := ⟨⟨f16, PySem.W.mg_of X G a16, k16, (cal_all (n := 2) G16 b16 rfl)⟩⟩
  have G17 := d_l_is_int (P := l.prog) (w := w) (mg := mg) (base := base) F17 T 
  have N_l_is_int_3 : DfN l.prog w K mg base "_law_is_int" 1 ["_law_thing_here", "_law_low", "_law_high"] f_l_is_int 3 [] (fun a _ => a) := ⟨⟨f17, PySem.W.mg_of X G a17, k17, (cal_all (n := 3) G17 b17 rfl)⟩⟩
  have G18 := d_l_is_cell (P := l.prog) (w := w) (mg := mg) (base := base) F18 T N_l_is_int_3
  have N_l_is_cell_1 : DfN l.prog w K mg base "_law_is_cell" 2 ["_law_thing_here"] f_l_is_cell 1 [] (fun a _ => a) := ⟨⟨f18, PySem.W.mg_of X G a18, k18, (cal_all (n := 1) G18 b18 rfl)⟩⟩
  have G19 := d_l_are_cells (P := l.prog) (w := w) (mg := mg) (base := base) F19 T N_l_is_cell_1
  have N_l_are_cells_1 : DfN l.prog w K mg base "_law_are_cells" 3 ["_law_thing_here"] f_l_are_cells 1 [] (fun a _ => a) := ⟨⟨f19, PySem.W.mg_of X G a19, k19, (cal_all (n := 1) G19 b19 rfl)⟩⟩
  have G20 := d_l_beside (P := l.prog) (w := w) (mg := mg) (base := base) F20 T 
  have N_l_beside_2 : DfN l.prog w K mg base "_law_beside" 1 ["_law_one", "_law_other"] f_l_beside 2 [] (fun a _ => a) := ⟨⟨f20, PySem.W.mg_of X G a20, k20, (cal_all (n := 2) G20 b20 rfl)⟩⟩
  have G21 := d_l_pieces (P := l.prog) (w := w) (mg := mg) (base := base) F21 T N_l_beside_2
  have N_l_pieces_1 : DfN l.prog w K mg base "_law_pieces" 2 ["_law_body_here"] f_l_pieces 1 [] (fun a _ => a) := ⟨⟨f21, PySem.W.mg_of X G a21, k21, (cal_all (n := 1) G21 b21 rfl)⟩⟩
  exact law_imp main (d_law (P := l.prog) (w := w) (mg := mg) (base := base) F22 T N_is_body_1 N_pieces_1 N_bounds_1 N_l_well_2 N_l_says_2 N_l_thing_2 N_l_otherwise_3 N_l_body_2 N_l_are_cells_1 N_l_pieces_1)
theorem walk {l : PySem.W.OpenLaw} {m : Nat} {q : Program} {loose : List Str} {XP : (Str → Option Value) → Heap → Prop} {YP : World → Heap → Prop} {d : DefRec} {K : Params → PySem.W.Frag} (hn : l.most = some m) (hm : m ≤ 1000) (hdf : d.params.defaults = [])
    (hY : ∀ (w : World) (h : Heap), YP w h → (K w.params).In h)
    (F : ∀ (w : World) (mg : Str → Option Value) (fa : Addr) (h : Heap), (K w.params).In h → h.Ns mainGlobals mg → mg d.name = some (.ref fa) →
      ∃ fd : FuncData, (∀ (s : Shared) (u : Value), BindsTo s fd ⟨[u], []⟩ [("_law_script", u)]) ∧ ∀ base : Heap, (K w.params).In base → base.Ns mainGlobals mg → FnOk l.prog w (K w.params) mg base (L2.CX l.prog w) 11 fa fd ["_law_script"] (spLaw (K w.params) m)) :
    PySem.W.WalkO q loose XP YP l.row.toRowW d [] (fun f vs => PySem.call f vs) :=
  L2.walk_of (n := m) (k := 11) (x := "_law_script") (CX := fun w => L2.CX l.prog w) (sp := fun w => spLaw (K w.params) m) hn (Nat.le_trans hm (by decide)) hdf ⟨rfl, by decide, by decide⟩ hY F (fun _ _ a ns hl _ hS => ⟨a, ns, rfl, hS, hl, fun _ => rfl⟩) (cx_end l.prog)
end K01

set_option Elab.async false
set_option linter.all false
set_option maxRecDepth 100000
set_option maxHeartbeats 4000000
namespace Lb
open PySem PySem.Spec PyProof.Rows L2
/-! ### steps -/
section
variable {e e1 : En} {h h1 h2 : Hs} {S U : Sv} {A : Ev} {T : Ts} {d : D} {i : Nat}
theorem seq_nx (q : S e h = .nx e1 h1) : sSeq S U e h = U e1 h1 := by unfold sSeq; rw [q]
theorem seq_rt (q : S e h = .rt d h1) : sSeq S U e h = .rt d h1 := by unfold sSeq; rw [q]
theorem set_nx (q : A e h = .ok d h1) : sSet i A e h = .nx (e.set i (some d)) h1 := by unfold sSet; rw [q]; rfl
theorem drop_nx (q : A e h = .ok d h1) : sDrop A e h = .nx e h1 := by unfold sDrop; rw [q]; rfl
theorem ret_rt (q : A e h = .ok d h1) : sRet A e h = .rt d h1 := by unfold sRet; rw [q]; rfl
theorem if_t (q : T e h = .ok true h1) : sIf T S U e h = S e h1 := by unfold sIf; rw [q]; rfl
theorem if_f (q : T e h = .ok false h1) : sIf T S U e h = U e h1 := by unfold sIf; rw [q]; rfl
theorem fn_rt {n : Nat} {ds : List D} (q : S (ds.map some ++ List.replicate (n - ds.length) none) h = .rt d h1) : fnB n S ds h = .ok d h1 := by unfold fnB; rw [q]
theorem fn_nx {n : Nat} {ds : List D} (q : S (ds.map some ++ List.replicate (n - ds.length) none) h = .nx e1 h1) : fnB n S ds h = .ok .non h1 := by unfold fnB; rw [q]
theorem for_of {I : Iv} {G : Tg} {s : Src} (q : I e h = .ok s h1) : sFor I G S e h = forS G S s e h1 := by unfold sFor; rw [q]; rfl
theorem tE_bl {b : Bool} (q : A e h = .ok (.bl b) h1) : tE A e h = .ok b h1 := by unfold tE; rw [q]; rfl
theorem e2_ok {F : D → D → Hs → R D} {B : Ev} {x y z : D} {h3 : Hs} (q1 : A e h = .ok x h1) (q2 : B e h1 = .ok y h2) (q3 : F x y h2 = .ok z h3) : e2 F A B e h = .ok z h3 := by unfold e2; rw [q1]; show ((B e h1).bind fun y h2 => F x y h2) = _; rw [q2]; exact q3
theorem var_ok (q : e[i]? = some (some d)) : eVar i e h = .ok d h := by unfold eVar; rw [q]
theorem aCons_ok {AS : Es} {xs : List D} (q1 : A e h = .ok d h1) (q2 : AS e h1 = .ok xs h2) : aCons A AS e h = .ok (d :: xs) h2 := by unfold aCons; rw [q1]; show ((AS e h1).bind _) = _; rw [q2]; rfl
theorem eCall_ok {AS : Es} {F : List D → Hs → R D} {xs : List D} (q1 : AS e h = .ok xs h1) (q2 : F xs h1 = .ok d h2) : eCall F AS e h = .ok d h2 := by unfold eCall; rw [q1]; exact q2
theorem tup_ok {AS : Es} {xs : List D} (q1 : AS e h = .ok xs h1) (hz : xs.length ≤ sizeLine) : eTup AS e h = .ok (.tup xs) h1 := by unfold eTup; rw [q1]; exact if_pos hz
theorem froz_of {L : Ln} {xs : List D} (q : L e h = .ok xs h1) : eFroz L e h = .ok (.lst xs) h1 := by unfold eFroz; rw [q]; rfl
theorem mut_of {L : Ln} {xs : List D} (q : L e h = .ok xs h1) : eMut L e h = .ok (.ref h1.length) (h1 ++ [.lst xs]) := by unfold eMut; rw [q]; rfl
theorem disp_ok {AS : Es} {xs : List D} (q : AS e h = .ok xs h1) (hz : xs.length ≤ sizeLine) : lDisp AS e h = .ok xs h1 := by unfold lDisp; rw [q]; exact if_pos hz
end
/-- _law_take, as every law has it -/
def tk : Fn := fnB 3 ((sSeq (sIf (tE (e2 gtD (e2 ixD (eVar 0) (eC (.int 0))) (eC (.int 0)))) (sSeq (sSet 2 (e2 modD (e2 ixD (eVar 0) (eC (.int 0))) (eVar 1)))
    (sSeq (sPut (e2 divD (e2 ixD (eVar 0) (eC (.int 0))) (eVar 1)) (eVar 0) (eC (.int 0)))
    (sRet (eVar 2)))) sPass)
    (sSeq (sPut (e2 addD (e2 modD (e2 mulD (e2 ixD (eVar 0) (eC (.int 1))) (eC (.int 48271))) (e2 ixD (eVar 0) (eC (.int 2)))) (eC (.int 1))) (eVar 0) (eC (.int 1)))
    (sRet (e2 modD (e2 divD (e2 modD (e2 mulD (e2 ixD (eVar 0) (eC (.int 1))) (e2 ixD (eVar 0) (eC (.int 1)))) (eC (.int 2147483423))) (eC (.int 7))) (eVar 1))))))
def Wl (a b c : Int) : Ob := .lst [.int a, .int b, .int c]
theorem atI0 {α : Type} (x y z : α) : L2.atI [x, y, z] 0 = some x := by rfl
theorem atI1 {α : Type} (x y z : α) : L2.atI [x, y, z] 1 = some y := by rfl
theorem atI2 {α : Type} (x y z : α) : L2.atI [x, y, z] 2 = some z := by rfl
theorem ix0 {α : Type} (x y z : α) : ixN [x, y, z].length 0 = some 0 := by rfl
section
variable {h : Hs} {n : Nat} {a b c m : Int}
theorem ixWl0 (hn : h[n]? = some (Wl a b c)) : ixD (.ref n) (.int 0) h = .ok (.int a) h := by
  unfold Wl at hn
  simp only [ixD, seqOf, hn, atI0]
theorem ixWl1 (hn : h[n]? = some (Wl a b c)) : ixD (.ref n) (.int 1) h = .ok (.int b) h := by
  unfold Wl at hn
  simp only [ixD, seqOf, hn, atI1]
theorem ixWl2 (hn : h[n]? = some (Wl a b c)) : ixD (.ref n) (.int 2) h = .ok (.int c) h := by
  unfold Wl at hn
  simp only [ixD, seqOf, hn, atI2]
theorem setWl0 (hn : h[n]? = some (Wl a b c)) : setD (.ref n) (.int 0) (.int m) h = .ok () (h.set n (Wl m b c)) := by
  unfold Wl at hn
  simp only [setD, hn]
  rfl
theorem setWl1 (hn : h[n]? = some (Wl a b c)) : setD (.ref n) (.int 1) (.int m) h = .ok () (h.set n (Wl a m c)) := by
  unfold Wl at hn
  simp only [setD, hn]
  rfl
theorem mulD_ok {i j : Int} (hi : -(2 ^ 64) < i ∧ i < 2 ^ 64) : mulD (.int i) (.int j) h = .ok (.int (i * j)) h := by
  have : small64b i = true := by unfold small64b; simp only [decide_eq_true hi.1, decide_eq_true hi.2, Bool.and_self]
  simp only [mulD, this, Bool.true_or, if_true]
theorem modD_ok {i j : Int} (hj : 0 < j) : modD (.int i) (.int j) h = .ok (.int (i % j)) h := if_pos hj
theorem divD_ok {i j : Int} (hj : 0 < j ∧ j < 1073741824) : divD (.int i) (.int j) h = .ok (.int (i / j)) h := if_pos hj
theorem addD_ii {i j : Int} : addD (.int i) (.int j) h = .ok (.int (i + j)) h := rfl
theorem take_spec (hn : h[n]? = some (Wl a b c)) (hb : 0 ≤ b ∧ b < 2 ^ 60) (hc : 0 < c ∧ c < 2 ^ 50) (hm : 0 < m ∧ m < 1073741824) :
    ∃ v a' b', 0 ≤ v ∧ v < m ∧ (0 ≤ b' ∧ b' < 2 ^ 60) ∧ tk [.ref n, .int m] h = .ok (.int v) (h.set n (Wl a' b' c)) := by
  have hl : n < h.length := (List.getElem?_eq_some_iff.mp hn).1
  by_cases ha : 0 < a
  · refine ⟨a % m, a / m, b, Int.emod_nonneg _ (by omega), Int.emod_lt_of_pos _ hm.1, hb, ?_⟩
    simp only [tk, fnB, sSeq, sIf, tE, e2, eVar, eC, R.bind, R.st, List.map_cons, List.map_nil, List.length_cons, List.length_nil, List.cons_append, List.nil_append, List.replicate, List.getElem?_cons_zero, List.getElem?_cons_succ, ixWl0 hn, gtD, tru, truB, ha, decide_true, if_true,
      sSet, sPut, sRet, modD_ok hm.1, divD_ok hm, List.set, List.set_cons_succ, List.set_cons_zero, setWl0 hn]
  · have hw1 : (b * 48271) % c + 1 < 2 ^ 60 := by have := Int.emod_lt_of_pos (b * 48271) hc.1; omega
    have hw0 : 0 ≤ (b * 48271) % c + 1 := by have := Int.emod_nonneg (b * 48271) (show c ≠ 0 by omega); omega
    have hn' : (h.set n (Wl a ((b * 48271) % c + 1) c))[n]? = some (Wl a ((b * 48271) % c + 1) c) := List.getElem?_set_self hl
    refine ⟨((b * 48271) % c + 1) * ((b * 48271) % c + 1) % 2147483423 / 7 % m, a, (b * 48271) % c + 1, Int.emod_nonneg _ (by omega), Int.emod_lt_of_pos _ hm.1, ⟨hw0, hw1⟩, ?_⟩
    simp only [tk, fnB, sSeq, sIf, tE, e2, eVar, eC, R.bind, R.st, List.map_cons, List.map_nil, List.length_cons, List.length_nil, List.cons_append, List.nil_append, List.replicate, List.getElem?_cons_zero, List.getElem?_cons_succ, ixWl0 hn, ixWl1 hn, ixWl2 hn, gtD, tru, truB, ha, decide_false, if_false, Bool.false_eq_true,
      sPass, sSet, sPut, sRet, mulD_ok (show -(2 ^ 64) < b ∧ b < 2 ^ 64 by omega), modD_ok hc.1, addD_ii, List.set, List.set_cons_succ, List.set_cons_zero, setWl1 hn, ixWl1 hn', mulD_ok (show -(2 ^ 64) < (b * 48271) % c + 1 ∧ (b * 48271) % c + 1 < 2 ^ 64 by omega), modD_ok (show (0 : Int) < 2147483423 by decide), divD_ok (show (0 : Int) < 7 ∧ (7 : Int) < 1073741824 by decide), modD_ok hm.1]
/-- a store all of whose things hold nothing that changes beyond it -/
theorem trunc_low {h1 h2 : Hs} (hl : h2.length = h1.length) (hb : h2.all (Ob.low h1.length) = true) : trunc h1 h2 = some h2 := by
  have e : h2.take h1.length = h2 := List.take_of_length_le (Nat.le_of_eq hl)
  unfold trunc
  rw [e]
  by_cases hs : hSame h2 h1 = true
  · rw [if_pos hs, hSame_eq _ _ hs]
  · rw [if_neg hs, if_pos hb]
theorem all_set {α : Type} {p : α → Bool} : ∀ {l : List α} {i : Nat} {x : α}, l.all p = true → p x = true → (l.set i x).all p = true
  | [], _, _, _, _ => rfl
  | y :: l, 0, x, h, hx => by simp only [List.set_cons_zero, List.all_cons, Bool.and_eq_true] at h ⊢; exact ⟨hx, h.2⟩
  | y :: l, i + 1, x, h, hx => by simp only [List.set_cons_succ, List.all_cons, Bool.and_eq_true] at h ⊢; exact ⟨h.1, all_set h.2 hx⟩
theorem Wl_low (k : Nat) : (Wl a b c).low k = true := rfl
theorem take_run (hn : h[n]? = some (Wl a b c)) (hb : 0 ≤ b ∧ b < 2 ^ 60) (hc : 0 < c ∧ c < 2 ^ 50) (hm : 0 < m ∧ m < 1073741824) (hlow : h.all (Ob.low h.length) = true) :
    ∃ v a' b', 0 ≤ v ∧ v < m ∧ (0 ≤ b' ∧ b' < 2 ^ 60) ∧ args 2 [] (run tk) [.ref n, .int m] h = .ok (.int v) (h.set n (Wl a' b' c)) := by
  obtain ⟨v, a', b', h1, h2, h3, e⟩ := take_spec hn hb hc hm
  refine ⟨v, a', b', h1, h2, h3, ?_⟩
  show run tk ([.ref n, .int m] ++ []) h = _
  rw [List.append_nil]
  unfold run ends
  rw [e]
  have ef : froz (h.set n (Wl a' b' c)) h.length (.int v) = some (.int v) := rfl
  dsimp only
  rw [ef, trunc_low (by simp) (all_set hlow (Wl_low _))]
end
end Lb

set_option Elab.async false
set_option linter.all false
set_option maxRecDepth 100000
set_option maxHeartbeats 4000000
namespace Lb
open PySem PySem.Spec PyProof.Rows L2
/-- _law_well -/
def wl : Fn := fnB 5 ((sSeq (sSet 2 (eC (.int 0)))
    (sSeq (sIf (tE (e2 ltD (eVar 1) (eCall lenD (aCons (eVar 0) aNil)))) (sSet 2 (e2 ixD (eVar 0) (eVar 1))) sPass)
    (sSeq (sSet 3 (eFroz (lDisp (aCons (eC (.int 2147483647)) (aCons (eC (.int 2147483629)) (aCons (eC (.int 2147483587)) (aCons (eC (.int 2147483579)) (aCons (eC (.int 2147483563)) (aCons (eC (.int 2147483549)) (aCons (eC (.int 2147483543)) (aCons (eC (.int 2147483497)) aNil)))))))))))
    (sSeq (sSet 4 (e2 modD (e2 mulD (e2 addD (e2 modD (eVar 2) (eC (.int 2147483489))) (eC (.int 1))) (e2 addD (eC (.int 48271)) (e2 mulD (eC (.int 2)) (eVar 1)))) (eC (.int 2147483489))))
    (sSeq (sSet 4 (e2 addD (e2 addD (e2 modD (e2 mulD (eVar 4) (eVar 4)) (eC (.int 2147483477))) (eVar 1)) (eC (.int 1))))
    (sSeq (sIf (tE (e2 geD (eVar 2) (e2 powD (eC (.int 10)) (eC (.int 18))))) (sRet (eMut (lDisp (aCons (eVar 2) (aCons (eVar 4) (aCons (e2 ixD (eVar 3) (e2 modD (eVar 1) (eC (.int 8)))) aNil)))))) sPass)
    (sRet (eMut (lDisp (aCons (eC (.int 0)) (aCons (eVar 4) (aCons (e2 ixD (eVar 3) (e2 modD (eVar 1) (eC (.int 8)))) aNil)))))))))))))
def primes : List D := [.int 2147483647, .int 2147483629, .int 2147483587, .int 2147483579, .int 2147483563, .int 2147483549, .int 2147483543, .int 2147483497]
section
variable {h : Hs} {ns : List Int} {k : Int}
theorem prime_at (k : Int) (h : Hs) : ∃ p, (0 < p ∧ p < 2 ^ 50) ∧ ixD (.lst primes) (.int (k % 8)) h = .ok (.int p) h := by
  have : k % 8 = 0 ∨ k % 8 = 1 ∨ k % 8 = 2 ∨ k % 8 = 3 ∨ k % 8 = 4 ∨ k % 8 = 5 ∨ k % 8 = 6 ∨ k % 8 = 7 := by omega
  rcases this with e | e | e | e | e | e | e | e <;> rw [e] <;> exact ⟨_, by decide, rfl⟩
theorem atI_nat {α : Type} {xs : List α} {k : Int} {x : α} (h0 : 0 ≤ k) (e : xs[k.toNat]? = some x) : L2.atI xs k = some x := by
  have hl := (List.getElem?_eq_some_iff.mp e).1
  have : ixN xs.length k = some k.toNat := by
    unfold ixN
    rw [if_pos h0, if_pos (by omega)]
  unfold L2.atI
  rw [this]
  exact e
theorem pow18 (h : Hs) : powD (.int 10) (.int 18) h = .ok (.int 1000000000000000000) h := rfl
theorem ltD_ii {i j : Int} : ltD (.int i) (.int j) h = .ok (.bl (decide (i < j))) h := rfl
theorem geD_ii {i j : Int} : geD (.int i) (.int j) h = .ok (.bl (decide (j ≤ i))) h := rfl
theorem well_spec (hk : 0 ≤ k ∧ k < 1000) : ∃ a b c, (0 ≤ b ∧ b < 2 ^ 60) ∧ (0 < c ∧ c < 2 ^ 50) ∧ wl [.scr ns, .int k] h = .ok (.ref h.length) (h ++ [Wl a b c]) := by
  obtain ⟨p, hp, ep⟩ := prime_at k h
  -- the cell
  have cell : ∃ cell : Int, (tE (e2 ltD (eVar 1) (eCall lenD (aCons (eVar 0) aNil))) [some (.scr ns), some (.int k), some (.int 0), none, none] h).st [some (.scr ns), some (.int k), some (.int 0), none, none] (fun b h1 => if b = true then sSet 2 (e2 ixD (eVar 0) (eVar 1)) [some (.scr ns), some (.int k), some (.int 0), none, none] h1 else sPass [some (.scr ns), some (.int k), some (.int 0), none, none] h1)
      = .nx [some (.scr ns), some (.int k), some (.int cell), none, none] h := by
    by_cases hlt : k < (ns.length : Int)
    · have hk2 : k.toNat < ns.length := by omega
      have e1 : (ns.map D.int)[k.toNat]? = some (.int ns[k.toNat]) := by rw [List.getElem?_map]; simp [hk2]
      have e2' : ixD (.scr ns) (.int k) h = .ok (.int ns[k.toNat]) h := by
        simp only [ixD, seqOf, atI_nat hk.1 e1]
      refine ⟨ns[k.toNat], ?_⟩
      simp [tE, e2, eVar, eCall, aCons, aNil, lenD, seqOf, ltD_ii, tru, truB, hlt, sSet, e2']
    · refine ⟨0, ?_⟩
      simp [tE, e2, eVar, eCall, aCons, aNil, lenD, seqOf, ltD_ii, tru, truB, hlt, sPass]
  obtain ⟨cell, hcell⟩ := cell
  generalize hs1 : (cell % 2147483489 + 1) * (48271 + 2 * k) % 2147483489 = s1
  have b1 : 0 ≤ s1 ∧ s1 < 2147483489 := by rw [← hs1]; exact ⟨Int.emod_nonneg _ (by decide), Int.emod_lt_of_pos _ (by decide)⟩
  have b0 : 0 ≤ cell % 2147483489 ∧ cell % 2147483489 < 2147483489 := ⟨Int.emod_nonneg _ (by decide), Int.emod_lt_of_pos _ (by decide)⟩
  generalize hs2 : s1 * s1 % 2147483477 + k + 1 = s2
  have b2 : 0 ≤ s2 ∧ s2 < 2 ^ 60 := by
    rw [← hs2]
    have h1 := Int.emod_nonneg (s1 * s1) (show (2147483477 : Int) ≠ 0 by decide)
    have h2 := Int.emod_lt_of_pos (s1 * s1) (show (0 : Int) < 2147483477 by decide)
    omega
  have step : ∀ S : Sv, (sSeq (sSet 3 (eFroz (lDisp (aCons (eC (.int 2147483647)) (aCons (eC (.int 2147483629)) (aCons (eC (.int 2147483587)) (aCons (eC (.int 2147483579)) (aCons (eC (.int 2147483563)) (aCons (eC (.int 2147483549)) (aCons (eC (.int 2147483543)) (aCons (eC (.int 2147483497)) aNil)))))))))))
    (sSeq (sSet 4 (e2 modD (e2 mulD (e2 addD (e2 modD (eVar 2) (eC (.int 2147483489))) (eC (.int 1))) (e2 addD (eC (.int 48271)) (e2 mulD (eC (.int 2)) (eVar 1)))) (eC (.int 2147483489))))
    (sSeq (sSet 4 (e2 addD (e2 addD (e2 modD (e2 mulD (eVar 4) (eVar 4)) (eC (.int 2147483477))) (eVar 1)) (eC (.int 1)))) S))) [some (.scr ns), some (.int k), some (.int cell), none, none] h = S [some (.scr ns), some (.int k), some (.int cell), some (.lst primes), some (.int s2)] h := fun S => by
    have z : ([D.int 2147483647, .int 2147483629, .int 2147483587, .int 2147483579, .int 2147483563, .int 2147483549, .int 2147483543, .int 2147483497] : List D).length ≤ sizeLine := by show 8 ≤ sizeLine; decide
    have zero : (8 : Nat) ≤ sizeLine := by decide
    simp [sSeq, sSet, eFroz, lDisp, aCons, aNil, eC, e2, eVar, zero, modD_ok (show (0 : Int) < 2147483489 by decide), addD_ii, mulD_ok (show -(2 ^ 64) < (2 : Int) ∧ (2 : Int) < 2 ^ 64 by decide), mulD_ok (show -(2 ^ 64) < cell % 2147483489 + 1 ∧ cell % 2147483489 + 1 < 2 ^ 64 by omega), hs1,
      mulD_ok (show -(2 ^ 64) < s1 ∧ s1 < 2 ^ 64 by omega), modD_ok (show (0 : Int) < 2147483477 by decide), hs2, primes]
  have gd : ∀ e0 : En, e0 = [some (.scr ns), some (.int k), some (.int cell), some (.lst primes), some (.int s2)] → e2 ixD (eVar 3) (e2 modD (eVar 1) (eC (.int 8))) e0 h = .ok (.int p) h := fun e0 he => by
    subst he
    exact e2_ok (var_ok rfl) (e2_ok (var_ok rfl) rfl (modD_ok (by decide))) ep
  have tst : tE (e2 geD (eVar 2) (e2 powD (eC (.int 10)) (eC (.int 18)))) [some (.scr ns), some (.int k), some (.int cell), some (.lst primes), some (.int s2)] h = .ok (decide (1000000000000000000 ≤ cell)) h :=
    tE_bl (e2_ok (var_ok rfl) (e2_ok rfl rfl (pow18 h)) geD_ii)
  have fin : ∃ a, (sSeq (sIf (tE (e2 geD (eVar 2) (e2 powD (eC (.int 10)) (eC (.int 18))))) (sRet (eMut (lDisp (aCons (eVar 2) (aCons (eVar 4) (aCons (e2 ixD (eVar 3) (e2 modD (eVar 1) (eC (.int 8)))) aNil)))))) sPass)
    (sRet (eMut (lDisp (aCons (eC (.int 0)) (aCons (eVar 4) (aCons (e2 ixD (eVar 3) (e2 modD (eVar 1) (eC (.int 8)))) aNil))))))) [some (.scr ns), some (.int k), some (.int cell), some (.lst primes), some (.int s2)] h = .rt (.ref h.length) (h ++ [Wl a s2 p]) := by
    have z3 : (3 : Nat) ≤ sizeLine := by decide
    by_cases hc : 1000000000000000000 ≤ cell
    · rw [decide_eq_true hc] at tst
      exact ⟨cell, seq_rt ((if_t tst).trans (ret_rt (mut_of (disp_ok (aCons_ok (var_ok rfl) (aCons_ok (var_ok rfl) (aCons_ok (gd _ rfl) rfl))) z3))))⟩
    · rw [decide_eq_false hc] at tst
      exact ⟨0, (seq_nx ((if_f tst).trans rfl)).trans (ret_rt (mut_of (disp_ok (aCons_ok rfl (aCons_ok (var_ok rfl) (aCons_ok (gd _ rfl) rfl))) z3)))⟩
  obtain ⟨a, fin⟩ := fin
  refine ⟨a, s2, p, b2, hp, fn_rt ((seq_nx (set_nx rfl)).trans ((seq_nx hcell).trans ((step _).trans fin)))⟩
end
end Lb

set_option Elab.async false
set_option linter.all false
set_option maxRecDepth 100000
set_option maxHeartbeats 4000000
namespace Lb
open PySem PySem.Spec PyProof.Rows L2
/-! ### loops by an invariant -/
section
variable {e e1 : En} {h h1 h2 : Hs} {S U : Sv} {A : Ev} {T : Ts} {d : D} {i : Nat} {G : Tg}
theorem forL_inv (Q : Nat → En → Hs → Prop) : ∀ (xs : List D) (i : Nat) (e : En) (h : Hs), (∀ (j : Nat) (x : D) (e : En) (h : Hs), xs[j]? = some x → Q (i + j) e h → ∃ e1, G x e = some e1 ∧ ∃ e2 h2, (S e1 h = .nx e2 h2 ∨ S e1 h = .ct e2 h2) ∧ Q (i + j + 1) e2 h2) →
    Q i e h → ∃ e' h', forL G S xs e h = .nx e' h' ∧ Q (i + xs.length) e' h'
  | [], i, e, h, _, q => ⟨e, h, rfl, q⟩
  | x :: xs, i, e, h, st, q => by
    obtain ⟨e1, g, e2, h2, s, q2⟩ := st 0 x e h rfl q
    obtain ⟨e', h', r, q'⟩ := forL_inv Q xs (i + 1) e2 h2 (fun j y e h hj hq => by
      have := st (j + 1) y e h (by simpa using hj) (by rw [show i + (j + 1) = i + 1 + j by omega]; exact hq)
      rw [show i + (j + 1) + 1 = i + 1 + j + 1 by omega] at this
      exact this) q2
    refine ⟨e', h', ?_, by rw [show i + (x :: xs).length = i + 1 + xs.length by simp; omega]; exact q'⟩
    show (match G x e with
      | none => Fl.bad
      | some e1 => match S e1 h with
        | .nx e2 h2 => forL G S xs e2 h2
        | .ct e2 h2 => forL G S xs e2 h2
        | .bk e2 h2 => .nx e2 h2
        | r => r) = _
    rw [g]
    dsimp only
    rcases s with s | s <;> rw [s] <;> exact r
/-- a comprehension: base is the store without the new list -/
theorem compL_inv {n : Nat} {e : En} (Q : Nat → List D → Hs → Prop) : ∀ (xs : List D) (i : Nat) (acc : List D) (base : Hs), base.length = n → acc.length + xs.length ≤ sizeLine →
    (∀ (j : Nat) (x : D) (acc : List D) (base : Hs), xs[j]? = some x → base.length = n → Q (i + j) acc base → ∃ e1, G x e = some e1 ∧ ∃ b base1, T e1 (base ++ [.lst acc]) = .ok b (base1 ++ [.lst acc]) ∧ base1.length = n ∧
      (b = false → Q (i + j + 1) acc base1) ∧ (b = true → ∃ y base2, A e1 (base1 ++ [.lst acc]) = .ok y (base2 ++ [.lst acc]) ∧ base2.length = n ∧ Q (i + j + 1) (acc ++ [y]) base2)) →
    Q i acc base → ∃ acc' base', compL n G T A xs e (base ++ [.lst acc]) = .ok () (base' ++ [.lst acc']) ∧ base'.length = n ∧ Q (i + xs.length) acc' base'
  | [], i, acc, base, hb, _, _, q => ⟨acc, base, rfl, hb, q⟩
  | x :: xs, i, acc, base, hb, hz, st, q => by
    obtain ⟨e1, g, b, base1, t, hb1, qf, qt⟩ := st 0 x acc base rfl hb q
    have rest : ∀ acc2 base2, base2.length = n → acc2.length ≤ acc.length + 1 → Q (i + 1) acc2 base2 → compOne n G T A x e (base ++ [.lst acc]) = .ok () (base2 ++ [.lst acc2]) →
        ∃ acc' base', compL n G T A (x :: xs) e (base ++ [.lst acc]) = .ok () (base' ++ [.lst acc']) ∧ base'.length = n ∧ Q (i + (x :: xs).length) acc' base' := fun acc2 base2 hb2 hl q2 one => by
      obtain ⟨acc', base', r, hb', q'⟩ := compL_inv Q xs (i + 1) acc2 base2 hb2 (by simp at hz; omega) (fun j y a b hj hb hq => by
        have := st (j + 1) y a b (by simpa using hj) hb (by rw [show i + (j + 1) = i + 1 + j by omega]; exact hq)
        rw [show i + (j + 1) + 1 = i + 1 + j + 1 by omega] at this
        exact this) q2
      refine ⟨acc', base', ?_, hb', by rw [show i + (x :: xs).length = i + 1 + xs.length by simp; omega]; exact q'⟩
      show (compOne n G T A x e (base ++ [.lst acc])).bind (fun _ h1 => compL n G T A xs e h1) = _
      rw [one]
      exact r
    cases b with
    | false => exact rest acc base1 hb1 (by omega) (qf rfl) (by unfold compOne; rw [g]; dsimp only; rw [t])
    | true =>
      obtain ⟨y, base2, a, hb2, q2⟩ := qt rfl
      refine rest (acc ++ [y]) base2 hb2 (by simp) q2 ?_
      have e1' : (base2 ++ [Ob.lst acc])[n]? = some (.lst acc) := by rw [List.getElem?_append_right (by omega), hb2]; simp
      have e2' : (base2 ++ [Ob.lst acc]).set n (.lst (acc ++ [y])) = base2 ++ [.lst (acc ++ [y])] := by rw [List.set_append_right _ _ (by omega), hb2]; simp
      unfold compOne
      rw [g]
      dsimp only
      rw [t]
      dsimp only
      rw [a]
      dsimp only
      rw [e1']
      dsimp only
      rw [if_pos (by simp at hz; omega), e2']
/-- what lComp gives -/
theorem lComp_inv {I : Iv} {is : List Nat} {e : En} {h h1 : Hs} {xs : List D} (Q : Nat → List D → Hs → Prop) (qI : I e h = .ok (.fix xs) h1) (hz : xs.length ≤ sizeLine)
    (st : ∀ (j : Nat) (x : D) (acc : List D) (base : Hs), xs[j]? = some x → base.length = h1.length → Q j acc base → ∃ e1, G x (wipeE e is) = some e1 ∧ ∃ b base1, T e1 (base ++ [.lst acc]) = .ok b (base1 ++ [.lst acc]) ∧ base1.length = h1.length ∧
      (b = false → Q (j + 1) acc base1) ∧ (b = true → ∃ y base2, A e1 (base1 ++ [.lst acc]) = .ok y (base2 ++ [.lst acc]) ∧ base2.length = h1.length ∧ Q (j + 1) (acc ++ [y]) base2))
    (q0 : Q 0 [] h1) (fin : ∀ acc base, Q xs.length acc base → D.lows h1.length acc = true ∧ base.all (Ob.low h1.length) = true) :
    ∃ acc base, lComp I is G T A e h = .ok acc base ∧ base.length = h1.length ∧ Q xs.length acc base := by
  obtain ⟨acc, base, r, hb, q⟩ := compL_inv (n := h1.length) (e := wipeE e is) Q xs 0 [] h1 rfl (by simpa using hz) (fun j x a b hj hb hq => by
    have := st j x a b hj hb (by simpa using hq)
    simpa using this) q0
  rw [Nat.zero_add] at q
  obtain ⟨f1, f2⟩ := fin acc base q
  refine ⟨acc, base, ?_, hb, q⟩
  unfold lComp
  rw [qI]
  show compEnd h1 (compL h1.length G T A xs (wipeE e is) (h1 ++ [.lst []])) = _
  rw [r]
  unfold compEnd
  have e1' : (base ++ [Ob.lst acc])[h1.length]? = some (.lst acc) := by rw [List.getElem?_append_right (by omega), hb]; simp
  dsimp only
  rw [e1']
  dsimp only
  rw [if_pos f1]
  have et : (base ++ [Ob.lst acc]).take h1.length = base := by rw [← hb]; simp
  have tr : trunc h1 (base ++ [Ob.lst acc]) = some base := by
    unfold trunc
    rw [et]
    by_cases hs : hSame base h1 = true
    · rw [if_pos hs, hSame_eq _ _ hs]
    · rw [if_neg hs, if_pos f2]
  rw [tr]
/-- a comprehension that changes nothing: it filters and maps -/
theorem lComp_pure {I : Iv} {is : List Nat} {e : En} {h h1 : Hs} {α : Type} {enc : α → D} {xs : List α} (p : α → Bool) (f : α → D) (qI : I e h = .ok (.fix (xs.map enc)) h1) (hz : xs.length ≤ sizeLine)
    (st : ∀ x ∈ xs, ∃ e1, G (enc x) (wipeE e is) = some e1 ∧ ∀ acc, T e1 (h1 ++ [.lst acc]) = .ok (p x) (h1 ++ [.lst acc]) ∧ (p x = true → A e1 (h1 ++ [.lst acc]) = .ok (f x) (h1 ++ [.lst acc])))
    (hf : ∀ x ∈ xs, p x = true → (f x).low h1.length = true) : lComp I is G T A e h = .ok ((xs.filter p).map f) h1 := by
  have lows_app : ∀ (as bs : List D) (n : Nat), D.lows n as = true → D.lows n bs = true → D.lows n (as ++ bs) = true := fun as bs n => by
    intro h1 h2
    induction as with
    | nil => exact h2
    | cons a as ih =>
      simp only [List.cons_append, D.lows, Bool.and_eq_true] at h1 ⊢
      exact ⟨h1.1, ih h1.2⟩
  have lowm : ∀ j, D.lows h1.length (((xs.take j).filter p).map f) = true := fun j => by
    induction j with
    | zero => rfl
    | succ j ih =>
      cases hx : xs[j]? with
      | none => rw [List.take_of_length_le (by have := List.getElem?_eq_none_iff.mp hx; omega)]; rw [List.take_of_length_le (List.getElem?_eq_none_iff.mp hx)] at ih; exact ih
      | some x =>
        rw [List.take_add_one, hx]
        simp only [Option.toList, List.filter_append, List.map_append]
        refine lows_app _ _ _ ih ?_
        by_cases hp : p x = true
        · simp [List.filter_cons, hp, D.lows, hf x (List.mem_of_getElem? hx) hp]
        · simp [List.filter_cons, hp, D.lows]
  have same : ∀ base : Hs, base = h1 → trunc h1 base = some h1 := fun base hb => by
    subst hb; unfold trunc; rw [List.take_of_length_le (Nat.le_refl _), if_pos (hSame_refl _)]
  -- the loop itself, the store of the outer things the same
  obtain ⟨acc, base, r, hb, q⟩ := compL_inv (n := h1.length) (e := wipeE e is) (G := G) (T := T) (A := A) (fun j acc base => base = h1 ∧ acc = ((xs.take j).filter p).map f) (xs.map enc) 0 [] h1 rfl (by simpa using hz) (fun j x a b hj hb hq => by
    obtain ⟨rfl, rfl⟩ := hq
    rw [List.getElem?_map] at hj
    cases hx : xs[j]? with
    | none => rw [hx] at hj; cases hj
    | some y =>
      rw [hx] at hj
      cases hj
      obtain ⟨e1, g, k⟩ := st y (List.mem_of_getElem? hx)
      refine ⟨e1, g, p y, b, (k _).1, rfl, fun hp => ⟨rfl, ?_⟩, fun hp => ⟨f y, b, (k _).2 hp, rfl, rfl, ?_⟩⟩
      · rw [Nat.zero_add, List.take_add_one, hx]
        simp [List.filter_append, List.filter_cons, hp]
      · rw [Nat.zero_add, List.take_add_one, hx]
        simp [List.filter_append, List.filter_cons, hp]) ⟨rfl, rfl⟩
  obtain ⟨rfl, rfl⟩ := q
  unfold lComp
  rw [qI]
  show compEnd base (compL base.length G T A (xs.map enc) (wipeE e is) (base ++ [.lst []])) = _
  rw [r]
  unfold compEnd
  rw [Nat.zero_add, List.length_map, List.take_of_length_le (Nat.le_refl _)]
  have e1' : (base ++ [Ob.lst ((xs.filter p).map f)])[base.length]? = some (.lst ((xs.filter p).map f)) := by simp
  have lw := lowm xs.length
  rw [List.take_of_length_le (Nat.le_refl _)] at lw
  dsimp only
  rw [e1']
  dsimp only
  rw [if_pos lw]
  have tr : trunc base (base ++ [Ob.lst ((xs.filter p).map f)]) = some base := by
    unfold trunc
    rw [List.take_left', if_pos (hSame_refl _)]
    rfl
  rw [tr]
end
end Lb

set_option Elab.async false
set_option linter.all false
set_option maxRecDepth 100000
set_option maxHeartbeats 4000000
namespace Lb
open PySem PySem.Spec PyProof.Rows L2
/-! ### equality -/
mutual
theorem eqv_self : ∀ d : D, PyData.eqv d.data d.data = true
  | .non => by simp [D.data, PyData.eqv]
  | .bl _ => by simp [D.data, PyData.eqv]
  | .int _ => by simp [D.data, PyData.eqv]
  | .str _ => by simp [D.data, PyData.eqv]
  | .tup xs => by simp [D.data, PyData.eqv, eqvs_self xs]
  | .lst xs => by simp [D.data, PyData.eqv, eqvs_self xs]
  | .ref _ => by simp [D.data, PyData.eqv]
  | .scr _ => by simp [D.data, PyData.eqv]
theorem eqvs_self : ∀ ds : List D, PyData.eqvAll (D.datas ds) (D.datas ds) = true
  | [] => by simp [D.datas, PyData.eqvAll]
  | d :: ds => by simp [D.datas, PyData.eqvAll, eqv_self d, eqvs_self ds]
end
theorem eq_same {h : Hs} {x : D} (hf : (viewD h x).fit 40 = true) : eqD x x h = .ok (.bl true) h := by
  show bD eqB x x h = _
  unfold bD eqB
  rw [hf]
  simp [eqv_self]
theorem ne_same {h : Hs} {x : D} (hf : (viewD h x).fit 40 = true) : neD x x h = .ok (.bl false) h := by
  show nbD eqB x x h = _
  unfold nbD eqB
  rw [hf]
  simp [eqv_self]
/-! ### places, cells -/
abbrev P2 := Int × Int
abbrev P3 := Int × Int × Int
def enc2 (p : P2) : D := .tup [.int p.1, .int p.2]
def enc3 (c : P3) : D := .tup [.int c.1, .int c.2.1, .int c.2.2]
theorem eqv2 (p q : P2) : PyData.eqv (enc2 p).data (enc2 q).data = decide (p = q) := by
  obtain ⟨a, b⟩ := p
  obtain ⟨c, d⟩ := q
  simp only [enc2, D.data, D.datas, PyData.eqv, PyData.eqvAll, Prod.mk.injEq, Bool.and_true]
  by_cases h1 : a = c <;> by_cases h2 : b = d <;> simp [h1, h2]
theorem eqv3 (p q : P3) : PyData.eqv (enc3 p).data (enc3 q).data = decide (p = q) := by
  obtain ⟨a, b, e⟩ := p
  obtain ⟨c, d, f⟩ := q
  simp only [enc3, D.data, D.datas, PyData.eqv, PyData.eqvAll, Prod.mk.injEq, Bool.and_true]
  by_cases h1 : a = c <;> by_cases h2 : b = d <;> by_cases h3 : e = f <;> simp [h1, h2, h3]
theorem fit2 (p : P2) (n : Nat) : (enc2 p).fit (n + 2) = true := by simp [enc2, D.fit]
theorem fit3 (p : P3) (n : Nat) : (enc3 p).fit (n + 2) = true := by simp [enc3, D.fit]
theorem fits2 (ps : List P2) (n : Nat) : (ps.map enc2).all (D.fit (n + 2)) = true := by simp [fit2]
theorem fits3 (ps : List P3) (n : Nat) : (ps.map enc3).all (D.fit (n + 2)) = true := by simp [fit3]
theorem any2 (ps : List P2) (p : P2) : ((ps.map enc2).any fun y => PyData.eqv y.data (enc2 p).data) = decide (p ∈ ps) := by
  rw [List.any_map]
  induction ps with
  | nil => rfl
  | cons q ps ih =>
    rw [List.any_cons, ih]
    show (PyData.eqv (enc2 q).data (enc2 p).data || _) = _
    rw [eqv2]
    by_cases h : q = p
    · subst h; simp
    · have h' : ¬ p = q := fun z => h z.symm
      simp [h, h']
theorem in2_lst {h : Hs} (ps : List P2) (p : P2) : inD (enc2 p) (.lst (ps.map enc2)) h = .ok (.bl (decide (p ∈ ps))) h := by
  show bD inB _ _ h = _
  have e : inB h (enc2 p) (.lst (ps.map enc2)) = some (decide (p ∈ ps)) := by
    show (if (viewD h (enc2 p)).fit 40 && (ps.map enc2).all (D.fit 40) then some ((ps.map enc2).any fun y => PyData.eqv y.data (viewD h (enc2 p)).data) else none) = _
    rw [show viewD h (enc2 p) = enc2 p from rfl, fit2 p 38, fits2 ps 38, any2]
    rfl
  unfold bD
  rw [e]
theorem nin2_lst {h : Hs} (ps : List P2) (p : P2) : ninD (enc2 p) (.lst (ps.map enc2)) h = .ok (.bl (!decide (p ∈ ps))) h := by
  show nbD inB _ _ h = _
  have e : inB h (enc2 p) (.lst (ps.map enc2)) = some (decide (p ∈ ps)) := by
    show (if (viewD h (enc2 p)).fit 40 && (ps.map enc2).all (D.fit 40) then some ((ps.map enc2).any fun y => PyData.eqv y.data (viewD h (enc2 p)).data) else none) = _
    rw [show viewD h (enc2 p) = enc2 p from rfl, fit2 p 38, fits2 ps 38, any2]
    rfl
  unfold nbD
  rw [e]
/-! ### order -/
def lt2 (p q : P2) : Prop := p.1 < q.1 ∨ (p.1 = q.1 ∧ p.2 < q.2)
def lt3 (p q : P3) : Prop := p.1 < q.1 ∨ (p.1 = q.1 ∧ (p.2.1 < q.2.1 ∨ (p.2.1 = q.2.1 ∧ p.2.2 < q.2.2)))
instance (p q : P2) : Decidable (lt2 p q) := by unfold lt2; infer_instance
instance (p q : P3) : Decidable (lt3 p q) := by unfold lt3; infer_instance
theorem data2 (p q : P2) : PySem.W.dataLt (enc2 p).data (enc2 q).data = decide (lt2 p q) := by
  obtain ⟨a, b⟩ := p
  obtain ⟨c, d⟩ := q
  simp only [enc2, D.data, D.datas]
  rw [PySem.W.dataLt_ii]
  rfl
theorem data3 (p q : P3) : PySem.W.dataLt (enc3 p).data (enc3 q).data = decide (lt3 p q) := by
  obtain ⟨a, b, e⟩ := p
  obtain ⟨c, d, f⟩ := q
  have h1 : PySem.W.dataLt (.tuple [.int a, .int b, .int e]) (.tuple [.int c, .int d, .int f]) = if PyData.eqv (.int a) (.int c) = true then PySem.W.dataLt (.tuple [.int b, .int e]) (.tuple [.int d, .int f]) else PySem.W.dataLt (.int a) (.int c) :=
    PySem.W.dataLt_cons (x := .int a) (y := .int c) (by simp [PySem.W.alike]) [.int b, .int e] [.int d, .int f]
  simp only [enc3, D.data, D.datas]
  rw [h1, PySem.W.dataLt_ii, PySem.W.dataLt_int]
  unfold lt3
  simp only [PyData.eqv]
  by_cases h : a = c
  · subst h
    simp
  · simp [h]
structure Ord {α : Type} (lt : α → α → Prop) : Prop where
  irr : ∀ a, ¬ lt a a
  tr : ∀ a b c, lt a b → lt b c → lt a c
  tot : ∀ a b, lt a b ∨ a = b ∨ lt b a
theorem ord2 : Ord lt2 where
  irr := fun a => by unfold lt2; omega
  tr := fun a b c => by unfold lt2; omega
  tot := fun a b => by
    obtain ⟨a1, a2⟩ := a
    obtain ⟨b1, b2⟩ := b
    unfold lt2
    simp only [Prod.mk.injEq]
    omega
theorem ord3 : Ord lt3 where
  irr := fun a => by unfold lt3; omega
  tr := fun a b c => by unfold lt3; omega
  tot := fun a b => by
    obtain ⟨a1, a2, a3⟩ := a
    obtain ⟨b1, b2, b3⟩ := b
    unfold lt3
    simp only [Prod.mk.injEq]
    omega
theorem sorted_ext {α : Type} {lt : α → α → Prop} (o : Ord lt) : ∀ {l m : List α}, l.Pairwise lt → m.Pairwise lt → (∀ x, x ∈ l ↔ x ∈ m) → l = m
  | [], [], _, _, _ => rfl
  | [], y :: m, _, _, h => absurd ((h y).mpr (by simp)) (by simp)
  | x :: l, [], _, _, h => absurd ((h x).mp (by simp)) (by simp)
  | x :: l, y :: m, hl, hm, h => by
    rw [List.pairwise_cons] at hl hm
    have e : x = y := by
      rcases List.mem_cons.mp ((h x).mp (by simp)) with e | e
      · exact e
      · rcases List.mem_cons.mp ((h y).mpr (by simp)) with e' | e'
        · exact e'.symm
        · exact absurd (o.tr _ _ _ (hl.1 y e') (hm.1 x e)) (o.irr _)
    subst e
    rw [sorted_ext o hl.2 hm.2 fun z => ?_]
    constructor
    · intro hz
      rcases List.mem_cons.mp ((h z).mp (List.mem_cons_of_mem _ hz)) with e | e
      · subst e; exact absurd (hl.1 z hz) (o.irr _)
      · exact e
    · intro hz
      rcases List.mem_cons.mp ((h z).mpr (List.mem_cons_of_mem _ hz)) with e | e
      · subst e; exact absurd (hm.1 z hz) (o.irr _)
      · exact e
/-- sorting by an encoding -/
theorem srt_enc {α : Type} [DecidableEq α] {lt : α → α → Prop} [∀ a b, Decidable (lt a b)] (o : Ord lt) {enc : α → D} (he : ∀ a b, PySem.W.dataLt (enc a).data (enc b).data = decide (lt a b)) {l : List α} (hn : l.Nodup) :
    ∃ m : List α, srt (l.map enc) = m.map enc ∧ m.Pairwise lt ∧ m.Perm l := by
  have q := PySem.W.sort_maps (r := fun a b => !decide (lt b a)) (s := PySem.W.dataLe false D.data) enc (l := l) (fun a _ b _ => by
    rw [PySem.W.dataLe_eq]
    show _ = !PySem.W.dataLt (enc b).data (enc a).data
    rw [he])
  have pm := List.mergeSort_perm l (fun a b => !decide (lt b a))
  refine ⟨l.mergeSort fun a b => !decide (lt b a), (srt_merge _).trans q.symm, ?_, pm⟩
  have pw := List.pairwise_mergeSort (le := fun a b => !decide (lt b a)) (fun a b c h1 h2 => by
    simp only [Bool.not_eq_true', decide_eq_false_iff_not] at h1 h2 ⊢
    intro h3
    rcases o.tot a b with h | h | h
    · exact h2 (o.tr _ _ _ h3 h)
    · subst h; exact h2 h3
    · exact h1 h) (fun a b => by
    simp only [Bool.or_eq_true, Bool.not_eq_true', decide_eq_false_iff_not]
    by_cases h : lt b a
    · exact .inr fun h' => o.irr _ (o.tr _ _ _ h h')
    · exact .inl h) l
  have nd : (l.mergeSort fun a b => !decide (lt b a)).Nodup := pm.nodup_iff.mpr hn
  refine List.Pairwise.imp₂ ?_ pw nd
  intro a b h1 h2
  simp only [Bool.not_eq_true', decide_eq_false_iff_not] at h1
  rcases o.tot a b with h | h | h
  · exact h
  · exact absurd h h2
  · exact absurd h h1
theorem srt_is {α : Type} [DecidableEq α] {lt : α → α → Prop} [∀ a b, Decidable (lt a b)] (o : Ord lt) {enc : α → D} (he : ∀ a b, PySem.W.dataLt (enc a).data (enc b).data = decide (lt a b)) {l m : List α} (hl : l.Nodup) (hm : m.Pairwise lt) (hp : ∀ x, x ∈ l ↔ x ∈ m) : srt (l.map enc) = m.map enc := by
  obtain ⟨m', e, pw, pm⟩ := srt_enc o he hl
  rw [e, sorted_ext o pw hm fun x => by rw [pm.mem_iff]; exact hp x]
end Lb

set_option Elab.async false
set_option linter.all false
set_option maxRecDepth 100000
set_option maxHeartbeats 4000000
namespace Lb
open PySem PySem.Spec PyProof.Rows L2
/-! ### low -/
mutual
theorem low_mono {k k' : Nat} (hk : k ≤ k') : ∀ d : D, d.low k = true → d.low k' = true
  | .non, _ => rfl
  | .bl _, _ => rfl
  | .int _, _ => rfl
  | .str _, _ => rfl
  | .scr _, _ => rfl
  | .ref i, h => by simp only [D.low, decide_eq_true_eq] at h ⊢; omega
  | .tup xs, h => by simp only [D.low] at h ⊢; exact lows_mono hk xs h
  | .lst xs, h => by simp only [D.low] at h ⊢; exact lows_mono hk xs h
theorem lows_mono {k k' : Nat} (hk : k ≤ k') : ∀ ds : List D, D.lows k ds = true → D.lows k' ds = true
  | [], _ => rfl
  | d :: ds, h => by
    simp only [D.lows, Bool.and_eq_true] at h ⊢
    exact ⟨low_mono hk d h.1, lows_mono hk ds h.2⟩
end
theorem obLow_mono {k k' : Nat} (hk : k ≤ k') (o : Ob) (h : o.low k = true) : o.low k' = true := by
  cases o with
  | lst xs => exact lows_mono hk xs h
  | dict kvs =>
    simp only [Ob.low, List.all_eq_true, Bool.and_eq_true] at h ⊢
    exact fun p hp => ⟨low_mono hk _ (h p hp).1, low_mono hk _ (h p hp).2⟩
  | fdict kvs =>
    simp only [Ob.low, List.all_eq_true, Bool.and_eq_true] at h ⊢
    exact fun p hp => ⟨low_mono hk _ (h p hp).1, low_mono hk _ (h p hp).2⟩
  | dks kvs =>
    simp only [Ob.low, List.all_eq_true] at h ⊢
    exact fun p hp => low_mono hk _ (h p hp)
  | ins c kvs =>
    simp only [Ob.low, List.all_eq_true] at h ⊢
    exact fun p hp => low_mono hk _ (h p hp)
theorem all_low_mono {k k' : Nat} (hk : k ≤ k') {h : Hs} (a : h.all (Ob.low k) = true) : h.all (Ob.low k') = true := by
  rw [List.all_eq_true] at a ⊢
  exact fun o ho => obLow_mono hk o (a o ho)
theorem low2 (p : P2) (k : Nat) : (enc2 p).low k = true := rfl
theorem low3 (p : P3) (k : Nat) : (enc3 p).low k = true := rfl
theorem lows_all {k : Nat} : ∀ {ds : List D}, (∀ d ∈ ds, d.low k = true) → D.lows k ds = true
  | [], _ => rfl
  | d :: ds, h => by
    simp only [D.lows, Bool.and_eq_true]
    exact ⟨h d (by simp), lows_all fun x hx => h x (List.mem_cons_of_mem _ hx)⟩
/-! ### dicts that hold True at places -/
def kd {α : Type} (enc : α → D) (cs : List α) : List (D × D) := cs.map fun c => (enc c, .bl true)
structure Keyed {α : Type} (enc : α → D) : Prop where
  ok : ∀ a, (enc a).isKey = true
  inj : ∀ a b, (enc a).key = (enc b).key → a = b
theorem keyed2 : Keyed enc2 where
  ok := fun a => by rfl
  inj := fun a b h => by
    obtain ⟨a1, a2⟩ := a
    obtain ⟨b1, b2⟩ := b
    simp [enc2, D.key, D.keys] at h
    simp [h]
theorem keyed3 : Keyed enc3 where
  ok := fun a => by rfl
  inj := fun a b h => by
    obtain ⟨a1, a2, a3⟩ := a
    obtain ⟨b1, b2, b3⟩ := b
    simp [enc3, D.key, D.keys] at h
    simp [h]
section
variable {α : Type} [DecidableEq α] {enc : α → D}
theorem dget_kd (K : Keyed enc) (cs : List α) (c : α) : dget (kd enc cs) (enc c) = if c ∈ cs then some (.bl true) else none := by
  induction cs with
  | nil => rfl
  | cons a cs ih =>
    by_cases h : a = c
    · subst h
      simp [dget, kd]
    · have hk : ¬ (enc a).key = (enc c).key := fun z => h (K.inj _ _ z)
      have hc : ¬ c = a := fun z => h z.symm
      have e1 : dget (kd enc (a :: cs)) (enc c) = dget (kd enc cs) (enc c) := by simp [dget, kd, List.find?_cons, hk]
      rw [e1, ih]
      simp [hc]
def cadd (cs : List α) (c : α) : List α := if c ∈ cs then cs else cs ++ [c]
theorem dset_kd (K : Keyed enc) (cs : List α) (c : α) : dset (kd enc cs) (enc c) (.bl true) = kd enc (cadd cs c) := by
  unfold dset cadd
  rw [dget_kd K]
  by_cases h : c ∈ cs
  · rw [if_pos h, if_pos h]
    simp only [Option.isSome_some, if_true]
    unfold kd
    rw [List.map_map]
    refine List.map_congr_left fun a _ => ?_
    simp
  · rw [if_neg h, if_neg h]
    simp [kd]
theorem kd_length (cs : List α) : (kd enc cs).length = cs.length := by simp [kd]
theorem kd_low {k : Nat} (hl : ∀ a, (enc a).low k = true) (cs : List α) : (Ob.dict (kd enc cs)).low k = true := by
  simp [Ob.low, kd, hl, D.low]
theorem kd_keys (cs : List α) : (kd enc cs).map (·.1) = cs.map enc := by
  unfold kd; rw [List.map_map]; rfl
theorem mem_cadd (cs : List α) (c x : α) : x ∈ cadd cs c ↔ x ∈ cs ∨ x = c := by
  unfold cadd
  by_cases h : c ∈ cs
  · rw [if_pos h]
    exact ⟨.inl, fun z => z.elim id fun z => z ▸ h⟩
  · rw [if_neg h]; simp
theorem nodup_cadd {cs : List α} (c : α) (h : cs.Nodup) : (cadd cs c).Nodup := by
  unfold cadd
  by_cases hc : c ∈ cs
  · rw [if_pos hc]; exact h
  · rw [if_neg hc]
    rw [List.nodup_append]
    exact ⟨h, by simp, fun a ha b hb => by rw [List.mem_singleton] at hb; subst hb; exact fun z => hc (z ▸ ha)⟩
theorem len_cadd (cs : List α) (c : α) : (cadd cs c).length ≤ cs.length + 1 := by
  unfold cadd; split <;> simp
end
/-! ### _law_body -/
def bd : Fn := fnB 8 ((sSeq (sSet 2 (eDict1 (eTup (aCons (eCall (args 2 [] (run tk)) (aCons (eVar 0) (aCons (eVar 1) aNil))) (aCons (eCall (args 2 [] (run tk)) (aCons (eVar 0) (aCons (eC (.int 4)) aNil))) (aCons (eCall (args 2 [] (run tk)) (aCons (eVar 0) (aCons (eC (.int 10)) aNil))) aNil)))) (eC (.bl true))))
    (sSeq (sFor (iRng1 (aCons (eCall (args 2 [] (run tk)) (aCons (eVar 0) (aCons (eC (.int 9)) aNil))) aNil)) (gN 3) (sSeq (sPar3 4 5 6 (aCons (eCall (args 2 [] (run tk)) (aCons (eVar 0) (aCons (eVar 1) aNil))) (aCons (eCall (args 2 [] (run tk)) (aCons (eVar 0) (aCons (eC (.int 4)) aNil))) (aCons (eCall (args 2 [] (run tk)) (aCons (eVar 0) (aCons (eC (.int 10)) aNil))) aNil))))
    (sFor (iRng1 (aCons (e2 addD (eC (.int 1)) (eCall (args 2 [] (run tk)) (aCons (eVar 0) (aCons (eC (.int 6)) aNil)))) aNil)) (gN 7) (sIf (tE (e2 ltD (e2 addD (eVar 6) (eVar 7)) (eC (.int 10)))) (sPut (eC (.bl true)) (eVar 2) (eTup (aCons (eVar 4) (aCons (eVar 5) (aCons (e2 addD (eVar 6) (eVar 7)) aNil))))) sPass))))
    (sSeq (sIf (tE (e2 eqD (eCall (args 2 [] (run tk)) (aCons (eVar 0) (aCons (eC (.int 3)) aNil))) (eC (.int 0)))) (sDrop (eMeth "dict" updD (eVar 2) (aCons (eFroz (lComp (iVal (eFroz (lCall listAL (aCons (eVar 2) aNil)))) [4, 5, 6] (gTp [(gN 4), (gN 5), (gN 6)]) tTrue (eTup (aCons (eTup (aCons (eC (.int 0)) (aCons (eVar 5) (aCons (eVar 6) aNil)))) (aCons (eC (.bl true)) aNil))))) aNil))) sPass)
    (sRet (eCall tupleD (aCons (eFroz (lCall sortedL (aCons (eVar 2) aNil))) aNil)))))))
/-- the store within: the well, the dict that grows -/
def St (h : Hs) (n : Nat) (a b c : Int) (cs : List P3) : Hs := h.set n (Wl a b c) ++ [.dict (kd enc3 cs)]
section
variable {h : Hs} {n : Nat} {a b c high : Int} {cs : List P3}
theorem St_length : (St h n a b c cs).length = h.length + 1 := by simp [St]
theorem St_n (hn : n < h.length) : (St h n a b c cs)[n]? = some (Wl a b c) := by
  unfold St
  rw [List.getElem?_append_left (by simpa using hn), List.getElem?_set_self hn]
theorem St_d : (St h n a b c cs)[h.length]? = some (.dict (kd enc3 cs)) := by
  unfold St
  rw [List.getElem?_append_right (by simp)]
  simp
theorem St_set (hn : n < h.length) (a' b' : Int) : (St h n a b c cs).set n (Wl a' b' c) = St h n a' b' c cs := by
  unfold St
  rw [List.set_append_left _ _ (by simpa using hn), List.set_set]
theorem St_put (cs' : List P3) : (St h n a b c cs).set h.length (.dict (kd enc3 cs')) = St h n a b c cs' := by
  unfold St
  rw [List.set_append_right _ _ (by simp)]
  simp
theorem St_low (hl : h.all (Ob.low h.length) = true) : (St h n a b c cs).all (Ob.low (St h n a b c cs).length) = true := by
  rw [St_length]
  unfold St
  rw [List.all_append, Bool.and_eq_true]
  refine ⟨all_low_mono (Nat.le_succ _) (all_set hl (Wl_low _)), ?_⟩
  simp only [List.all_cons, List.all_nil, Bool.and_true]
  exact kd_low (fun _ => rfl) cs
theorem take_St (hn : n < h.length) (hb : 0 ≤ b ∧ b < 2 ^ 60) (hc : 0 < c ∧ c < 2 ^ 50) {m : Int} (hm : 0 < m ∧ m < 1073741824) (hl : h.all (Ob.low h.length) = true) :
    ∃ v a' b', 0 ≤ v ∧ v < m ∧ (0 ≤ b' ∧ b' < 2 ^ 60) ∧ args 2 [] (run tk) [.ref n, .int m] (St h n a b c cs) = .ok (.int v) (St h n a' b' c cs) := by
  obtain ⟨v, a', b', h1, h2, h3, e⟩ := take_run (St_n hn) hb hc hm (St_low (a := a) (b := b) (c := c) (cs := cs) hl)
  exact ⟨v, a', b', h1, h2, h3, by rw [e, St_set hn]⟩
/-- take(well, a constant or high) within an expression -/
theorem take_ev {e : En} {M : Ev} {m : Int} (h0 : e[0]? = some (some (.ref n))) (hM : ∀ h', M e h' = .ok (.int m) h') (hn : n < h.length) (hb : 0 ≤ b ∧ b < 2 ^ 60) (hc : 0 < c ∧ c < 2 ^ 50) (hm : 0 < m ∧ m < 1073741824) (hl : h.all (Ob.low h.length) = true) :
    ∃ v a' b', 0 ≤ v ∧ v < m ∧ (0 ≤ b' ∧ b' < 2 ^ 60) ∧ eCall (args 2 [] (run tk)) (aCons (eVar 0) (aCons M aNil)) e (St h n a b c cs) = .ok (.int v) (St h n a' b' c cs) := by
  obtain ⟨v, a', b', h1, h2, h3, q⟩ := take_St (cs := cs) (a := a) hn hb hc hm hl
  exact ⟨v, a', b', h1, h2, h3, eCall_ok (aCons_ok (var_ok h0) (aCons_ok (hM _) rfl)) q⟩
end
end Lb

set_option Elab.async false
set_option linter.all false
set_option maxRecDepth 100000
set_option maxHeartbeats 4000000
namespace Lb
open PySem PySem.Spec PyProof.Rows L2
theorem put_nx {A O J : Ev} {e : En} {h h1 h2 h3 h4 : Hs} {v o i : D} (q1 : A e h = .ok v h1) (q2 : O e h1 = .ok o h2) (q3 : J e h2 = .ok i h3) (q4 : setD o i v h3 = .ok () h4) : sPut A O J e h = .nx e h4 := by
  unfold sPut
  rw [q1]
  show ((O e h1).st e fun o h2 => (J e h2).st e fun i h3 => (setD o i v h3).st e fun _ h4 => .nx e h4) = _
  rw [q2]
  show ((J e h2).st e fun i h3 => (setD o i v h3).st e fun _ h4 => .nx e h4) = _
  rw [q3]
  show ((setD o i v h3).st e fun _ h4 => .nx e h4) = _
  rw [q4]
  rfl
theorem par3_nx {i j l : Nat} {A : Es} {e : En} {h h1 : Hs} {x y z : D} (q : A e h = .ok [x, y, z] h1) : sPar3 i j l A e h = .nx (((e.set i (some x)).set j (some y)).set l (some z)) h1 := by unfold sPar3; rw [q]; rfl
theorem rng1_ok {A : Es} {e : En} {h h1 : Hs} {j : Int} (q : A e h = .ok [.int j] h1) (hj : -(2 ^ 62) ≤ j ∧ j < 2 ^ 62) : iRng1 A e h = .ok (.fix (rng 0 j.toNat)) h1 := by unfold iRng1; rw [q]; exact if_pos hj
def okc (high : Int) (c : P3) : Prop := (0 ≤ c.1 ∧ c.1 < high) ∧ (0 ≤ c.2.1 ∧ c.2.1 < 4) ∧ (0 ≤ c.2.2 ∧ c.2.2 < 10)
structure Gc (high : Int) (L : Nat) (cs : List P3) : Prop where
  ne : cs ≠ []
  nd : cs.Nodup
  ok : ∀ c ∈ cs, okc high c
  len : cs.length ≤ L
section
variable {h : Hs} {n : Nat} {a b c high : Int} {cs : List P3} {L : Nat}
theorem Gc.add (g : Gc high L cs) {x : P3} (hx : okc high x) : Gc high (L + 1) (cadd cs x) := by
  refine ⟨fun z => ?_, nodup_cadd x g.nd, fun y hy => ?_, Nat.le_trans (len_cadd cs x) (Nat.succ_le_succ g.len)⟩
  · have : x ∈ cadd cs x := (mem_cadd cs x x).mpr (.inr rfl)
    rw [z] at this; simp at this
  · rcases (mem_cadd cs x y).mp hy with q | q
    · exact g.ok y q
    · subst q; exact hx
theorem Gc.more (g : Gc high L cs) {M : Nat} (h : L ≤ M) : Gc high M cs := ⟨g.ne, g.nd, g.ok, Nat.le_trans g.len h⟩
theorem setD_St (g : Gc high L cs) (hL : L < 1000) (x : P3) : setD (.ref h.length) (enc3 x) (.bl true) (St h n a b c cs) = .ok () (St h n a b c (cadd cs x)) := by
  have hz : ((enc3 x).isKey && decide ((kd enc3 cs).length < sizeLine)) = true := by
    rw [keyed3.ok x, kd_length, Bool.true_and, decide_eq_true_eq]
    have : (1000 : Nat) < sizeLine := by decide
    have := g.len
    omega
  show (match (St h n a b c cs)[h.length]? with
    | some (.dict kvs) => if (enc3 x).isKey && decide (kvs.length < sizeLine) then R.ok () ((St h n a b c cs).set h.length (.dict (dset kvs (enc3 x) (.bl true)))) else .bad
    | _ => .bad) = _
  rw [St_d]
  dsimp only
  rw [if_pos hz, dset_kd keyed3, St_put]
/-- the names at hand within _law_body -/
structure E0 (h : Hs) (n : Nat) (high : Int) (e : En) : Prop where
  len : e.length = 8
  n0 : e[0]? = some (some (.ref n))
  n1 : e[1]? = some (some (.int high))
  n2 : e[2]? = some (some (.ref h.length))
theorem E0.set {e : En} (E : E0 h n high e) (i : Nat) (hi : 3 ≤ i) (d : Option D) : E0 h n high (e.set i d) := by
  refine ⟨by simp [E.len], ?_, ?_, ?_⟩
  · rw [List.getElem?_set_ne (by omega)]; exact E.n0
  · rw [List.getElem?_set_ne (by omega)]; exact E.n1
  · rw [List.getElem?_set_ne (by omega)]; exact E.n2
structure E1 (h : Hs) (n : Nat) (high : Int) (z y x : Int) (e : En) : Prop where
  e0 : E0 h n high e
  n4 : e[4]? = some (some (.int z))
  n5 : e[5]? = some (some (.int y))
  n6 : e[6]? = some (some (.int x))
theorem E0.three {e : En} (E : E0 h n high e) (z y x : Int) : E1 h n high z y x (((e.set 4 (some (.int z))).set 5 (some (.int y))).set 6 (some (.int x))) := by
  have hl := E.len
  refine ⟨((E.set 4 (by omega) _).set 5 (by omega) _).set 6 (by omega) _, ?_, ?_, ?_⟩
  · rw [List.getElem?_set_ne (by omega), List.getElem?_set_ne (by omega), List.getElem?_set_self (by omega)]
  · rw [List.getElem?_set_ne (by omega), List.getElem?_set_self (by simp; omega)]
  · rw [List.getElem?_set_self (by simp; omega)]
theorem E1.set7 {e : En} {z y x : Int} (E : E1 h n high z y x e) (d : Option D) : E1 h n high z y x (e.set 7 d) :=
  ⟨E.e0.set 7 (by omega) d, by rw [List.getElem?_set_ne (by omega)]; exact E.n4, by rw [List.getElem?_set_ne (by omega)]; exact E.n5, by rw [List.getElem?_set_ne (by omega)]; exact E.n6⟩
def bdIn : Sv := sIf (tE (e2 ltD (e2 addD (eVar 6) (eVar 7)) (eC (.int 10)))) (sPut (eC (.bl true)) (eVar 2) (eTup (aCons (eVar 4) (aCons (eVar 5) (aCons (e2 addD (eVar 6) (eVar 7)) aNil))))) sPass
theorem bd_inner {z y x : Int} (hz : 0 ≤ z ∧ z < high) (hy : 0 ≤ y ∧ y < 4) (hx : 0 ≤ x ∧ x < 10) {k : Nat} {e : En} (E : E1 h n high z y x e) (g : Gc high L cs) (hL : L + k < 1000) :
    ∃ e' cs', forL (gN 7) bdIn (rng 0 k) e (St h n a b c cs) = .nx e' (St h n a b c cs') ∧ E0 h n high e' ∧ Gc high (L + k) cs' := by
  obtain ⟨e', st', r, E', cs', rfl, g'⟩ := forL_inv (G := gN 7) (S := bdIn) (fun i e st => E1 h n high z y x e ∧ ∃ cs, st = St h n a b c cs ∧ Gc high (L + i) cs) (rng 0 k) 0 e (St h n a b c cs) (fun j d e st hj ⟨E, cs, hst, g⟩ => by
    subst hst
    obtain ⟨hjk, rfl⟩ := rng_get k 0 j d hj
    rw [Nat.zero_add] at g ⊢
    refine ⟨_, rfl, ?_⟩
    have E7 := E.set7 (some (.int (0 + (j : Int))))
    have h7 : (e.set 7 (some (.int (0 + (j : Int)))))[7]? = some (some (.int (0 + (j : Int)))) := List.getElem?_set_self (by rw [E.e0.len]; omega)
    have sm : e2 addD (eVar 6) (eVar 7) (e.set 7 (some (.int (0 + (j : Int))))) (St h n a b c cs) = .ok (.int (x + (0 + (j : Int)))) (St h n a b c cs) := e2_ok (var_ok E7.n6) (var_ok h7) addD_ii
    have tst : tE (e2 ltD (e2 addD (eVar 6) (eVar 7)) (eC (.int 10))) (e.set 7 (some (.int (0 + (j : Int))))) (St h n a b c cs) = .ok (decide (x + (0 + (j : Int)) < 10)) (St h n a b c cs) := tE_bl (e2_ok sm rfl ltD_ii)
    by_cases hlt : x + (0 + (j : Int)) < 10
    · rw [decide_eq_true hlt] at tst
      refine ⟨_, _, .inl ((if_t tst).trans (put_nx rfl (var_ok E7.e0.n2) (tup_ok (aCons_ok (var_ok E7.n4) (aCons_ok (var_ok E7.n5) (aCons_ok sm rfl))) (by show 3 ≤ sizeLine; decide)) (setD_St g (by omega) (z, y, x + (0 + (j : Int)))))), E7, _, rfl, ?_⟩
      exact g.add (x := (z, y, x + (0 + (j : Int)))) ⟨hz, hy, by show 0 ≤ x + (0 + (j : Int)) ∧ x + (0 + (j : Int)) < 10; omega⟩
    · rw [decide_eq_false hlt] at tst
      exact ⟨_, _, .inl ((if_f tst).trans rfl), E7, cs, rfl, g.more (by omega)⟩) ⟨E, cs, rfl, g⟩
  rw [rng_length, Nat.zero_add] at g'
  exact ⟨e', cs', r, E'.e0, g'⟩
end
end Lb

set_option Elab.async false
set_option linter.all false
set_option maxRecDepth 100000
set_option maxHeartbeats 4000000
namespace Lb
open PySem PySem.Spec PyProof.Rows L2
theorem eqD_ii {h : Hs} {i j : Int} : eqD (.int i) (.int j) h = .ok (.bl (decide (i = j))) h := by
  show bD eqB _ _ h = _
  have : eqB h (.int i) (.int j) = some (decide (i = j)) := by
    show (if (D.fit 40 (.int i) && D.fit 40 (.int j)) = true then some (PyData.eqv (.int i) (.int j)) else none) = _
    simp [D.fit, PyData.eqv]
    by_cases h : i = j <;> simp [h]
  unfold bD
  rw [this]
theorem alike3 (p q : P3) : PySem.W.alike (enc3 p).data (enc3 q).data = true := by
  simp only [enc3, D.data, D.datas]
  simp [PySem.W.alike, PySem.W.alikeAll]
theorem alike2 (p q : P2) : PySem.W.alike (enc2 p).data (enc2 q).data = true := by
  simp only [enc2, D.data, D.datas]
  simp [PySem.W.alike, PySem.W.alikeAll]
theorem sortOk3 (cs : List P3) (hz : cs.length ≤ sizeLine) : sortOk (cs.map enc3) = true := by
  unfold sortOk
  rw [fits3 cs 38, Bool.true_and, List.length_map, decide_eq_true hz, Bool.and_true, Bool.and_eq_true]
  refine ⟨?_, ?_⟩
  · rw [List.all_eq_true]
    intro x hx
    rw [List.all_eq_true]
    intro y hy
    obtain ⟨p, _, rfl⟩ := List.mem_map.mp hx
    obtain ⟨q, _, rfl⟩ := List.mem_map.mp hy
    exact alike3 p q
  · rw [Bool.or_eq_true]
    left
    simp [enc3]
theorem sortOk2 (cs : List P2) (hz : cs.length ≤ sizeLine) : sortOk (cs.map enc2) = true := by
  unfold sortOk
  rw [fits2 cs 38, Bool.true_and, List.length_map, decide_eq_true hz, Bool.and_true, Bool.and_eq_true]
  refine ⟨?_, ?_⟩
  · rw [List.all_eq_true]
    intro x hx
    rw [List.all_eq_true]
    intro y hy
    obtain ⟨p, _, rfl⟩ := List.mem_map.mp hx
    obtain ⟨q, _, rfl⟩ := List.mem_map.mp hy
    exact alike2 p q
  · rw [Bool.or_eq_true]
    left
    simp [enc2]
section
variable {h : Hs} {n : Nat} {a b c high : Int} {cs : List P3} {L : Nat}
def bdOut : Sv := sSeq (sPar3 4 5 6 (aCons (eCall (args 2 [] (run tk)) (aCons (eVar 0) (aCons (eVar 1) aNil))) (aCons (eCall (args 2 [] (run tk)) (aCons (eVar 0) (aCons (eC (.int 4)) aNil))) (aCons (eCall (args 2 [] (run tk)) (aCons (eVar 0) (aCons (eC (.int 10)) aNil))) aNil))))
    (sFor (iRng1 (aCons (e2 addD (eC (.int 1)) (eCall (args 2 [] (run tk)) (aCons (eVar 0) (aCons (eC (.int 6)) aNil)))) aNil)) (gN 7) bdIn)
theorem three_takes {e : En} (hn : n < h.length) (hb : 0 ≤ b ∧ b < 2 ^ 60) (hc : 0 < c ∧ c < 2 ^ 50) (hh : 0 < high ∧ high < 1000) (hl : h.all (Ob.low h.length) = true) (h0 : e[0]? = some (some (.ref n))) (h1 : e[1]? = some (some (.int high))) :
    ∃ z y x a' b', (0 ≤ z ∧ z < high) ∧ (0 ≤ y ∧ y < 4) ∧ (0 ≤ x ∧ x < 10) ∧ (0 ≤ b' ∧ b' < 2 ^ 60) ∧
      (aCons (eCall (args 2 [] (run tk)) (aCons (eVar 0) (aCons (eVar 1) aNil))) (aCons (eCall (args 2 [] (run tk)) (aCons (eVar 0) (aCons (eC (.int 4)) aNil))) (aCons (eCall (args 2 [] (run tk)) (aCons (eVar 0) (aCons (eC (.int 10)) aNil))) aNil))) e (St h n a b c cs) = .ok [.int z, .int y, .int x] (St h n a' b' c cs) := by
  obtain ⟨z, a1, b1, z0, z1, hb1, q1⟩ := take_ev (cs := cs) (a := a) (M := eVar 1) h0 (fun _ => var_ok h1) hn hb hc (show 0 < high ∧ high < 1073741824 by omega) hl
  obtain ⟨y, a2, b2, y0, y1, hb2, q2⟩ := take_ev (cs := cs) (a := a1) (M := eC (.int 4)) h0 (fun _ => rfl) hn hb1 hc (show (0 : Int) < 4 ∧ (4 : Int) < 1073741824 by decide) hl
  obtain ⟨x, a3, b3, x0, x1, hb3, q3⟩ := take_ev (cs := cs) (a := a2) (M := eC (.int 10)) h0 (fun _ => rfl) hn hb2 hc (show (0 : Int) < 10 ∧ (10 : Int) < 1073741824 by decide) hl
  exact ⟨z, y, x, a3, b3, ⟨z0, z1⟩, ⟨y0, y1⟩, ⟨x0, x1⟩, hb3, aCons_ok q1 (aCons_ok q2 (aCons_ok q3 rfl))⟩
theorem bd_outer {k : Nat} (hk : k ≤ 9) {e : En} (hn : n < h.length) (hb : 0 ≤ b ∧ b < 2 ^ 60) (hc : 0 < c ∧ c < 2 ^ 50) (hh : 0 < high ∧ high < 1000) (hl : h.all (Ob.low h.length) = true) (E : E0 h n high e) (g : Gc high 1 cs) :
    ∃ e' a' b' cs', forL (gN 3) bdOut (rng 0 k) e (St h n a b c cs) = .nx e' (St h n a' b' c cs') ∧ E0 h n high e' ∧ (0 ≤ b' ∧ b' < 2 ^ 60) ∧ Gc high 60 cs' := by
  obtain ⟨e', st', r, E', a', b', cs', hb', rfl, g'⟩ := forL_inv (G := gN 3) (S := bdOut) (fun i e st => E0 h n high e ∧ ∃ a b cs, (0 ≤ b ∧ b < 2 ^ 60) ∧ st = St h n a b c cs ∧ Gc high (1 + 6 * i) cs) (rng 0 k) 0 e (St h n a b c cs) (fun j d e st hj ⟨E, a, b, cs, hb, hst, g⟩ => by
    subst hst
    obtain ⟨hjk, rfl⟩ := rng_get k 0 j d hj
    rw [Nat.zero_add] at g ⊢
    refine ⟨_, rfl, ?_⟩
    have E3 := E.set 3 (by omega) (some (.int (0 + (j : Int))))
    obtain ⟨z, y, x, a1, b1, hz, hy, hx, hb1, q1⟩ := three_takes (cs := cs) (a := a) hn hb hc hh hl E3.n0 E3.n1
    have T := E3.three z y x
    obtain ⟨v, a2, b2, v0, v1, hb2, q2⟩ := take_ev (cs := cs) (a := a1) (M := eC (.int 6)) T.e0.n0 (fun _ => rfl) hn hb1 hc (show (0 : Int) < 6 ∧ (6 : Int) < 1073741824 by decide) hl
    obtain ⟨e3, cs3, r3, E3', g3⟩ := bd_inner (a := a2) (b := b2) (c := c) (k := (1 + v).toNat) hz hy hx T g (by omega)
    have rr := rng1_ok (A := aCons (e2 addD (eC (.int 1)) (eCall (args 2 [] (run tk)) (aCons (eVar 0) (aCons (eC (.int 6)) aNil)))) aNil) (aCons_ok (e2_ok rfl q2 addD_ii) rfl) (show -(2 ^ 62) ≤ 1 + v ∧ 1 + v < 2 ^ 62 by omega)
    exact ⟨e3, _, .inl ((seq_nx (par3_nx q1)).trans ((for_of rr).trans r3)), E3', a2, b2, cs3, hb2, rfl, g3.more (by omega)⟩) ⟨E, a, b, cs, hb, rfl, g⟩
  exact ⟨e', a', b', cs', r, E', hb', g'.more (by rw [rng_length]; omega)⟩
def addAll (cs : List P3) : List P3 → List P3
  | [] => cs
  | x :: xs => addAll (cadd cs (0, x.2.1, x.2.2)) xs
theorem Gc.all {xs : List P3} (hx : ∀ x ∈ xs, okc high x) (hh : 0 < high) : ∀ {cs : List P3} {L : Nat}, Gc high L cs → Gc high (L + xs.length) (addAll cs xs) := by
  induction xs with
  | nil => intro cs L g; exact g
  | cons x xs ih =>
    intro cs L g
    have ok := hx x (by simp)
    have := ih (fun y hy => hx y (List.mem_cons_of_mem _ hy)) (g.add (x := (0, x.2.1, x.2.2)) ⟨⟨Int.le_refl _, hh⟩, ok.2⟩)
    exact this.more (by simp; omega)
theorem pairs_of_cs : ∀ xs : List P3, pairsOf (xs.map fun c => .tup [enc3 (0, c.2.1, c.2.2), .bl true]) = some (xs.map fun c => (enc3 (0, c.2.1, c.2.2), .bl true))
  | [] => rfl
  | x :: xs => by
    show (if (enc3 (0, x.2.1, x.2.2)).isKey = true then (pairsOf (xs.map fun c => D.tup [enc3 (0, c.2.1, c.2.2), .bl true])).map ((enc3 (0, x.2.1, x.2.2), D.bl true) :: ·) else none) = _
    rw [if_pos (keyed3.ok _), pairs_of_cs xs]
    rfl
theorem dupd_cs : ∀ (xs cs : List P3), dupd (kd enc3 cs) (xs.map fun c => (enc3 (0, c.2.1, c.2.2), .bl true)) = kd enc3 (addAll cs xs)
  | [], _ => rfl
  | x :: xs, cs => by
    show dupd (dset (kd enc3 cs) (enc3 (0, x.2.1, x.2.2)) (.bl true)) (xs.map fun c => (enc3 (0, c.2.1, c.2.2), .bl true)) = _
    rw [dset_kd keyed3, dupd_cs xs]
    rfl
theorem allOf_St : allOf (St h n a b c cs) (.ref h.length) = some (cs.map enc3) := by
  unfold allOf
  have e1 : seqOf (St h n a b c cs) (.ref h.length) = none := by
    show (match (St h n a b c cs)[h.length]? with | some (.lst xs) => some xs | _ => none) = _
    rw [St_d]
  rw [e1]
  dsimp only
  rw [St_d]
  dsimp only
  rw [kd_keys]
end
end Lb

set_option Elab.async false
set_option linter.all false
set_option maxRecDepth 100000
set_option maxHeartbeats 4000000
namespace Lb
open PySem PySem.Spec PyProof.Rows L2
section
variable {h : Hs} {n : Nat} {a b c high : Int} {cs : List P3} {L : Nat}
theorem wipeE_length' (e : En) (is : List Nat) : (wipeE e is).length = e.length := wipeE_length e is
theorem call_listAL {e : En} (h2 : e[2]? = some (some (.ref h.length))) : iVal (eFroz (lCall listAL (aCons (eVar 2) aNil))) e (St h n a b c cs) = .ok (.fix (cs.map enc3)) (St h n a b c cs) := by
  have q : lCall listAL (aCons (eVar 2) aNil) e (St h n a b c cs) = .ok (cs.map enc3) (St h n a b c cs) := by
    unfold lCall
    rw [aCons_ok (var_ok h2) rfl]
    show (match allOf (St h n a b c cs) (.ref h.length) with | some ys => R.ok ys (St h n a b c cs) | none => .bad) = _
    rw [allOf_St]
  unfold iVal
  rw [froz_of q]
  rfl
theorem upd_arg {e : En} (E : E0 h n high e) (hz : cs.length ≤ sizeLine) :
    lComp (iVal (eFroz (lCall listAL (aCons (eVar 2) aNil)))) [4, 5, 6] (gTp [(gN 4), (gN 5), (gN 6)]) tTrue (eTup (aCons (eTup (aCons (eC (.int 0)) (aCons (eVar 5) (aCons (eVar 6) aNil)))) (aCons (eC (.bl true)) aNil))) e (St h n a b c cs) = .ok (cs.map fun c => .tup [enc3 (0, c.2.1, c.2.2), .bl true]) (St h n a b c cs) := by
  have q := lComp_pure (is := [4, 5, 6]) (G := gTp [(gN 4), (gN 5), (gN 6)]) (T := tTrue) (A := eTup (aCons (eTup (aCons (eC (.int 0)) (aCons (eVar 5) (aCons (eVar 6) aNil)))) (aCons (eC (.bl true)) aNil))) (fun _ : P3 => true) (fun c => .tup [enc3 (0, c.2.1, c.2.2), .bl true]) (call_listAL (a := a) (b := b) (c := c) (n := n) (cs := cs) E.n2) hz (fun x _ => by
    refine ⟨_, rfl, fun acc => ⟨rfl, fun _ => ?_⟩⟩
    have hw : (wipeE e [4, 5, 6]).length = 8 := by rw [wipeE_length]; exact E.len
    have n5 : ((((wipeE e [4, 5, 6]).set 4 (some (.int x.1))).set 5 (some (.int x.2.1))).set 6 (some (.int x.2.2)))[5]? = some (some (.int x.2.1)) := by rw [List.getElem?_set_ne (by omega), List.getElem?_set_self (by simp [hw])]
    have n6 : ((((wipeE e [4, 5, 6]).set 4 (some (.int x.1))).set 5 (some (.int x.2.1))).set 6 (some (.int x.2.2)))[6]? = some (some (.int x.2.2)) := List.getElem?_set_self (by simp [hw])
    exact tup_ok (aCons_ok (tup_ok (aCons_ok rfl (aCons_ok (var_ok n5) (aCons_ok (var_ok n6) rfl))) (by show 3 ≤ sizeLine; decide)) (aCons_ok rfl rfl)) (by show 2 ≤ sizeLine; decide)) (fun _ _ _ => rfl)
  rw [q, List.filter_eq_self.mpr fun _ _ => rfl]
theorem upd_St (g : Gc high L cs) (hL : L < 1000) : updD (.ref h.length) [.lst (cs.map fun c => .tup [enc3 (0, c.2.1, c.2.2), .bl true])] (St h n a b c cs) = .ok .non (St h n a b c (addAll cs cs)) := by
  have hz : (kd enc3 cs).length + (cs.map fun c : P3 => (enc3 (0, c.2.1, c.2.2), D.bl true)).length ≤ sizeLine := by
    rw [kd_length, List.length_map]
    have : (2000 : Nat) < sizeLine := by decide
    have := g.len
    omega
  show (match (St h n a b c cs)[h.length]? with
    | some (.dict kvs) => (match some (cs.map fun c : P3 => D.tup [enc3 (0, c.2.1, c.2.2), .bl true]) with
      | some items => (match pairsOf items with
        | some ps => if kvs.length + ps.length ≤ sizeLine then R.ok D.non ((St h n a b c cs).set h.length (.dict (dupd kvs ps))) else .bad
        | none => .bad)
      | none => .bad)
    | _ => .bad) = _
  rw [St_d]
  dsimp only
  rw [pairs_of_cs]
  dsimp only
  rw [if_pos hz, dupd_cs, St_put]
theorem drop_meth {T : String} {F : D → List D → Hs → R D} {A : Ev} {AS : Es} {e : En} {h h1 h2 h3 : Hs} {d r : D} {ds : List D} (q1 : A e h = .ok d h1) (qt : tyD T h1 d = true) (q2 : AS e h1 = .ok ds h2) (q3 : F d ds h2 = .ok r h3) : sDrop (eMeth T F A AS) e h = .nx e h3 := by
  refine drop_nx (d := r) ?_
  unfold eMeth
  rw [q1]
  show (if tyD T h1 d = true then (AS e h1).bind fun ds h2 => F d ds h2 else .bad) = _
  rw [if_pos qt, q2]
  exact q3
theorem bd_end {e : En} (E : E0 h n high e) (g : Gc high L cs) (hL : L < 1000) : ∃ m : List P3, m ≠ [] ∧ m.Pairwise lt3 ∧ (∀ x ∈ m, okc high x) ∧ m.length ≤ L ∧ sRet (eCall tupleD (aCons (eFroz (lCall sortedL (aCons (eVar 2) aNil))) aNil)) e (St h n a b c cs) = .rt (.tup (m.map enc3)) (St h n a b c cs) := by
  obtain ⟨m, e1, pw, pm⟩ := srt_enc ord3 data3 g.nd
  refine ⟨m, fun z => ?_, pw, fun x hx => g.ok x (pm.mem_iff.mp hx), by rw [pm.length_eq]; exact g.len, ?_⟩
  · rw [z] at pm
    exact g.ne pm.symm.eq_nil
  · have hz : cs.length ≤ sizeLine := by
      have : (1000 : Nat) < sizeLine := by decide
      have := g.len
      omega
    have q : lCall sortedL (aCons (eVar 2) aNil) e (St h n a b c cs) = .ok (m.map enc3) (St h n a b c cs) := by
      unfold lCall
      rw [aCons_ok (var_ok E.n2) rfl]
      show (match allOf (St h n a b c cs) (.ref h.length) with | some ys => if sortOk ys = true then R.ok (srt ys) (St h n a b c cs) else .bad | none => .bad) = _
      rw [allOf_St]
      dsimp only
      rw [if_pos (sortOk3 cs hz), e1]
    exact ret_rt (eCall_ok (aCons_ok (froz_of q) rfl) rfl)
theorem St0 (hn : h[n]? = some (Wl a b c)) : h ++ [.dict []] = St h n a b c [] := by
  unfold St
  obtain ⟨hl, e⟩ := List.getElem?_eq_some_iff.mp hn
  rw [← e, List.set_getElem_self]
  rfl
theorem bd_spec (hn : h[n]? = some (Wl a b c)) (hb : 0 ≤ b ∧ b < 2 ^ 60) (hc : 0 < c ∧ c < 2 ^ 50) (hh : 0 < high ∧ high < 1000) (hl : h.all (Ob.low h.length) = true) :
    ∃ a' b' m, (0 ≤ b' ∧ b' < 2 ^ 60) ∧ m ≠ [] ∧ m.Pairwise lt3 ∧ (∀ x ∈ m, okc high x) ∧ m.length ≤ 200 ∧ args 2 [] (run bd) [.ref n, .int high] h = .ok (.tup (m.map enc3)) (h.set n (Wl a' b' c)) := by
  have hnl : n < h.length := (List.getElem?_eq_some_iff.mp hn).1
  -- the first place
  obtain ⟨z, y, x, a1, b1, hz, hy, hx, hb1, q1⟩ := three_takes (cs := []) (a := a) (e := [some (.ref n), some (.int high), none, none, none, none, none, none]) hnl hb hc hh hl rfl rfl
  have zero : (0 : Nat) < sizeLine := by decide
  have put0 : dputD h.length (enc3 (z, y, x)) (.bl true) (St h n a1 b1 c []) = .ok () (St h n a1 b1 c [(z, y, x)]) := by
    unfold dputD
    rw [St_d]
    dsimp only
    rw [kd_length, keyed3.ok]
    rw [if_pos (by show (true && decide (0 < sizeLine)) = true; rw [decide_eq_true zero]; rfl), dset_kd keyed3, St_put]
    rfl
  have d0 : eDict1 (eTup (aCons (eCall (args 2 [] (run tk)) (aCons (eVar 0) (aCons (eVar 1) aNil))) (aCons (eCall (args 2 [] (run tk)) (aCons (eVar 0) (aCons (eC (.int 4)) aNil))) (aCons (eCall (args 2 [] (run tk)) (aCons (eVar 0) (aCons (eC (.int 10)) aNil))) aNil)))) (eC (.bl true)) [some (.ref n), some (.int high), none, none, none, none, none, none] h = .ok (.ref h.length) (St h n a1 b1 c [(z, y, x)]) := by
    unfold eDict1
    rw [St0 hn, tup_ok q1 (by show 3 ≤ sizeLine; decide)]
    show (match (St h n a1 b1 c [])[h.length]? with
      | some (.dict []) => (match dputD h.length (enc3 (z, y, x)) (.bl true) (St h n a1 b1 c []) with
        | .ok _ h3 => R.ok (D.ref h.length) h3
        | _ => .bad)
      | _ => .bad) = _
    rw [St_d, show kd enc3 [] = [] from rfl]
    dsimp only
    rw [put0]
  have g0 : Gc high 1 [(z, y, x)] := ⟨by simp, by simp, fun c hc => by rw [List.mem_singleton] at hc; subst hc; exact ⟨hz, hy, hx⟩, by simp⟩
  have EE : E0 h n high ([some (.ref n), some (.int high), none, none, none, none, none, none].set 2 (some (.ref h.length))) := ⟨rfl, rfl, rfl, rfl⟩
  -- the rows
  obtain ⟨v, a2, b2, v0, v1, hb2, q2⟩ := take_ev (cs := [(z, y, x)]) (a := a1) (M := eC (.int 9)) EE.n0 (fun _ => rfl) hnl hb1 hc (show (0 : Int) < 9 ∧ (9 : Int) < 1073741824 by decide) hl
  obtain ⟨e3, a3, b3, cs3, r3, E3, hb3, g3⟩ := bd_outer (a := a2) (k := v.toNat) (by omega) hnl hb2 hc hh hl EE g0
  have rr := rng1_ok (A := aCons (eCall (args 2 [] (run tk)) (aCons (eVar 0) (aCons (eC (.int 9)) aNil))) aNil) (aCons_ok q2 rfl) (show -(2 ^ 62) ≤ v ∧ v < 2 ^ 62 by omega)
  -- the shadow
  obtain ⟨u, a4, b4, u0, u1, hb4, q4⟩ := take_ev (cs := cs3) (a := a3) (M := eC (.int 3)) E3.n0 (fun _ => rfl) hnl hb3 hc (show (0 : Int) < 3 ∧ (3 : Int) < 1073741824 by decide) hl
  have tst : tE (e2 eqD (eCall (args 2 [] (run tk)) (aCons (eVar 0) (aCons (eC (.int 3)) aNil))) (eC (.int 0))) e3 (St h n a3 b3 c cs3) = .ok (decide (u = 0)) (St h n a4 b4 c cs3) := tE_bl (e2_ok q4 rfl eqD_ii)
  have cond : ∃ cs4, Gc high 200 cs4 ∧ (sIf (tE (e2 eqD (eCall (args 2 [] (run tk)) (aCons (eVar 0) (aCons (eC (.int 3)) aNil))) (eC (.int 0)))) (sDrop (eMeth "dict" updD (eVar 2) (aCons (eFroz (lComp (iVal (eFroz (lCall listAL (aCons (eVar 2) aNil)))) [4, 5, 6] (gTp [(gN 4), (gN 5), (gN 6)]) tTrue (eTup (aCons (eTup (aCons (eC (.int 0)) (aCons (eVar 5) (aCons (eVar 6) aNil)))) (aCons (eC (.bl true)) aNil))))) aNil))) sPass) e3 (St h n a3 b3 c cs3) = .nx e3 (St h n a4 b4 c cs4) := by
    have hz3 : cs3.length ≤ sizeLine := by
      have : (1000 : Nat) < sizeLine := by decide
      have := g3.len
      omega
    by_cases hu : u = 0
    · rw [decide_eq_true hu] at tst
      refine ⟨addAll cs3 cs3, (g3.all g3.ok hh.1).more (by have := g3.len; omega), (if_t tst).trans ?_⟩
      exact drop_meth (var_ok E3.n2) (by unfold tyD; dsimp only; rw [St_d]; rfl) (aCons_ok (froz_of (upd_arg E3 hz3)) rfl) (upd_St g3 (by omega))
    · rw [decide_eq_false hu] at tst
      exact ⟨cs3, g3.more (by omega), (if_f tst).trans rfl⟩
  obtain ⟨cs4, g4, q5⟩ := cond
  obtain ⟨m, mne, mpw, mok, ml, q6⟩ := bd_end (a := a4) (b := b4) (c := c) E3 g4 (by omega)
  refine ⟨a4, b4, m, hb4, mne, mpw, mok, ml, ?_⟩
  have whole : bd [.ref n, .int high] h = .ok (.tup (m.map enc3)) (St h n a4 b4 c cs4) :=
    fn_rt ((seq_nx (set_nx d0)).trans ((seq_nx ((for_of rr).trans r3)).trans ((seq_nx q5).trans q6)))
  show run bd ([.ref n, .int high] ++ []) h = _
  rw [List.append_nil]
  unfold run ends
  rw [whole]
  have lw : (D.tup (m.map enc3)).low h.length = true := by
    show D.lows h.length (m.map enc3) = true
    exact lows_all fun d hd => by obtain ⟨p, _, rfl⟩ := List.mem_map.mp hd; rfl
  have ef : froz (St h n a4 b4 c cs4) h.length (.tup (m.map enc3)) = some (.tup (m.map enc3)) := by unfold froz; rw [if_pos lw]
  have et : (St h n a4 b4 c cs4).take h.length = h.set n (Wl a4 b4 c) := by unfold St; rw [List.take_left' (by simp)]
  have tr : trunc h (St h n a4 b4 c cs4) = some (h.set n (Wl a4 b4 c)) := by
    unfold trunc
    rw [et]
    by_cases hs : hSame (h.set n (Wl a4 b4 c)) h = true
    · rw [if_pos hs, hSame_eq _ _ hs]
    · rw [if_neg hs, if_pos (all_set hl (Wl_low _))]
  dsimp only
  rw [ef, tr]
end
end Lb

set_option Elab.async false
set_option linter.all false
set_option maxRecDepth 100000
set_option maxHeartbeats 4000000
namespace Lb
open PySem PySem.Spec PyProof.Rows L2
/-! ### evaluation by simp -/
def sqF (f : Fl) (U : Sv) : Fl := match f with
  | .nx e h => U e h
  | r => r
def fnE (f : Fl) : R D := match f with
  | .nx _ h1 => .ok .non h1
  | .rt d h1 => .ok d h1
  | .exc c _ h1 => .exc c h1
  | _ => .bad
def vr (o : Option (Option D)) (h : Hs) : R D := match o with
  | some (some d) => .ok d h
  | _ => .bad
def szt {α : Type} (n : Nat) (r : R α) : R α := if n ≤ sizeLine then r else .bad
section
variable {e : En} {h h1 h2 : Hs} {S U : Sv} {A B C : Ev} {T T2 : Ts} {d x y z : D} {i j n m : Nat} {AS BS : Es} {L : Ln} {I : Iv} {G : Tg} {P Q : Po} {xs ys : List D}
@[simp] theorem sq_nx : sqF (.nx e h) U = U e h := rfl
@[simp] theorem sq_rt : sqF (.rt d h) U = .rt d h := rfl
@[simp] theorem sq_bk : sqF (.bk e h) U = .bk e h := rfl
@[simp] theorem sq_ct : sqF (.ct e h) U = .ct e h := rfl
@[simp] theorem sq_ex {c : Exc} : sqF (.exc c e h) U = .exc c e h := rfl
@[simp] theorem fe_nx : fnE (.nx e h) = .ok .non h := rfl
@[simp] theorem fe_rt : fnE (.rt d h) = .ok d h := rfl
@[simp] theorem fe_ex {c : Exc} : fnE (.exc c e h) = .exc c h := rfl
@[simp] theorem vr_s : vr (some (some d)) h = .ok d h := rfl
@[simp] theorem v_seq : sSeq S U e h = sqF (S e h) U := rfl
@[simp] theorem v_set : sSet i A e h = (A e h).st e fun d h1 => .nx (e.set i (some d)) h1 := rfl
@[simp] theorem v_ret : sRet A e h = (A e h).st e fun d h1 => .rt d h1 := rfl
@[simp] theorem v_retN : sRetN e h = .rt .non h := rfl
@[simp] theorem v_drop : sDrop A e h = (A e h).st e fun d h1 => .nx e h1 := rfl
@[simp] theorem v_if : sIf T S U e h = (T e h).st e fun b h1 => if b then S e h1 else U e h1 := rfl
@[simp] theorem v_pass : sPass e h = .nx e h := rfl
@[simp] theorem v_brk : sBrk e h = .bk e h := rfl
@[simp] theorem v_cnt : sCnt e h = .ct e h := rfl
@[simp] theorem v_setLt : sSetL i L true = sSet i (eMut L) := rfl
@[simp] theorem v_setLf : sSetL i L false = sSet i (eFroz L) := rfl
@[simp] theorem v_par2 : sPar2 i j AS e h = (AS e h).st e fun ds h1 => match ds with | [x, y] => .nx ((e.set i (some x)).set j (some y)) h1 | _ => .bad := rfl
@[simp] theorem v_par3 : sPar3 i j n AS e h = (AS e h).st e fun ds h1 => match ds with | [x, y, z] => .nx (((e.set i (some x)).set j (some y)).set n (some z)) h1 | _ => .bad := rfl
@[simp] theorem v_asg : sAsg A G e h = (A e h).st e fun d h1 => match G d e with | some e1 => .nx e1 h1 | none => .bad := rfl
@[simp] theorem v_put : sPut A B C e h = (A e h).st e fun v h1 => (B e h1).st e fun o h2 => (C e h2).st e fun i h3 => (setD o i v h3).st e fun _ h4 => .nx e h4 := rfl
@[simp] theorem v_for : sFor I G S e h = (I e h).st e fun s h1 => forS G S s e h1 := rfl
@[simp] theorem v_forS : forS G S (.fix xs) e h = forL G S xs e h := rfl
@[simp] theorem v_forN : forL G S [] e h = .nx e h := rfl
@[simp] theorem v_fn {ds : List D} : fnB n S ds h = fnE (S (ds.map some ++ List.replicate (n - ds.length) none) h) := rfl
@[simp] theorem v_var : eVar i e h = vr e[i]? h := by unfold eVar vr; rfl
@[simp] theorem v_c : eC d e h = .ok d h := rfl
@[simp] theorem v_e1 {F : D → Hs → R D} : e1 F A e h = (A e h).bind fun x h1 => F x h1 := rfl
@[simp] theorem v_e2 {F : D → D → Hs → R D} : e2 F A B e h = (A e h).bind fun x h1 => (B e h1).bind fun y h2 => F x y h2 := rfl
@[simp] theorem v_nil : aNil e h = .ok [] h := rfl
@[simp] theorem v_cons : aCons A AS e h = (A e h).bind fun x h1 => (AS e h1).bind fun xs h2 => .ok (x :: xs) h2 := rfl
@[simp] theorem v_tup : eTup AS e h = (AS e h).bind fun xs h1 => szt xs.length (.ok (.tup xs) h1) := rfl
@[simp] theorem v_froz : eFroz L e h = (L e h).bind fun xs h1 => .ok (.lst xs) h1 := rfl
@[simp] theorem v_mut : eMut L e h = (L e h).bind fun xs h1 => .ok (.ref h1.length) (h1 ++ [.lst xs]) := rfl
@[simp] theorem v_disp : lDisp AS e h = (AS e h).bind fun xs h1 => szt xs.length (.ok xs h1) := rfl
@[simp] theorem v_call {F : List D → Hs → R D} : eCall F AS e h = (AS e h).bind F := rfl
@[simp] theorem v_lcall {F : List D → Hs → R (List D)} : lCall F AS e h = (AS e h).bind F := rfl
@[simp] theorem v_callN {F : List D → List D → Hs → R D} : eCallN F AS BS e h = (AS e h).bind fun xs h1 => (BS e h1).bind fun zs h2 => F xs zs h2 := rfl
@[simp] theorem v_argsN {gD : List D → List D → List D} {F : Fn} : argsN n m gD F xs ys h = if xs.length = n ∧ ys.length = m then F (gD xs ys) h else .bad := rfl
@[simp] theorem v_fzt {F : Fn} : fz true F = Lb.run F := rfl
@[simp] theorem v_fzf {F : Fn} : fz false F = F := rfl
@[simp] theorem v_tE : tE A e h = (A e h).bind tru := rfl
@[simp] theorem v_tNot : tNot T e h = (T e h).bind fun b h1 => .ok (!b) h1 := rfl
@[simp] theorem v_tAnd : tAnd T T2 e h = (T e h).bind fun b h1 => if b then T2 e h1 else .ok false h1 := rfl
@[simp] theorem v_tOr : tOr T T2 e h = (T e h).bind fun b h1 => if b then .ok true h1 else T2 e h1 := rfl
@[simp] theorem v_tTrue : tTrue e h = .ok true h := rfl
@[simp] theorem v_eAnd : eAnd A B e h = (A e h).bind fun x h1 => (tru x h1).bind fun b h2 => if b then B e h2 else .ok x h2 := rfl
@[simp] theorem v_eOr : eOr A B e h = (A e h).bind fun x h1 => (tru x h1).bind fun b h2 => if b then .ok x h2 else B e h2 := rfl
@[simp] theorem v_eNot : eNot A e h = (A e h).bind fun x h1 => (tru x h1).bind fun b h2 => .ok (.bl (!b)) h2 := rfl
@[simp] theorem v_eIf : eIf T A B e h = (T e h).bind fun b h1 => if b then A e h1 else B e h1 := rfl
@[simp] theorem v_chain {F1 F2 : D → D → Hs → R D} : eChain F1 F2 A B C e h = (A e h).bind fun x h1 => (B e h1).bind fun y h2 => (F1 x y h2).bind fun z h3 => chTail F2 C e y z h3 := rfl
@[simp] theorem v_cht {F2 : D → D → Hs → R D} {b : Bool} : chTail F2 C e y (.bl b) h = if b then (C e h).bind fun w h4 => F2 y w h4 else .ok (.bl false) h := by cases b <;> rfl
@[simp] theorem v_meth {T : String} {F : D → List D → Hs → R D} : eMeth T F A AS e h = (A e h).bind fun d h1 => if tyD T h1 d then (AS e h1).bind fun ds h2 => F d ds h2 else .bad := rfl
@[simp] theorem v_meth0 {T : String} {F : D → List D → Hs → R D} : eMeth0 T F A e h = (A e h).bind fun d h1 => if tyD T h1 d then F d [] h1 else .bad := rfl
@[simp] theorem v_no : pNo e h = .ok none h := rfl
@[simp] theorem v_some : pSome A e h = (A e h).bind fun x h1 => match x with | .int i => .ok (some i) h1 | _ => .bad := rfl
@[simp] theorem v_slice : eSlice A P Q e h = (A e h).bind fun x h1 => (P e h1).bind fun lo h2 => (Q e h2).bind fun hi h3 => sliceD x lo hi h3 := rfl
@[simp] theorem v_lslice : lSlice A P Q e h = (A e h).bind fun x h1 => (P e h1).bind fun lo h2 => (Q e h2).bind fun hi h3 => lSliceD x lo hi h3 := rfl
@[simp] theorem v_lrev : lRev A e h = (A e h).bind revLD := rfl
@[simp] theorem v_val : iVal A e h = (A e h).bind srcD := rfl
@[simp] theorem v_gN : gN i d e = some (e.set i (some d)) := rfl
@[simp] theorem v_gTp {gs : List Tg} : gTp gs (.tup xs) e = gAll gs xs e := rfl
@[simp] theorem v_gA0 : gAll [] [] e = some e := rfl
@[simp] theorem v_gA1 {g : Tg} {gs : List Tg} : gAll (g :: gs) (x :: xs) e = (g x e).bind (gAll gs xs) := rfl
@[simp] theorem tru_bl {b : Bool} : tru (.bl b) h = .ok b h := rfl
@[simp] theorem tru_non : tru .non h = .ok false h := rfl
@[simp] theorem tru_int {i : Int} : tru (.int i) h = .ok (decide (i ≠ 0)) h := by unfold tru truB; simp [bne]; rfl
@[simp] theorem tru_tup : tru (.tup xs) h = .ok (!xs.isEmpty) h := rfl
@[simp] theorem tru_lst : tru (.lst xs) h = .ok (!xs.isEmpty) h := rfl
@[simp] theorem srcD_tup : srcD (.tup xs) h = .ok (.fix xs) h := rfl
@[simp] theorem srcD_lst : srcD (.lst xs) h = .ok (.fix xs) h := rfl
@[simp] theorem op_add {i j : Int} : addD (.int i) (.int j) h = .ok (.int (i + j)) h := rfl
@[simp] theorem op_sub {i j : Int} : subD (.int i) (.int j) h = .ok (.int (i - j)) h := rfl
theorem eqB_ii {i j : Int} : eqB h (.int i) (.int j) = some (decide (i = j)) := by
  show (if (D.fit 40 (.int i) && D.fit 40 (.int j)) = true then some (PyData.eqv (.int i) (.int j)) else none) = _
  simp [D.fit, PyData.eqv]
  by_cases h : i = j <;> simp [h]
@[simp] theorem op_neg {i : Int} : negD (.int i) h = .ok (.int (-i)) h := rfl
@[simp] theorem op_eq {i j : Int} : bD eqB (.int i) (.int j) h = .ok (.bl (decide (i = j))) h := by unfold bD; rw [eqB_ii]
@[simp] theorem op_ne {i j : Int} : nbD eqB (.int i) (.int j) h = .ok (.bl (!decide (i = j))) h := by unfold nbD; rw [eqB_ii]
@[simp] theorem op_lt {i j : Int} : bD ltB (.int i) (.int j) h = .ok (.bl (decide (i < j))) h := rfl
@[simp] theorem op_gt {i j : Int} : gtD (.int i) (.int j) h = .ok (.bl (decide (j < i))) h := rfl
@[simp] theorem op_le {i j : Int} : leD (.int i) (.int j) h = .ok (.bl (decide (i ≤ j))) h := rfl
@[simp] theorem op_ge {i j : Int} : geD (.int i) (.int j) h = .ok (.bl (decide (j ≤ i))) h := rfl
@[simp] theorem op_is : isD x .non h = .ok (.bl (isNon x)) h := by cases x <;> rfl
@[simp] theorem op_isnt : isntD x .non h = .ok (.bl (!isNon x)) h := by cases x <;> rfl
@[simp] theorem len_tup : lenD [.tup xs] h = .ok (.int xs.length) h := rfl
@[simp] theorem len_lst : lenD [.lst xs] h = .ok (.int xs.length) h := rfl
@[simp] theorem tup_lst : tupleD [.lst xs] h = .ok (.tup xs) h := rfl
@[simp] theorem tup_tup : tupleD [.tup xs] h = .ok (.tup xs) h := rfl
@[simp] theorem lst_lst : listAL [.lst xs] h = .ok xs h := rfl
@[simp] theorem lst_tup : listAL [.tup xs] h = .ok xs h := rfl
@[simp] theorem ix_tup {i : Int} : ixD (.tup xs) (.int i) h = (match atI xs i with | some d => .ok d h | none => .bad) := rfl
@[simp] theorem ix_lst {i : Int} : ixD (.lst xs) (.int i) h = (match atI xs i with | some d => .ok d h | none => .bad) := rfl
@[simp] theorem rev_tup : revD (.tup xs) h = .ok (.tup xs.reverse) h := rfl
@[simp] theorem revL_lst : revLD (.lst xs) h = .ok xs.reverse h := rfl
end
@[simp] theorem szt_0 {α : Type} {r : R α} : szt 0 r = r := if_pos (by decide)
@[simp] theorem szt_1 {α : Type} {r : R α} : szt 1 r = r := if_pos (by decide)
@[simp] theorem szt_2 {α : Type} {r : R α} : szt 2 r = r := if_pos (by decide)
@[simp] theorem szt_3 {α : Type} {r : R α} : szt 3 r = r := if_pos (by decide)
@[simp] theorem szt_4 {α : Type} {r : R α} : szt 4 r = r := if_pos (by decide)
@[simp] theorem szt_5 {α : Type} {r : R α} : szt 5 r = r := if_pos (by decide)
@[simp] theorem szt_6 {α : Type} {r : R α} : szt 6 r = r := if_pos (by decide)
@[simp] theorem szt_7 {α : Type} {r : R α} : szt 7 r = r := if_pos (by decide)
@[simp] theorem szt_8 {α : Type} {r : R α} : szt 8 r = r := if_pos (by decide)
@[simp] theorem szt_9 {α : Type} {r : R α} : szt 9 r = r := if_pos (by decide)
@[simp] theorem szt_10 {α : Type} {r : R α} : szt 10 r = r := if_pos (by decide)
@[simp] theorem szt_11 {α : Type} {r : R α} : szt 11 r = r := if_pos (by decide)
@[simp] theorem szt_12 {α : Type} {r : R α} : szt 12 r = r := if_pos (by decide)
@[simp] theorem szt_13 {α : Type} {r : R α} : szt 13 r = r := if_pos (by decide)
@[simp] theorem szt_14 {α : Type} {r : R α} : szt 14 r = r := if_pos (by decide)
@[simp] theorem szt_15 {α : Type} {r : R α} : szt 15 r = r := if_pos (by decide)
@[simp] theorem szt_16 {α : Type} {r : R α} : szt 16 r = r := if_pos (by decide)
@[simp] theorem szt_17 {α : Type} {r : R α} : szt 17 r = r := if_pos (by decide)
@[simp] theorem szt_18 {α : Type} {r : R α} : szt 18 r = r := if_pos (by decide)
@[simp] theorem szt_19 {α : Type} {r : R α} : szt 19 r = r := if_pos (by decide)
@[simp] theorem szt_20 {α : Type} {r : R α} : szt 20 r = r := if_pos (by decide)
@[simp] theorem szt_21 {α : Type} {r : R α} : szt 21 r = r := if_pos (by decide)
@[simp] theorem szt_22 {α : Type} {r : R α} : szt 22 r = r := if_pos (by decide)
@[simp] theorem szt_23 {α : Type} {r : R α} : szt 23 r = r := if_pos (by decide)
@[simp] theorem szt_24 {α : Type} {r : R α} : szt 24 r = r := if_pos (by decide)
def isT (T : String) : D → Bool
  | .bl _ => T == "bool" || T == "int"
  | .int _ => T == "int"
  | .str _ => T == "str"
  | .tup _ => T == "tuple"
  | .lst _ => T == "list"
  | _ => false
def noRef : D → Bool
  | .ref _ => false
  | .scr _ => false
  | _ => true
@[simp] theorem isi_int_non {h : Hs} : isiD "int" .non h = .ok (.bl false) h := rfl
@[simp] theorem isi_int_bl {b : Bool} {h : Hs} : isiD "int" (.bl b) h = .ok (.bl true) h := rfl
@[simp] theorem isi_int_int {i : Int} {h : Hs} : isiD "int" (.int i) h = .ok (.bl true) h := rfl
@[simp] theorem isi_int_str {x : Str} {h : Hs} : isiD "int" (.str x) h = .ok (.bl false) h := rfl
@[simp] theorem isi_int_tup {xs : List D} {h : Hs} : isiD "int" (.tup xs) h = .ok (.bl false) h := rfl
@[simp] theorem isi_int_lst {xs : List D} {h : Hs} : isiD "int" (.lst xs) h = .ok (.bl false) h := rfl
@[simp] theorem isi_bool_non {h : Hs} : isiD "bool" .non h = .ok (.bl false) h := rfl
@[simp] theorem isi_bool_bl {b : Bool} {h : Hs} : isiD "bool" (.bl b) h = .ok (.bl true) h := rfl
@[simp] theorem isi_bool_int {i : Int} {h : Hs} : isiD "bool" (.int i) h = .ok (.bl false) h := rfl
@[simp] theorem isi_bool_str {x : Str} {h : Hs} : isiD "bool" (.str x) h = .ok (.bl false) h := rfl
@[simp] theorem isi_bool_tup {xs : List D} {h : Hs} : isiD "bool" (.tup xs) h = .ok (.bl false) h := rfl
@[simp] theorem isi_bool_lst {xs : List D} {h : Hs} : isiD "bool" (.lst xs) h = .ok (.bl false) h := rfl
@[simp] theorem isi_str_non {h : Hs} : isiD "str" .non h = .ok (.bl false) h := rfl
@[simp] theorem isi_str_bl {b : Bool} {h : Hs} : isiD "str" (.bl b) h = .ok (.bl false) h := rfl
@[simp] theorem isi_str_int {i : Int} {h : Hs} : isiD "str" (.int i) h = .ok (.bl false) h := rfl
@[simp] theorem isi_str_str {x : Str} {h : Hs} : isiD "str" (.str x) h = .ok (.bl true) h := rfl
@[simp] theorem isi_str_tup {xs : List D} {h : Hs} : isiD "str" (.tup xs) h = .ok (.bl false) h := rfl
@[simp] theorem isi_str_lst {xs : List D} {h : Hs} : isiD "str" (.lst xs) h = .ok (.bl false) h := rfl
@[simp] theorem isi_tuple_non {h : Hs} : isiD "tuple" .non h = .ok (.bl false) h := rfl
@[simp] theorem isi_tuple_bl {b : Bool} {h : Hs} : isiD "tuple" (.bl b) h = .ok (.bl false) h := rfl
@[simp] theorem isi_tuple_int {i : Int} {h : Hs} : isiD "tuple" (.int i) h = .ok (.bl false) h := rfl
@[simp] theorem isi_tuple_str {x : Str} {h : Hs} : isiD "tuple" (.str x) h = .ok (.bl false) h := rfl
@[simp] theorem isi_tuple_tup {xs : List D} {h : Hs} : isiD "tuple" (.tup xs) h = .ok (.bl true) h := rfl
@[simp] theorem isi_tuple_lst {xs : List D} {h : Hs} : isiD "tuple" (.lst xs) h = .ok (.bl false) h := rfl
@[simp] theorem isi_list_non {h : Hs} : isiD "list" .non h = .ok (.bl false) h := rfl
@[simp] theorem isi_list_bl {b : Bool} {h : Hs} : isiD "list" (.bl b) h = .ok (.bl false) h := rfl
@[simp] theorem isi_list_int {i : Int} {h : Hs} : isiD "list" (.int i) h = .ok (.bl false) h := rfl
@[simp] theorem isi_list_str {x : Str} {h : Hs} : isiD "list" (.str x) h = .ok (.bl false) h := rfl
@[simp] theorem isi_list_tup {xs : List D} {h : Hs} : isiD "list" (.tup xs) h = .ok (.bl false) h := rfl
@[simp] theorem isi_list_lst {xs : List D} {h : Hs} : isiD "list" (.lst xs) h = .ok (.bl true) h := rfl
end Lb

set_option Elab.async false
set_option linter.all false
set_option maxRecDepth 100000
set_option maxHeartbeats 4000000
namespace Lb
open PySem PySem.Spec PyProof.Rows L2
/-! ### the defs of the program and of the laws, once for all laws (printed by pf.py) -/
def p_is_tuple : Fn := fnB 2 ((sRet (eAnd (e1 (isiD "tuple") (eVar 0)) (e2 eqD (eCall lenD (aCons (eVar 0) aNil)) (eVar 1)))))
def p_is_int : Fn := fnB 1 ((sRet (eAnd (e1 (isiD "int") (eVar 0)) (eNot (e1 (isiD "bool") (eVar 0))))))
def p_is_whole : Fn := fnB 3 ((sRet (eAnd (eCallN (argsN 1 0 (fun a _ => a) (fz true p_is_int)) (aCons (eVar 0) aNil) aNil) (eChain leD leD (eVar 1) (eVar 0) (eVar 2)))))
def pc_TOP : D := (.int 7)
def pc_EDGE : D := (.int 9)
def p_is_cell : Fn := fnB 1 ((sSeq (sIf (tOr (tNot (tE (eCallN (argsN 2 0 (fun a _ => a) (fz true p_is_tuple)) (aCons (eVar 0) (aCons (eC (.int 3)) aNil)) aNil))) (tNot (tE (eCallN (argsN 3 0 (fun a _ => a) (fz true p_is_whole)) (aCons (e2 ixD (eVar 0) (eC (.int 0))) (aCons (eC (.int 0)) (aCons (eC pc_TOP) aNil))) aNil)))) (sRet (eC (.bl false))) sPass)
    (sRet (eAnd (eCallN (argsN 3 0 (fun a _ => a) (fz true p_is_whole)) (aCons (e2 ixD (eVar 0) (eC (.int 1))) (aCons (eC (.int 0)) (aCons (eC pc_EDGE) aNil))) aNil) (eCallN (argsN 3 0 (fun a _ => a) (fz true p_is_whole)) (aCons (e2 ixD (eVar 0) (eC (.int 2))) (aCons (eC (.int 0)) (aCons (eC pc_EDGE) aNil))) aNil)))))
def p_rising : Fn := fnB 2 ((sRet (eCall allD (aCons (eFroz (lComp (iRng1 (aCons (e2 subD (eCall lenD (aCons (eVar 0) aNil)) (eC (.int 1))) aNil)) [1] (gN 1) tTrue (e2 ltD (e2 ixD (eVar 0) (eVar 1)) (e2 ixD (eVar 0) (e2 addD (eVar 1) (eC (.int 1))))))) aNil))))
def p_are_cells : Fn := fnB 2 ((sRet (eAnd (e1 (isiD "tuple") (eVar 0)) (eAnd (eCall allD (aCons (eFroz (lComp (iVal (eVar 0)) [1] (gN 1) tTrue (eCallN (argsN 1 0 (fun a _ => a) (fz true p_is_cell)) (aCons (eVar 1) aNil) aNil))) aNil)) (eCallN (argsN 1 0 (fun a _ => a) (fz true p_rising)) (aCons (eVar 0) aNil) aNil)))))
def pc_MOST_CELLS : D := (.int 200)
def p_is_body : Fn := fnB 1 ((sRet (eAnd (eCallN (argsN 1 0 (fun a _ => a) (fz true p_are_cells)) (aCons (eVar 0) aNil) aNil) (eChain leD leD (eC (.int 1)) (eCall lenD (aCons (eVar 0) aNil)) (eC pc_MOST_CELLS)))))
def pc_SIDES : D := (.tup [(.tup [(.int 0), (.int 1)]), (.tup [(.int 0), (.int (-1))]), (.tup [(.int 1), (.int 0)]), (.tup [(.int (-1)), (.int 0)])])
def p_beside : Fn := fnB 6 ((sSeq (sAsg (eVar 0) (gTp [(gN 1), (gN 2), (gN 3)]))
    (sRet (e2 addD (eFroz (lComp (iVal (eC pc_SIDES)) [4, 5] (gTp [(gN 4), (gN 5)]) tTrue (eTup (aCons (eVar 1) (aCons (e2 addD (eVar 2) (eVar 4)) (aCons (e2 addD (eVar 3) (eVar 5)) aNil)))))) (eFroz (lDisp (aCons (eTup (aCons (e2 addD (eVar 1) (eC (.int 1))) (aCons (eVar 2) (aCons (eVar 3) aNil)))) (aCons (eTup (aCons (e2 subD (eVar 1) (eC (.int 1))) (aCons (eVar 2) (aCons (eVar 3) aNil)))) aNil))))))))
def p_pieces : Fn := fnB 7 ((sSeq (sPar2 1 2 (aCons (eDComp (iVal (eVar 0)) [3] (gN 3) tTrue (eVar 3) (eC (.bl true))) (aCons (eMut (lDisp aNil)) aNil)))
    (sSeq (sFor (iVal (eVar 0)) (gN 3) (sIf (tE (e2 inD (eVar 3) (eVar 1))) (sSeq (sDrop (eMeth "dict" popDD (eVar 1) (aCons (eVar 3) aNil)))
    (sSeq (sPar2 4 5 (aCons (eMut (lDisp (aCons (eVar 3) aNil))) (aCons (eMut (lDisp (aCons (eVar 3) aNil))) aNil)))
    (sSeq (sWhile (tE (e2 neD (eVar 5) (eFroz (lDisp aNil)))) (sFor (iVal (eCallN (argsN 1 0 (fun a _ => a) (fz true p_beside)) (aCons (eMeth0 "list" (lstMD popP) (eVar 5)) aNil) aNil)) (gN 6) (sIf (tE (e2 inD (eVar 6) (eVar 1))) (sSeq (sDrop (eMeth "dict" popDD (eVar 1) (aCons (eVar 6) aNil)))
    (sSeq (sDrop (eMeth "list" appendD (eVar 4) (aCons (eVar 6) aNil)))
    (sDrop (eMeth "list" appendD (eVar 5) (aCons (eVar 6) aNil))))) sPass)))
    (sDrop (eMeth "list" appendD (eVar 2) (aCons (eCall tupleD (aCons (eFroz (lCall sortedL (aCons (eVar 4) aNil))) aNil)) aNil)))))) sPass))
    (sRet (eMut (lCall sortedL (aCons (eVar 2) aNil)))))))
def p_bounds : Fn := fnB 5 ((sSeq (sSetL 1 (lComp (iRng1 (aCons (eC (.int 3)) aNil)) [2] (gN 2) tTrue (eFroz (lComp (iVal (eVar 0)) [3] (gN 3) tTrue (e2 ixD (eVar 3) (eVar 2))))) false)
    (sRet (eTup (aCons (eCall tupleD (aCons (eFroz (lComp (iVal (eVar 1)) [4] (gN 4) tTrue (eCall minA (aCons (eVar 4) aNil)))) aNil)) (aCons (eCall tupleD (aCons (eFroz (lComp (iVal (eVar 1)) [4] (gN 4) tTrue (eCall maxA (aCons (eVar 4) aNil)))) aNil)) aNil))))))
def p_l_says : Fn := fnB 2 ((sRet (eAnd (e1 (isiD "bool") (eVar 0)) (e2 eqD (eVar 0) (eVar 1)))))
def p_l_take : Fn := fnB 3 ((sSeq (sIf (tE (e2 gtD (e2 ixD (eVar 0) (eC (.int 0))) (eC (.int 0)))) (sSeq (sSet 2 (e2 modD (e2 ixD (eVar 0) (eC (.int 0))) (eVar 1)))
    (sSeq (sPut (e2 divD (e2 ixD (eVar 0) (eC (.int 0))) (eVar 1)) (eVar 0) (eC (.int 0)))
    (sRet (eVar 2)))) sPass)
    (sSeq (sPut (e2 addD (e2 modD (e2 mulD (e2 ixD (eVar 0) (eC (.int 1))) (eC (.int 48271))) (e2 ixD (eVar 0) (eC (.int 2)))) (eC (.int 1))) (eVar 0) (eC (.int 1)))
    (sRet (e2 modD (e2 divD (e2 modD (e2 mulD (e2 ixD (eVar 0) (eC (.int 1))) (e2 ixD (eVar 0) (eC (.int 1)))) (eC (.int 2147483423))) (eC (.int 7))) (eVar 1))))))
def pr_l_thing (R : Fn) : Fn := fnB 6 ((sSeq (sSet 2 (eCallN (argsN 2 0 (fun a _ => a) (fz true p_l_take)) (aCons (eVar 0) (aCons (eC (.int 9)) aNil)) aNil))
    (sSeq (sIf (tOr (tE (e2 ltD (eVar 2) (eC (.int 6)))) (tE (e2 eqD (eVar 1) (eC (.int 0))))) (sSeq (sSet 3 (eFroz (lDisp (aCons (eC (.int 0)) (aCons (e1 negD (eC (.int 1))) (aCons (eC (.int 1)) (aCons (eC (.bl true)) (aCons (eC (.bl false)) (aCons (eC .non) (aCons (eC (.str "")) (aCons (eC (.str "a")) (aCons (eC (.str "ab")) (aCons (eC (.str "A")) (aCons (eC (.str "a b")) (aCons (eC (.str "abcdefghi")) (aCons (eC (.int 2)) (aCons (eC (.int 3)) (aCons (e1 negD (eC (.int 7))) (aCons (eC (.str "take")) (aCons (e2 powD (eC (.int 10)) (eC (.int 11))) (aCons (eC (.int 8)) aNil)))))))))))))))))))))
    (sRet (e2 ixD (e2 addD (eVar 3) (eFroz (lDisp (aCons (eTup aNil) (aCons (eFroz (lDisp aNil)) (aCons (eTup (aCons (eC (.int 0)) (aCons (eC (.int 1)) aNil))) aNil)))))) (eCallN (argsN 2 0 (fun a _ => a) (fz true p_l_take)) (aCons (eVar 0) (aCons (eC (.int 21)) aNil)) aNil)))) sPass)
    (sSeq (sSetL 4 (lComp (iRng1 (aCons (eCallN (argsN 2 0 (fun a _ => a) (fz true p_l_take)) (aCons (eVar 0) (aCons (eC (.int 6)) aNil)) aNil) aNil)) [5] (gN 5) tTrue (eCallN (argsN 2 0 (fun a _ => a) (fz true R)) (aCons (eVar 0) (aCons (e2 subD (eVar 1) (eC (.int 1))) aNil)) aNil)) false)
    (sRet (e2 ixD (eFroz (lDisp (aCons (eVar 4) (aCons (eCall tupleD (aCons (eVar 4) aNil)) (aCons (eCall tupleD (aCons (eVar 4) aNil)) aNil))))) (e2 subD (eVar 2) (eC (.int 6)))))))))
def pl_l_thing : Nat → Fn
  | 0 => badFn
  | n + 1 => pr_l_thing (pl_l_thing n)
def p_l_thing : Fn := pl_l_thing 5
def pr_l_otherwise (R : Fn) : Fn := fnB 7 ((sSeq (sSet 3 (eMut (lCall listAL (aCons (eVar 1) aNil))))
    (sSeq (sIf (tE (e2 eqD (eVar 3) (eFroz (lDisp aNil)))) (sRet (eTup (aCons (eCallN (argsN 2 0 (fun a _ => a) (fz true p_l_thing)) (aCons (eVar 0) (aCons (eC (.int 1)) aNil)) aNil) aNil))) sPass)
    (sSeq (sSet 4 (eCallN (argsN 2 0 (fun a _ => a) (fz true p_l_take)) (aCons (eVar 0) (aCons (eCall lenD (aCons (eVar 3) aNil)) aNil)) aNil))
    (sSeq (sIf (tAnd (tE (e1 (isiD "tuple") (e2 ixD (eVar 3) (eVar 4)))) (tAnd (tE (e2 gtD (eVar 2) (eC (.int 0)))) (tE (e2 gtD (eCallN (argsN 2 0 (fun a _ => a) (fz true p_l_take)) (aCons (eVar 0) (aCons (eC (.int 4)) aNil)) aNil) (eC (.int 0)))))) (sSeq (sPut (eCallN (argsN 3 0 (fun a _ => a) (fz true R)) (aCons (eVar 0) (aCons (e2 ixD (eVar 3) (eVar 4)) (aCons (e2 subD (eVar 2) (eC (.int 1))) aNil))) aNil) (eVar 3) (eVar 4))
    (sRet (eCall tupleD (aCons (eVar 3) aNil)))) sPass)
    (sSeq (sSet 5 (eCallN (argsN 2 0 (fun a _ => a) (fz true p_l_take)) (aCons (eVar 0) (aCons (eC (.int 9)) aNil)) aNil))
    (sSeq (sIf (tE (e2 eqD (eVar 5) (eC (.int 0)))) (sDrop (eMeth "list" (lstMD popP) (eVar 3) (aCons (eVar 4) aNil))) (sIf (tE (e2 eqD (eVar 5) (eC (.int 1)))) (sDrop (eMeth "list" (lstMD insertP) (eVar 3) (aCons (eVar 4) (aCons (e2 ixD (eVar 3) (eVar 4)) aNil)))) (sIf (tE (e2 eqD (eVar 5) (eC (.int 2)))) (sPutSl (eFroz (lRev (eFroz (lSlice (eVar 3) (pSome (eVar 4)) (pSome (e2 addD (eVar 4) (eC (.int 2)))))))) (eVar 3) (pSome (eVar 4)) (pSome (e2 addD (eVar 4) (eC (.int 2))))) (sIf (tE (e2 eqD (eVar 5) (eC (.int 3)))) (sPut (eCallN (argsN 2 0 (fun a _ => a) (fz true p_l_thing)) (aCons (eVar 0) (aCons (eC (.int 2)) aNil)) aNil) (eVar 3) (eVar 4)) (sIf (tOr (tE (e2 eqD (eVar 5) (eC (.int 4)))) (tE (e2 eqD (eVar 5) (eC (.int 5))))) (sSeq (sSet 6 (eFroz (lDisp (aCons (eC (.int 0)) (aCons (eC (.int 1)) (aCons (e1 negD (eC (.int 1))) (aCons (eC (.int 2)) (aCons (eC (.int 8)) (aCons (eC (.int 9)) (aCons (eC (.int 200)) (aCons (eC (.int 201)) (aCons (eC (.int 400)) (aCons (eC (.int 401)) (aCons (eC .non) (aCons (eC (.bl true)) (aCons (eC (.bl false)) (aCons (eC (.str "a")) (aCons (eTup aNil) (aCons (eTup (aCons (eC (.int 1)) (aCons (eC (.int 1)) aNil))) (aCons (eTup (aCons (eC (.int 2)) (aCons (eC (.int 4)) aNil))) (aCons (eTup (aCons (eC (.int 0)) (aCons (eC (.int 1)) aNil))) (aCons (eC (.int 7)) (aCons (eC (.str "cut")) aNil)))))))))))))))))))))))
    (sPut (e2 ixD (eVar 6) (eCallN (argsN 2 0 (fun a _ => a) (fz true p_l_take)) (aCons (eVar 0) (aCons (eC (.int 20)) aNil)) aNil)) (eVar 3) (eVar 4))) (sIf (tAnd (tE (e2 eqD (eVar 5) (eC (.int 6)))) (tAnd (tE (e1 (isiD "int") (e2 ixD (eVar 3) (eVar 4)))) (tNot (tE (e1 (isiD "bool") (e2 ixD (eVar 3) (eVar 4))))))) (sPut (e2 addD (e2 ixD (eVar 3) (eVar 4)) (e2 ixD (eFroz (lDisp (aCons (eC (.int 1)) (aCons (e1 negD (eC (.int 1))) (aCons (eC (.int 8)) (aCons (e1 negD (eC (.int 12))) aNil)))))) (eCallN (argsN 2 0 (fun a _ => a) (fz true p_l_take)) (aCons (eVar 0) (aCons (eC (.int 4)) aNil)) aNil))) (eVar 3) (eVar 4)) (sIf (tAnd (tE (e2 eqD (eVar 5) (eC (.int 7)))) (tE (e1 (isiD "tuple") (e2 ixD (eVar 3) (eVar 4))))) (sPut (eFroz (lCall listAL (aCons (e2 ixD (eVar 3) (eVar 4)) aNil))) (eVar 3) (eVar 4)) (sIf (tAnd (tE (e2 eqD (eVar 5) (eC (.int 8)))) (tE (e1 (isiD "str") (e2 ixD (eVar 3) (eVar 4))))) (sPut (e2 addD (e2 ixD (eVar 3) (eVar 4)) (e2 ixD (eFroz (lDisp (aCons (eC (.str "a")) (aCons (eC (.str "A")) (aCons (eC (.str " ")) (aCons (eC (.str "bbbbbbbb")) aNil)))))) (eCallN (argsN 2 0 (fun a _ => a) (fz true p_l_take)) (aCons (eVar 0) (aCons (eC (.int 4)) aNil)) aNil))) (eVar 3) (eVar 4)) (sRet (eVar 3))))))))))
    (sRet (eCall tupleD (aCons (eVar 3) aNil))))))))))
def pl_l_otherwise : Nat → Fn
  | 0 => badFn
  | n + 1 => pr_l_otherwise (pl_l_otherwise n)
def p_l_otherwise : Fn := pl_l_otherwise 4
def p_l_is_int : Fn := fnB 3 ((sRet (eAnd (e1 (isiD "int") (eVar 0)) (eAnd (eNot (e1 (isiD "bool") (eVar 0))) (eAnd (e2 leD (eVar 1) (eVar 0)) (e2 leD (eVar 0) (eVar 2)))))))
def p_l_is_cell : Fn := fnB 1 ((sSeq (sIf (tOr (tNot (tE (e1 (isiD "tuple") (eVar 0)))) (tOr (tE (e2 neD (eCall lenD (aCons (eVar 0) aNil)) (eC (.int 3)))) (tNot (tE (eCallN (argsN 3 0 (fun a _ => a) (fz true p_l_is_int)) (aCons (e2 ixD (eVar 0) (eC (.int 0))) (aCons (eC (.int 0)) (aCons (eC (.int 7)) aNil))) aNil))))) (sRet (eC (.bl false))) sPass)
    (sRet (eAnd (eCallN (argsN 3 0 (fun a _ => a) (fz true p_l_is_int)) (aCons (e2 ixD (eVar 0) (eC (.int 1))) (aCons (eC (.int 0)) (aCons (eC (.int 9)) aNil))) aNil) (eCallN (argsN 3 0 (fun a _ => a) (fz true p_l_is_int)) (aCons (e2 ixD (eVar 0) (eC (.int 2))) (aCons (eC (.int 0)) (aCons (eC (.int 9)) aNil))) aNil)))))
def p_l_are_cells : Fn := fnB 2 ((sSeq (sIf (tOr (tNot (tE (e1 (isiD "tuple") (eVar 0)))) (tE (e2 neD (eFroz (lComp (iVal (eVar 0)) [1] (gN 1) (tNot (tE (eCallN (argsN 1 0 (fun a _ => a) (fz true p_l_is_cell)) (aCons (eVar 1) aNil) aNil))) (eVar 1))) (eFroz (lDisp aNil))))) (sRet (eC (.bl false))) sPass)
    (sRet (e2 eqD (eFroz (lCall listAL (aCons (eVar 0) aNil))) (eFroz (lCall setSortL (aCons (eVar 0) aNil)))))))
def p_l_well : Fn := fnB 5 ((sSeq (sSet 2 (eC (.int 0)))
    (sSeq (sIf (tE (e2 ltD (eVar 1) (eCall lenD (aCons (eVar 0) aNil)))) (sSet 2 (e2 ixD (eVar 0) (eVar 1))) sPass)
    (sSeq (sSet 3 (eFroz (lDisp (aCons (eC (.int 2147483647)) (aCons (eC (.int 2147483629)) (aCons (eC (.int 2147483587)) (aCons (eC (.int 2147483579)) (aCons (eC (.int 2147483563)) (aCons (eC (.int 2147483549)) (aCons (eC (.int 2147483543)) (aCons (eC (.int 2147483497)) aNil)))))))))))
    (sSeq (sSet 4 (e2 modD (e2 mulD (e2 addD (e2 modD (eVar 2) (eC (.int 2147483489))) (eC (.int 1))) (e2 addD (eC (.int 48271)) (e2 mulD (eC (.int 2)) (eVar 1)))) (eC (.int 2147483489))))
    (sSeq (sSet 4 (e2 addD (e2 addD (e2 modD (e2 mulD (eVar 4) (eVar 4)) (eC (.int 2147483477))) (eVar 1)) (eC (.int 1))))
    (sSeq (sIf (tE (e2 geD (eVar 2) (e2 powD (eC (.int 10)) (eC (.int 18))))) (sRet (eMut (lDisp (aCons (eVar 2) (aCons (eVar 4) (aCons (e2 ixD (eVar 3) (e2 modD (eVar 1) (eC (.int 8)))) aNil)))))) sPass)
    (sRet (eMut (lDisp (aCons (eC (.int 0)) (aCons (eVar 4) (aCons (e2 ixD (eVar 3) (e2 modD (eVar 1) (eC (.int 8)))) aNil)))))))))))))
def p_l_body : Fn := fnB 8 ((sSeq (sSet 2 (eDict1 (eTup (aCons (eCallN (argsN 2 0 (fun a _ => a) (fz true p_l_take)) (aCons (eVar 0) (aCons (eVar 1) aNil)) aNil) (aCons (eCallN (argsN 2 0 (fun a _ => a) (fz true p_l_take)) (aCons (eVar 0) (aCons (eC (.int 4)) aNil)) aNil) (aCons (eCallN (argsN 2 0 (fun a _ => a) (fz true p_l_take)) (aCons (eVar 0) (aCons (eC (.int 10)) aNil)) aNil) aNil)))) (eC (.bl true))))
    (sSeq (sFor (iRng1 (aCons (eCallN (argsN 2 0 (fun a _ => a) (fz true p_l_take)) (aCons (eVar 0) (aCons (eC (.int 9)) aNil)) aNil) aNil)) (gN 3) (sSeq (sPar3 4 5 6 (aCons (eCallN (argsN 2 0 (fun a _ => a) (fz true p_l_take)) (aCons (eVar 0) (aCons (eVar 1) aNil)) aNil) (aCons (eCallN (argsN 2 0 (fun a _ => a) (fz true p_l_take)) (aCons (eVar 0) (aCons (eC (.int 4)) aNil)) aNil) (aCons (eCallN (argsN 2 0 (fun a _ => a) (fz true p_l_take)) (aCons (eVar 0) (aCons (eC (.int 10)) aNil)) aNil) aNil))))
    (sFor (iRng1 (aCons (e2 addD (eC (.int 1)) (eCallN (argsN 2 0 (fun a _ => a) (fz true p_l_take)) (aCons (eVar 0) (aCons (eC (.int 6)) aNil)) aNil)) aNil)) (gN 7) (sIf (tE (e2 ltD (e2 addD (eVar 6) (eVar 7)) (eC (.int 10)))) (sPut (eC (.bl true)) (eVar 2) (eTup (aCons (eVar 4) (aCons (eVar 5) (aCons (e2 addD (eVar 6) (eVar 7)) aNil))))) sPass))))
    (sSeq (sIf (tE (e2 eqD (eCallN (argsN 2 0 (fun a _ => a) (fz true p_l_take)) (aCons (eVar 0) (aCons (eC (.int 3)) aNil)) aNil) (eC (.int 0)))) (sDrop (eMeth "dict" updD (eVar 2) (aCons (eFroz (lComp (iVal (eFroz (lCall listAL (aCons (eVar 2) aNil)))) [4, 5, 6] (gTp [(gN 4), (gN 5), (gN 6)]) tTrue (eTup (aCons (eTup (aCons (eC (.int 0)) (aCons (eVar 5) (aCons (eVar 6) aNil)))) (aCons (eC (.bl true)) aNil))))) aNil))) sPass)
    (sRet (eCall tupleD (aCons (eFroz (lCall sortedL (aCons (eVar 2) aNil))) aNil)))))))
def p_is_beneath : Fn := fnB 5 ((sSeq (sAsg (eVar 1) (gTp [(gN 2), (gN 3), (gN 4)]))
    (sRet (eOr (e2 eqD (eVar 2) (eC (.int 0))) (e2 inD (eTup (aCons (e2 subD (eVar 2) (eC (.int 1))) (aCons (eVar 3) (aCons (eVar 4) aNil)))) (eVar 0))))))
def p_held_in_run : Fn := fnB 10 ((sSeq (sAsg (eVar 2) (gTp [(gN 4), (gN 5), (gN 6)]))
    (sSeq (sFor (iVal (eFroz (lDisp (aCons (eC (.int 1)) (aCons (e1 negD (eC (.int 1))) aNil))))) (gN 7) (sFor (iRng1 (aCons (e2 addD (eVar 3) (eC (.int 1))) aNil)) (gN 8) (sSeq (sSet 9 (eTup (aCons (eVar 4) (aCons (eVar 5) (aCons (e2 addD (eVar 6) (e2 mulD (eVar 7) (eVar 8))) aNil)))))
    (sSeq (sIf (tE (e2 ninD (eVar 9) (eVar 0))) sBrk sPass)
    (sIf (tE (eCallN (argsN 2 0 (fun a _ => a) (fz true p_is_beneath)) (aCons (eVar 1) (aCons (eVar 9) aNil)) aNil)) (sRet (eC (.bl true))) sPass)))))
    (sRet (eC (.bl false))))))
def p_not_held : Fn := fnB 6 ((sSeq (sSet 3 (eDComp (iVal (eVar 0)) [5] (gN 5) tTrue (eVar 5) (eC (.bl true))))
    (sSeq (sSet 4 (eDComp (iVal (e2 addD (eVar 0) (eVar 1))) [5] (gN 5) tTrue (eVar 5) (eC (.bl true))))
    (sSeq (sFor (iVal (eFroz (lCall sortedL (aCons (e2 addD (eVar 0) (eVar 1)) aNil)))) (gN 5) (sSeq (sIf (tAnd (tE (e2 inD (eVar 5) (eVar 3))) (tNot (tE (eCallN (argsN 4 0 (fun a _ => a) (fz true p_held_in_run)) (aCons (eVar 3) (aCons (eVar 4) (aCons (eVar 5) (aCons (eVar 2) aNil)))) aNil)))) (sRet (eVar 5)) sPass)
    (sIf (tAnd (tE (e2 ninD (eVar 5) (eVar 3))) (tNot (tE (eCallN (argsN 2 0 (fun a _ => a) (fz true p_is_beneath)) (aCons (eVar 4) (aCons (eVar 5) aNil)) aNil)))) (sRet (eVar 5)) sPass)))
    (sRet (eC .non))))))
def p_are_props : Fn := fnB 4 ((sSeq (sIf (tOr (tNot (tE (eCallN (argsN 1 0 (fun a _ => a) (fz true p_are_cells)) (aCons (eVar 1) aNil) aNil))) (tE (eCall anyD (aCons (eFroz (lComp (iVal (eVar 1)) [3] (gN 3) tTrue (e2 inD (eVar 3) (eVar 0)))) aNil)))) (sRet (eC (.bl false))) sPass)
    (sRet (e2 isD (eCallN (argsN 2 1 (fun a b => a ++ b) (fz true p_not_held)) (aCons (eVar 0) (aCons (eVar 1) aNil)) (aCons (eVar 2) aNil)) (eC .non)))))
def p_gap : Fn := fnB 6 ((sSeq (sAsg (eVar 1) (gTp [(gN 2), (gN 3), (gN 4)]))
    (sSeq (sSet 5 (eC (.int 0)))
    (sSeq (sWhile (tAnd (tE (e2 gtD (e2 subD (eVar 2) (eVar 5)) (eC (.int 0)))) (tE (e2 ninD (eTup (aCons (e2 subD (e2 subD (eVar 2) (eVar 5)) (eC (.int 1))) (aCons (eVar 3) (aCons (eVar 4) aNil)))) (eVar 0)))) (sAug 5 addI (eC (.int 1))))
    (sRet (eVar 5))))))
def p_runs : Fn := fnB 4 ((sSeq (sSet 1 (eMut (lDisp aNil)))
    (sSeq (sFor (iVal (eVar 0)) (gTp [(gN 2), (gN 3)]) (sIf (tAnd (tE (e2 neD (eVar 1) (eFroz (lDisp aNil)))) (tAnd (tE (e2 eqD (e2 ixD (e2 ixD (eVar 1) (e1 negD (eC (.int 1)))) (eC (.int 0))) (eVar 2))) (tE (e2 eqD (e2 ixD (e2 ixD (eVar 1) (e1 negD (eC (.int 1)))) (eC (.int 2))) (e2 subD (eVar 3) (eC (.int 1))))))) (sPut (eTup (aCons (eVar 2) (aCons (e2 ixD (e2 ixD (eVar 1) (e1 negD (eC (.int 1)))) (eC (.int 1))) (aCons (eVar 3) aNil)))) (eVar 1) (e1 negD (eC (.int 1)))) (sDrop (eMeth "list" appendD (eVar 1) (aCons (eTup (aCons (eVar 2) (aCons (eVar 3) (aCons (eVar 3) aNil)))) aNil)))))
    (sRet (eVar 1)))))
def p_layer : Fn := fnB 5 ((sRet (eFroz (lComp (iVal (eVar 0)) [2, 3, 4] (gTp [(gN 2), (gN 3), (gN 4)]) (tE (e2 eqD (eVar 2) (eVar 1))) (eTup (aCons (eVar 3) (aCons (eVar 4) aNil)))))))
def p_body_runs : Fn := fnB 6 ((sSeq (sSet 1 (eMut (lDisp aNil)))
    (sSeq (sFor (iRng1 (aCons (e2 addD (e2 ixD (e2 ixD (eVar 0) (e1 negD (eC (.int 1)))) (eC (.int 0))) (eC (.int 1))) aNil)) (gN 2) (sDrop (eMeth "list" extendD (eVar 1) (aCons (eFroz (lComp (iVal (eCallN (argsN 1 0 (fun a _ => a) (fz true p_runs)) (aCons (eCallN (argsN 2 0 (fun a _ => a) (fz true p_layer)) (aCons (eVar 0) (aCons (eVar 2) aNil)) aNil) aNil) aNil)) [3, 4, 5] (gTp [(gN 3), (gN 4), (gN 5)]) tTrue (eTup (aCons (eVar 2) (aCons (eVar 3) (aCons (eVar 4) (aCons (eVar 5) aNil))))))) aNil))))
    (sRet (eVar 1)))))
def p_gaps_of : Fn := fnB 7 ((sSeq (sAsg (eVar 1) (gTp [(gN 2), (gN 3), (gN 4), (gN 5)]))
    (sRet (eFroz (lComp (iRng2 (aCons (eVar 4) (aCons (e2 addD (eVar 5) (eC (.int 1))) aNil))) [6] (gN 6) tTrue (eCallN (argsN 2 0 (fun a _ => a) (fz true p_gap)) (aCons (eVar 0) (aCons (eTup (aCons (eVar 2) (aCons (eVar 3) (aCons (eVar 6) aNil)))) aNil)) aNil))))))
def pc_HIGH : D := (.int 1000000000)
def p_costs_up_to : Fn := fnB 8 ((sSeq (sSet 2 (eMut (lDisp (aCons (eTup (aCons (eC (.int 0)) (aCons (eTup aNil) aNil))) aNil))))
    (sSeq (sFor (iRng2 (aCons (eC (.int 1)) (aCons (e2 addD (eCall lenD (aCons (eVar 0) aNil)) (eC (.int 1))) aNil))) (gN 3) (sSeq (sSet 4 (eTup (aCons (eC pc_HIGH) (aCons (eTup aNil) aNil))))
    (sSeq (sFor (iRng2 (aCons (eCall maxA (aCons (eC (.int 0)) (aCons (e2 subD (e2 subD (eVar 3) (eC (.int 1))) (eVar 1)) aNil))) (aCons (eCall minA (aCons (eCall lenD (aCons (eVar 0) aNil)) (aCons (e2 addD (eVar 3) (eVar 1)) aNil))) aNil))) (gN 5) (sSeq (sAsg (e2 ixD (eVar 2) (eCall maxA (aCons (eC (.int 0)) (aCons (e2 subD (eVar 5) (eVar 1)) aNil)))) (gTp [(gN 6), (gN 7)]))
    (sSet 4 (eCall minA (aCons (eVar 4) (aCons (eTup (aCons (e2 addD (eVar 6) (e2 ixD (eVar 0) (eVar 5))) (aCons (e2 addD (eVar 7) (eTup (aCons (eVar 5) aNil))) aNil))) aNil))))))
    (sDrop (eMeth "list" appendD (eVar 2) (aCons (eVar 4) aNil))))))
    (sRet (eVar 2)))))
def p_fewest_props : Fn := fnB 12 ((sSeq (sSet 2 (eMut (lDisp aNil)))
    (sSeq (sFor (iVal (eCallN (argsN 1 0 (fun a _ => a) (fz true p_body_runs)) (aCons (eVar 0) aNil) aNil)) (gN 3) (sSeq (sAsg (eVar 3) (gTp [(gN 4), (gN 5), (gN 6), (gN 7)]))
    (sSeq (sSet 8 (eCallN (argsN 2 0 (fun a _ => a) (fz true p_gaps_of)) (aCons (eVar 0) (aCons (eVar 3) aNil)) aNil))
    (sFor (iVal (e2 ixD (e2 ixD (eCallN (argsN 2 0 (fun a _ => a) (fz true p_costs_up_to)) (aCons (eVar 8) (aCons (eVar 1) aNil)) aNil) (e1 negD (eC (.int 1)))) (eC (.int 1)))) (gN 9) (sDrop (eMeth "list" extendD (eVar 2) (aCons (eFroz (lComp (iRng1 (aCons (e2 ixD (eVar 8) (eVar 9)) aNil)) [11] (gN 11) tTrue (eTup (aCons (e2 subD (e2 subD (eVar 4) (eC (.int 1))) (eVar 11)) (aCons (eVar 5) (aCons (e2 addD (eVar 6) (eVar 9)) aNil)))))) aNil)))))))
    (sSeq (sSet 10 (eCall tupleD (aCons (eFroz (lCall setSortL (aCons (eVar 2) aNil))) aNil)))
    (sRet (eTup (aCons (eCall lenD (aCons (eVar 10) aNil)) (aCons (eVar 10) aNil))))))))
def p_l_beneath : Fn := fnB 2 ((sRet (eOr (e2 eqD (e2 ixD (eVar 1) (eC (.int 0))) (eC (.int 0))) (e2 inD (e2 addD (eTup (aCons (e2 subD (e2 ixD (eVar 1) (eC (.int 0))) (eC (.int 1))) aNil)) (eSlice (eVar 1) (pSome (eC (.int 1))) pNo)) (eVar 0)))))
def p_l_is_held : Fn := fnB 11 ((sSeq (sAsg (eVar 2) (gTp [(gN 4), (gN 5), (gN 6)]))
    (sSeq (sFor (iRng2 (aCons (eCall maxA (aCons (eC (.int 0)) (aCons (e2 subD (eVar 6) (eVar 3)) aNil))) (aCons (e2 addD (eCall minA (aCons (eC (.int 9)) (aCons (e2 addD (eVar 6) (eVar 3)) aNil))) (eC (.int 1))) aNil))) (gN 7) (sSeq (sSetL 8 (lComp (iRng2 (aCons (eCall minA (aCons (eVar 6) (aCons (eVar 7) aNil))) (aCons (e2 addD (eCall maxA (aCons (eVar 6) (aCons (eVar 7) aNil))) (eC (.int 1))) aNil))) [9] (gN 9) tTrue (eTup (aCons (eVar 4) (aCons (eVar 5) (aCons (eVar 9) aNil))))) false)
    (sIf (tAnd (tE (e2 eqD (eFroz (lComp (iVal (eVar 8)) [10] (gN 10) (tE (e2 ninD (eVar 10) (eVar 0))) (eVar 10))) (eFroz (lDisp aNil)))) (tE (eCallN (argsN 2 0 (fun a _ => a) (fz true p_l_beneath)) (aCons (eVar 1) (aCons (eTup (aCons (eVar 4) (aCons (eVar 5) (aCons (eVar 7) aNil)))) aNil)) aNil))) (sRet (eC (.bl true))) sPass)))
    (sRet (eC (.bl false))))))
def p_l_not_held : Fn := fnB 5 ((sSeq (sSet 3 (eFroz (lCall sortedL (aCons (e2 addD (eVar 0) (eVar 1)) aNil))))
    (sSeq (sFor (iVal (eVar 3)) (gN 4) (sSeq (sIf (tAnd (tE (e2 inD (eVar 4) (eVar 0))) (tNot (tE (eCallN (argsN 4 0 (fun a _ => a) (fz true p_l_is_held)) (aCons (eVar 0) (aCons (eVar 3) (aCons (eVar 4) (aCons (eVar 2) aNil)))) aNil)))) (sRet (eVar 4)) sPass)
    (sIf (tAnd (tE (e2 ninD (eVar 4) (eVar 0))) (tNot (tE (eCallN (argsN 2 0 (fun a _ => a) (fz true p_l_beneath)) (aCons (eVar 3) (aCons (eVar 4) aNil)) aNil)))) (sRet (eVar 4)) sPass)))
    (sRet (eC .non)))))
def p_l_are_props : Fn := fnB 4 ((sSeq (sIf (tOr (tNot (tE (eCallN (argsN 1 0 (fun a _ => a) (fz true p_l_are_cells)) (aCons (eVar 1) aNil) aNil))) (tE (e2 neD (eFroz (lComp (iVal (eVar 1)) [3] (gN 3) (tE (e2 inD (eVar 3) (eVar 0))) (eVar 3))) (eFroz (lDisp aNil))))) (sRet (eC (.bl false))) sPass)
    (sRet (e2 isD (eCallN (argsN 3 0 (fun a _ => a) (fz true p_l_not_held)) (aCons (eVar 0) (aCons (eVar 1) (aCons (eVar 2) aNil))) aNil) (eC .non)))))
def p_l_gap : Fn := fnB 7 ((sSeq (sAsg (eVar 1) (gTp [(gN 2), (gN 3), (gN 4)]))
    (sSeq (sSet 5 (eC (.int 0)))
    (sSeq (sFor (iRngD (aCons (e2 subD (eVar 2) (eC (.int 1))) (aCons (e1 negD (eC (.int 1))) (aCons (e1 negD (eC (.int 1))) aNil)))) (gN 6) (sSeq (sIf (tE (e2 inD (eTup (aCons (eVar 6) (aCons (eVar 3) (aCons (eVar 4) aNil)))) (eVar 0))) (sRet (eVar 5)) sPass)
    (sSet 5 (e2 addD (eVar 5) (eC (.int 1))))))
    (sRet (eVar 5))))))
end Lb

set_option Elab.async false
set_option linter.all false
set_option maxRecDepth 100000
set_option maxHeartbeats 4000000
namespace Lb
open PySem PySem.Spec PyProof.Rows L2
/-! ### calls whose store stands -/
theorem run_id {F : Fn} {ds : List D} {h t : Hs} {d : D} (q : F ds h = .ok d (h ++ t)) (hl : d.low h.length = true) : Lb.run F ds h = .ok d h := by
  unfold Lb.run ends
  rw [q]
  have e1 : froz (h ++ t) h.length d = some d := by unfold froz; rw [if_pos hl]
  have e2 : trunc h (h ++ t) = some h := by unfold trunc; rw [List.take_left' rfl, if_pos (hSame_refl _)]
  dsimp only
  rw [e1, e2]
theorem run_sm {F : Fn} {ds : List D} {h : Hs} {d : D} (q : F ds h = .ok d h) (hl : d.low h.length = true) : Lb.run F ds h = .ok d h := run_id (t := []) (by rw [List.append_nil]; exact q) hl
/-- a new list is handed out -/
theorem run_ls {F : Fn} {ds : List D} {h t : Hs} {k : Nat} {xs : List D} (q : F ds h = .ok (.ref k) (h ++ t)) (hk : h.length ≤ k) (hx : (h ++ t)[k]? = some (.lst xs)) (hl : D.lows h.length xs = true) : Lb.run F ds h = .ok (.lst xs) h := by
  unfold Lb.run ends
  rw [q]
  have e0 : ¬ (D.ref k).low h.length = true := by simp [D.low]; omega
  have e1 : froz (h ++ t) h.length (.ref k) = some (.lst xs) := by
    unfold froz
    rw [if_neg e0]
    show froz1 (h ++ t) h.length (.ref k) = _
    unfold froz1
    rw [if_neg e0]
    dsimp only
    rw [hx]
    dsimp only
    rw [if_pos hl]
  have e2 : trunc h (h ++ t) = some h := by unfold trunc; rw [List.take_left' rfl, if_pos (hSame_refl _)]
  dsimp only
  rw [e1, e2]
/-- the store below changes -/
theorem trunc_up {h h2 t : Hs} (hl : h2.length = h.length) (ho : h2.all (Ob.low h.length) = true) : trunc h (h2 ++ t) = some h2 := by
  unfold trunc
  rw [← hl, List.take_left' rfl]
  by_cases hs : hSame h2 h = true
  · rw [if_pos hs, hSame_eq _ _ hs]
  · rw [if_neg hs, hl, if_pos ho]
theorem run_up {F : Fn} {ds : List D} {h h2 t : Hs} {d : D} (q : F ds h = .ok d (h2 ++ t)) (hl : h2.length = h.length) (ho : h2.all (Ob.low h.length) = true) (hd : d.low h.length = true) : Lb.run F ds h = .ok d h2 := by
  unfold Lb.run ends
  rw [q]
  have e1 : froz (h2 ++ t) h.length d = some d := by unfold froz; rw [if_pos hd]
  dsimp only
  rw [e1, trunc_up hl ho]
theorem run_upl {F : Fn} {ds : List D} {h h2 t : Hs} {k : Nat} {xs : List D} (q : F ds h = .ok (.ref k) (h2 ++ t)) (hl : h2.length = h.length) (ho : h2.all (Ob.low h.length) = true) (hk : h.length ≤ k) (hx : (h2 ++ t)[k]? = some (.lst xs)) (hs : D.lows h.length xs = true) : Lb.run F ds h = .ok (.lst xs) h2 := by
  unfold Lb.run ends
  rw [q]
  have e0 : ¬ (D.ref k).low h.length = true := by simp [D.low]; omega
  have e1 : froz (h2 ++ t) h.length (.ref k) = some (.lst xs) := by
    unfold froz
    rw [if_neg e0]
    show froz1 (h2 ++ t) h.length (.ref k) = _
    unfold froz1
    rw [if_neg e0]
    dsimp only
    rw [hx]
    dsimp only
    rw [if_pos hs]
  dsimp only
  rw [e1, trunc_up hl ho]
/-! ### gen2's calls are gen's -/
theorem callN_is {n : Nat} {F : Fn} {A : Es} : eCallN (argsN n 0 (fun a _ => a) (fz true F)) A aNil = eCall (args n [] (Lb.run F)) A := by
  funext e h
  show ((A e h).bind fun xs h1 => if xs.length = n ∧ 0 = 0 then Lb.run F xs h1 else .bad) = (A e h).bind (args n [] (Lb.run F))
  congr 1
  funext xs h1
  unfold args
  rw [List.append_nil]
  by_cases q : xs.length = n <;> simp [q]
theorem take_is : p_l_take = tk := rfl
theorem well_is : p_l_well = wl := rfl
theorem body_is : p_l_body = bd := by
  unfold p_l_body bd
  rw [take_is]
  simp only [callN_is]
/-! ### the well -/
structure GS (n : Nat) (c : Int) (s : Hs) : Prop where
  ex : ∃ a b, s[n]? = some (Wl a b c) ∧ (0 ≤ b ∧ b < 2 ^ 60)
  hc : 0 < c ∧ c < 2 ^ 50
  low : s.all (Ob.low 0) = true
theorem GS.lt {n c s} (g : GS n c s) : n < s.length := by
  obtain ⟨a, b, q, _⟩ := g.ex
  exact (List.getElem?_eq_some_iff.mp q).1
/-- s' is s but for the well -/
structure Up (n : Nat) (s s' : Hs) : Prop where
  len : s'.length = s.length
  at_ : ∀ k, k ≠ n → s'[k]? = s[k]?
theorem Up.refl {n s} : Up n s s := ⟨rfl, fun _ _ => rfl⟩
theorem Up.trans {n s s1 s2} (x : Up n s s1) (y : Up n s1 s2) : Up n s s2 := ⟨y.len.trans x.len, fun k hk => (y.at_ k hk).trans (x.at_ k hk)⟩
theorem GS.app {n c s t} (g : GS n c s) (ht : t.all (Ob.low 0) = true) : GS n c (s ++ t) := by
  obtain ⟨a, b, q, r⟩ := g.ex
  exact ⟨⟨a, b, by rw [List.getElem?_append_left (g.lt)]; exact q, r⟩, g.hc, by rw [List.all_append, g.low, ht]; rfl⟩
theorem take_b {n : Nat} {c m : Int} {s t : Hs} (g : GS n c s) (hm : 0 < m ∧ m < 1073741824) (ht : t.all (Ob.low 0) = true) :
    ∃ v s', (0 ≤ v ∧ v < m) ∧ GS n c s' ∧ Up n s s' ∧ Lb.run p_l_take [.ref n, .int m] (s ++ t) = .ok (.int v) (s' ++ t) := by
  obtain ⟨a, b, q, hb⟩ := g.ex
  have hn := g.lt
  have low : (s ++ t).all (Ob.low (s ++ t).length) = true := all_low_mono (Nat.zero_le _) (by rw [List.all_append, g.low, ht]; rfl)
  have q' : (s ++ t)[n]? = some (Wl a b c) := by rw [List.getElem?_append_left hn]; exact q
  obtain ⟨v, a', b', h1, h2, h3, e⟩ := take_run q' hb g.hc hm low
  have e' : Lb.run tk [.ref n, .int m] (s ++ t) = .ok (.int v) ((s ++ t).set n (Wl a' b' c)) := e
  rw [List.set_append_left _ _ hn] at e'
  exact ⟨v, s.set n (Wl a' b' c), ⟨h1, h2⟩, ⟨⟨a', b', List.getElem?_set_self hn, h3⟩, g.hc, all_set g.low (Wl_low _)⟩, ⟨by simp, fun k hk => by rw [List.getElem?_set_ne (Ne.symm hk)]⟩, e'⟩
theorem take_0 {n : Nat} {c m : Int} {s : Hs} (g : GS n c s) (hm : 0 < m ∧ m < 1073741824) : ∃ v s', (0 ≤ v ∧ v < m) ∧ GS n c s' ∧ Up n s s' ∧ Lb.run p_l_take [.ref n, .int m] s = .ok (.int v) s' := by
  have := take_b (t := []) g hm rfl
  simp only [List.append_nil] at this
  exact this
/-! ### things at the end of a store -/
section
variable {h t : Hs} {o o' o1 o2 : Ob}
@[simp] theorem at0 : (h ++ o :: t)[h.length]? = some o := by rw [List.getElem?_append_right (Nat.le_refl _)]; simp
@[simp] theorem at1 : (h ++ o :: o1 :: t)[h.length + 1]? = some o1 := by rw [List.getElem?_append_right (by omega)]; simp
@[simp] theorem at2 : (h ++ o :: o1 :: o2 :: t)[h.length + 2]? = some o2 := by rw [List.getElem?_append_right (by omega)]; simp
@[simp] theorem at3 {o3 : Ob} : (h ++ o :: o1 :: o2 :: o3 :: t)[h.length + 3]? = some o3 := by rw [List.getElem?_append_right (by omega)]; simp
@[simp] theorem set0 : (h ++ o :: t).set h.length o' = h ++ o' :: t := by rw [List.set_append_right _ _ (Nat.le_refl _)]; simp
@[simp] theorem set1 : (h ++ o :: o1 :: t).set (h.length + 1) o' = h ++ o :: o' :: t := by rw [List.set_append_right _ _ (by omega)]; simp
@[simp] theorem set2 : (h ++ o :: o1 :: o2 :: t).set (h.length + 2) o' = h ++ o :: o1 :: o' :: t := by rw [List.set_append_right _ _ (by omega)]; simp
@[simp] theorem set3' {o3 : Ob} : (h ++ o :: o1 :: o2 :: o3 :: t).set (h.length + 3) o' = h ++ o :: o1 :: o2 :: o' :: t := by rw [List.set_append_right _ _ (by omega)]; simp
end
/-! ### equality by an encoding -/
structure EncEq {α : Type} (enc : α → D) : Prop where
  eq : ∀ [DecidableEq α] (a b : α), PyData.eqv (enc a).data (enc b).data = decide (a = b)
  fit : ∀ a, (enc a).fit 4 = true
theorem fit_mono {n m : Nat} (h : n ≤ m) : ∀ (d : D), d.fit n = true → d.fit m = true := by
  induction n generalizing m with
  | zero => intro d hd; cases d <;> first | rfl | (simp [D.fit] at hd; done) | simpa [D.fit] using hd
  | succ n ih =>
    intro d hd
    obtain ⟨m, rfl⟩ : ∃ k, m = k + 1 := ⟨m - 1, by omega⟩
    cases d with
    | tup xs => simp only [D.fit, List.all_eq_true] at hd ⊢; exact fun x hx => ih (by omega) x (hd x hx)
    | lst xs => simp only [D.fit, List.all_eq_true] at hd ⊢; exact fun x hx => ih (by omega) x (hd x hx)
    | ref _ => simp [D.fit] at hd
    | scr _ => simp [D.fit] at hd
    | _ => simpa [D.fit] using hd
theorem eqvAll_enc {α : Type} [DecidableEq α] {enc : α → D} (he : ∀ a b, PyData.eqv (enc a).data (enc b).data = decide (a = b)) : ∀ (xs ys : List α), PyData.eqvAll (D.datas (xs.map enc)) (D.datas (ys.map enc)) = decide (xs = ys)
  | [], [] => by simp [D.datas, PyData.eqvAll]
  | [], y :: ys => by simp [D.datas, PyData.eqvAll]
  | x :: xs, [] => by simp [D.datas, PyData.eqvAll]
  | x :: xs, y :: ys => by
    simp only [List.map_cons, D.datas, PyData.eqvAll, he, eqvAll_enc he xs ys, List.cons.injEq]
    by_cases h1 : x = y <;> by_cases h2 : xs = ys <;> simp [h1, h2]
theorem eqB_of {h : Hs} {x y : D} {b : Bool} (hx : viewD h x = x) (hy : viewD h y = y) (fx : x.fit 40 = true) (fy : y.fit 40 = true) (e : PyData.eqv x.data y.data = b) : eqB h x y = some b := by
  unfold eqB
  rw [hx, hy, fx, fy, e]
  rfl
theorem eqD_of {h : Hs} {x y : D} {b : Bool} (e : eqB h x y = some b) : bD eqB x y h = .ok (.bl b) h := by unfold bD; rw [e]
theorem neD_of {h : Hs} {x y : D} {b : Bool} (e : eqB h x y = some b) : nbD eqB x y h = .ok (.bl (!b)) h := by unfold nbD; rw [e]
theorem inD_of {h : Hs} {x y : D} {b : Bool} (e : inB h x y = some b) : bD inB x y h = .ok (.bl b) h := by unfold bD; rw [e]
theorem ninD_of {h : Hs} {x y : D} {b : Bool} (e : inB h x y = some b) : nbD inB x y h = .ok (.bl (!b)) h := by unfold nbD; rw [e]
theorem fits_enc {α : Type} {enc : α → D} {n : Nat} (hf : ∀ a, (enc a).fit n = true) (xs : List α) : (xs.map enc).all (D.fit n) = true := by
  rw [List.all_eq_true]
  intro d hd
  obtain ⟨a, _, rfl⟩ := List.mem_map.mp hd
  exact hf a
theorem eqB_lsts {α : Type} [DecidableEq α] {enc : α → D} (he : ∀ a b, PyData.eqv (enc a).data (enc b).data = decide (a = b)) (hf : ∀ a, (enc a).fit 39 = true) {h : Hs} (xs ys : List α) : eqB h (.lst (xs.map enc)) (.lst (ys.map enc)) = some (decide (xs = ys)) :=
  eqB_of rfl rfl (fits_enc hf xs) (fits_enc hf ys) (by simp only [D.data, PyData.eqv]; exact eqvAll_enc he xs ys)
theorem eqB_tups {α : Type} [DecidableEq α] {enc : α → D} (he : ∀ a b, PyData.eqv (enc a).data (enc b).data = decide (a = b)) (hf : ∀ a, (enc a).fit 39 = true) {h : Hs} (xs ys : List α) : eqB h (.tup (xs.map enc)) (.tup (ys.map enc)) = some (decide (xs = ys)) :=
  eqB_of rfl rfl (fits_enc hf xs) (fits_enc hf ys) (by simp only [D.data, PyData.eqv]; exact eqvAll_enc he xs ys)
/-- == [] of anything flat -/
theorem eqB_nilL {h : Hs} {xs : List D} (hf : xs.all (D.fit 39) = true) : eqB h (.lst xs) (.lst []) = some xs.isEmpty :=
  eqB_of rfl rfl hf rfl (by cases xs <;> simp [D.data, D.datas, PyData.eqv, PyData.eqvAll])
theorem eqB_nilR {h : Hs} {n : Nat} {xs : List D} (hn : h[n]? = some (.lst xs)) (hf : xs.all (D.fit 39) = true) : eqB h (.ref n) (.lst []) = some xs.isEmpty := by
  have e1 : viewD h (.ref n) = .lst xs := by unfold viewD; dsimp only; rw [hn]
  unfold eqB
  rw [e1]
  have : D.fit 40 (.lst xs) = true := hf
  rw [this]
  cases xs with
  | nil => rfl
  | cons a as => simp [viewD, D.fit, D.data, D.datas, PyData.eqv, PyData.eqvAll]
theorem lows_enc {α : Type} {enc : α → D} {k : Nat} (hl : ∀ a, (enc a).low k = true) (xs : List α) : D.lows k (xs.map enc) = true := lows_all fun d hd => by obtain ⟨p, _, rfl⟩ := List.mem_map.mp hd; exact hl p
theorem low_of_fit (k : Nat) : ∀ (n : Nat) (d : D), d.fit n = true → d.low k = true
  | n, .non, _ => rfl
  | n, .bl _, _ => rfl
  | n, .int _, _ => rfl
  | n, .str _, _ => rfl
  | n, .ref _, h => by cases n <;> simp [D.fit] at h
  | n, .scr _, h => by cases n <;> simp [D.fit] at h
  | 0, .tup _, h => by simp [D.fit] at h
  | 0, .lst _, h => by simp [D.fit] at h
  | n + 1, .tup xs, h => by simp only [D.fit, List.all_eq_true] at h; simp only [D.low]; exact lows_all fun x hx => low_of_fit k n x (h x hx)
  | n + 1, .lst xs, h => by simp only [D.fit, List.all_eq_true] at h; simp only [D.low]; exact lows_all fun x hx => low_of_fit k n x (h x hx)
theorem bools_map {α : Type} (f : α → Bool) (xs : List α) : boolsOf (xs.map fun x => .bl (f x)) = some (xs.map f) := by
  induction xs with
  | nil => rfl
  | cons x xs ih => simp [boolsOf, ih]
theorem all_ls {α : Type} {h : Hs} (f : α → Bool) (xs : List α) : allD [.lst (xs.map fun x => .bl (f x))] h = .ok (.bl (xs.all f)) h := by
  show (match boolsOf (xs.map fun x => .bl (f x)) with | some bs => R.ok (D.bl (bs.all id)) h | none => .bad) = _
  rw [bools_map]
  simp [List.all_map]
theorem any_ls {α : Type} {h : Hs} (f : α → Bool) (xs : List α) : anyD [.lst (xs.map fun x => .bl (f x))] h = .ok (.bl (xs.any f)) h := by
  show (match boolsOf (xs.map fun x => .bl (f x)) with | some bs => R.ok (D.bl (bs.any id)) h | none => .bad) = _
  rw [bools_map]
  simp [List.any_map]
/-- a comprehension that maps, without a test -/
theorem lComp_map {I : Iv} {is : List Nat} {G : Tg} {A : Ev} {e : En} {h h1 : Hs} {α : Type} {enc : α → D} {xs : List α} (f : α → D) (qI : I e h = .ok (.fix (xs.map enc)) h1) (hz : xs.length ≤ sizeLine)
    (st : ∀ x ∈ xs, ∃ e1, G (enc x) (wipeE e is) = some e1 ∧ ∀ acc, A e1 (h1 ++ [.lst acc]) = .ok (f x) (h1 ++ [.lst acc])) (hf : ∀ x ∈ xs, (f x).low h1.length = true) : lComp I is G tTrue A e h = .ok (xs.map f) h1 := by
  have := lComp_pure (I := I) (is := is) (G := G) (T := tTrue) (A := A) (e := e) (h := h) (h1 := h1) (enc := enc) (xs := xs) (fun _ => true) f qI hz (fun x hx => by
    obtain ⟨e1, g, k⟩ := st x hx
    exact ⟨e1, g, fun acc => ⟨rfl, fun _ => k acc⟩⟩) fun x hx _ => hf x hx
  rwa [List.filter_eq_self.mpr (fun _ _ => rfl)] at this
theorem rng_is (n : Nat) : rng 0 n = (List.range n).map fun k => D.int (k : Nat) := by
  have gen : ∀ (n : Nat) (lo : Int), rng lo n = (List.range n).map fun k => D.int (lo + (k : Nat)) := by
    intro n
    induction n with
    | zero => intro lo; rfl
    | succ n ih =>
      intro lo
      rw [rng, ih, List.range_succ_eq_map, List.map_cons, List.map_map]
      simp
      intro a ha
      omega
  rw [gen]
  simp
end Lb

set_option Elab.async false
set_option linter.all false
set_option maxRecDepth 100000
set_option maxHeartbeats 4000000
namespace Lb
open PySem PySem.Spec PyProof.Rows L2
/-! ### which things are cells, risings of cells -/
def isI : D → Bool
  | .int _ => true
  | _ => false
def inI (i j : Int) : D → Bool
  | .int k => decide (i ≤ k) && decide (k ≤ j)
  | _ => false
def box (c : P3) : Prop := (0 ≤ c.1 ∧ c.1 ≤ 7) ∧ (0 ≤ c.2.1 ∧ c.2.1 ≤ 9) ∧ (0 ≤ c.2.2 ∧ c.2.2 ≤ 9)
instance (c : P3) : Decidable (box c) := by unfold box; infer_instance
/-- the cell that a thing is -/
def cellD : D → Option P3
  | .tup [.int z, .int y, .int x] => if box (z, y, x) then some (z, y, x) else none
  | _ => none
section
variable {h : Hs} {d : D}
theorem nref (n : Nat) (hd : d.fit n = true) : noRef d = true := by cases d <;> first | rfl | (cases n <;> simp [D.fit] at hd)
theorem is_int_s (hd : noRef d = true) : Lb.run p_is_int [d] h = .ok (.bl (isI d)) h := by
  refine run_sm ?_ rfl
  cases d <;> first | (cases hd; done) | simp [p_is_int, isI]
theorem is_whole_s {i j : Int} (hd : noRef d = true) : Lb.run p_is_whole [d, .int i, .int j] h = .ok (.bl (inI i j d)) h := by
  refine run_sm ?_ rfl
  have q := is_int_s (h := h) hd
  cases d with
  | int k => simp [p_is_whole, q, isI, inI]; by_cases h1 : i ≤ k <;> simp [h1]
  | _ => simp [p_is_whole, q, isI, inI]
def isTup (n : Nat) : D → Bool
  | .tup xs => decide (xs.length = n)
  | _ => false
theorem is_tuple_s {n : Nat} (hd : noRef d = true) : Lb.run p_is_tuple [d, .int n] h = .ok (.bl (isTup n d)) h := by
  refine run_sm ?_ rfl
  cases d with
  | tup xs =>
    simp [p_is_tuple, isTup]
    omega
  | ref _ => cases hd
  | scr _ => cases hd
  | _ => simp [p_is_tuple, isTup]
theorem cellD_some {c : P3} (e : cellD d = some c) : d = enc3 c ∧ box c := by
  unfold cellD at e
  split at e
  · split at e
    · cases e; rename_i q; exact ⟨rfl, q⟩
    · cases e
  · cases e
theorem cellD_enc {c : P3} (hb : box c) : cellD (enc3 c) = some c := by
  obtain ⟨z, y, x⟩ := c
  show (if box (z, y, x) then some (z, y, x) else none) = _
  rw [if_pos hb]
theorem atI_0 {α : Type} (x : α) (xs : List α) : atI (x :: xs) 0 = some x := by
  have : ixN (x :: xs).length 0 = some 0 := by unfold ixN; simp
  unfold L2.atI; rw [this]; rfl
theorem fit3_of {n : Nat} {a b c : D} (hd : (D.tup [a, b, c]).fit (n + 1) = true) : a.fit n = true ∧ b.fit n = true ∧ c.fit n = true := by simpa [D.fit] using hd
theorem cell_three {a b c : D} : (cellD (.tup [a, b, c])).isSome = (inI 0 7 a && inI 0 9 b && inI 0 9 c) := by
  cases a with
  | int z =>
    cases b with
    | int y =>
      cases c with
      | int x =>
        show (if box (z, y, x) then some (z, y, x) else none).isSome = (decide (0 ≤ z) && decide (z ≤ 7) && (decide (0 ≤ y) && decide (y ≤ 9)) && (decide (0 ≤ x) && decide (x ≤ 9)))
        by_cases hb : box (z, y, x)
        · rw [if_pos hb]
          obtain ⟨⟨h1, h2⟩, ⟨h3, h4⟩, h5, h6⟩ := hb
          dsimp only at h1 h2 h3 h4 h5 h6
          simp [h1, h2, h3, h4, h5, h6]
        · rw [if_neg hb]
          simp only [Option.isSome_none]
          symm
          rw [Bool.eq_false_iff]
          intro z'
          simp only [Bool.and_eq_true, decide_eq_true_eq] at z'
          exact hb ⟨z'.1.1, z'.1.2, z'.2⟩
      | _ => simp [cellD, inI]
    | _ => simp [cellD, inI]
  | _ => simp [cellD, inI]
theorem is_cell_s {n : Nat} (hd : d.fit n = true) : Lb.run p_is_cell [d] h = .ok (.bl (cellD d).isSome) h := by
  refine run_sm ?_ rfl
  have q := is_tuple_s (h := h) (n := 3) (nref n hd)
  have three : ((3 : Nat) : Int) = 3 := rfl
  rw [three] at q
  by_cases t : isTup 3 d = true
  · obtain ⟨a, b, c, rfl⟩ : ∃ a b c, d = .tup [a, b, c] := by
      cases d with
      | tup xs =>
        simp [isTup] at t
        match xs, t with
        | [a, b, c], _ => exact ⟨a, b, c, rfl⟩
      | _ => simp [isTup] at t
    cases n with
    | zero => simp [D.fit] at hd
    | succ n =>
    obtain ⟨ha, hb, hc⟩ := fit3_of hd
    rw [cell_three]
    cases h1 : inI 0 7 a <;> cases h2 : inI 0 9 b <;> simp [p_is_cell, q, t, atI0, atI1, atI2, pc_TOP, pc_EDGE, is_whole_s (nref n ha), is_whole_s (nref n hb), is_whole_s (nref n hc), h1, h2]
  · rw [Bool.not_eq_true] at t
    have e : cellD d = none := by
      unfold cellD
      split
      · simp [isTup] at t
      · rfl
    rw [e]
    simp [p_is_cell, q, t]
theorem l_is_int_s {i j : Int} (hd : noRef d = true) : Lb.run p_l_is_int [d, .int i, .int j] h = .ok (.bl (inI i j d)) h := by
  refine run_sm ?_ rfl
  cases d with
  | int k => simp [p_l_is_int, inI]; by_cases h1 : i ≤ k <;> simp [h1]
  | ref _ => cases hd
  | scr _ => cases hd
  | _ => simp [p_l_is_int, inI]
theorem l_is_cell_s {n : Nat} (hd : d.fit n = true) : Lb.run p_l_is_cell [d] h = .ok (.bl (cellD d).isSome) h := by
  refine run_sm ?_ rfl
  cases d with
  | ref _ => cases n <;> simp [D.fit] at hd
  | scr _ => cases n <;> simp [D.fit] at hd
  | tup xs =>
    by_cases t : xs.length = 3
    · match xs, t with
      | [a, b, c], _ =>
        cases n with
        | zero => simp [D.fit] at hd
        | succ n =>
        obtain ⟨ha, hb, hc⟩ := fit3_of hd
        rw [cell_three]
        cases h1 : inI 0 7 a <;> cases h2 : inI 0 9 b <;> simp [p_l_is_cell, atI0, atI1, atI2, l_is_int_s (nref n ha), l_is_int_s (nref n hb), l_is_int_s (nref n hc), h1, h2]
    · have e : cellD (.tup xs) = none := by
        unfold cellD
        split
        · rename_i q; cases q; simp at t
        · rfl
      have t' : ¬ (xs.length : Int) = 3 := by omega
      rw [e]
      simp [p_l_is_cell, t']
  | _ => simp [p_l_is_cell, cellD]
/-- the cells that a tuple's things are -/
def cellsL : List D → Option (List P3)
  | [] => some []
  | x :: xs => match cellD x, cellsL xs with
    | some c, some cs => some (c :: cs)
    | _, _ => none
def cellsD : D → Option (List P3)
  | .tup xs => cellsL xs
  | _ => none
theorem cellsL_some : ∀ {xs : List D} {cs : List P3}, cellsL xs = some cs → xs = cs.map enc3 ∧ ∀ c ∈ cs, box c
  | [], cs, e => by cases e; exact ⟨rfl, fun c hc => by cases hc⟩
  | x :: xs, cs, e => by
    unfold cellsL at e
    split at e
    · rename_i c cs' h1 h2
      cases e
      obtain ⟨e1, b1⟩ := cellD_some h1
      obtain ⟨e2, b2⟩ := cellsL_some h2
      exact ⟨by rw [e1, e2]; rfl, fun y hy => by rcases List.mem_cons.mp hy with rfl | z; exact b1; exact b2 y z⟩
    · cases e
theorem cellsL_enc : ∀ {cs : List P3}, (∀ c ∈ cs, box c) → cellsL (cs.map enc3) = some cs
  | [], _ => rfl
  | c :: cs, hb => by
    rw [List.map_cons]
    unfold cellsL
    rw [cellD_enc (hb c List.mem_cons_self), cellsL_enc fun x hx => hb x (List.mem_cons_of_mem _ hx)]
theorem cellsL_all : ∀ {xs : List D}, (xs.all fun x => (cellD x).isSome) = (cellsL xs).isSome
  | [] => rfl
  | x :: xs => by
    rw [List.all_cons, cellsL_all]
    show _ = (match cellD x, cellsL xs with | some c, some cs => some (c :: cs) | _, _ => none).isSome
    cases cellD x <;> cases cellsL xs <;> rfl
/-- rising, told neighbour by neighbour -/
theorem pair_adj {α : Type} {lt : α → α → Prop} (o : Ord lt) : ∀ {l : List α}, (∀ i, (hi : i + 1 < l.length) → lt l[i] l[i + 1]) → l.Pairwise lt
  | [], _ => .nil
  | [x], _ => List.pairwise_singleton _ _
  | x :: y :: l, h => by
    have r : (y :: l).Pairwise lt := pair_adj o fun i hi => h (i + 1) (by simpa using hi)
    have xy : lt x y := h 0 (by simp)
    refine List.pairwise_cons.mpr ⟨fun z hz => ?_, r⟩
    rcases List.mem_cons.mp hz with rfl | hz
    · exact xy
    · exact o.tr _ _ _ xy ((List.pairwise_cons.mp r).1 z hz)
theorem adj_pair {α : Type} {lt : α → α → Prop} {l : List α} (h : l.Pairwise lt) (i : Nat) (hi : i + 1 < l.length) : lt l[i] l[i + 1] := (List.pairwise_iff_getElem.mp h) i (i + 1) (by omega) hi (by omega)
theorem ltB3 (p q : P3) : ltB h (enc3 p) (enc3 q) = some (decide (lt3 p q)) := by
  have e : ltB h (enc3 p) (enc3 q) = if ((enc3 p).fit 40 && (enc3 q).fit 40 && PySem.W.alike (enc3 p).data (enc3 q).data && true) = true then some (PySem.W.dataLt (enc3 p).data (enc3 q).data) else none := rfl
  rw [e, fit3 p 38, fit3 q 38, alike3, data3]
  rfl
theorem ltD3 (p q : P3) : bD ltB (enc3 p) (enc3 q) h = .ok (.bl (decide (lt3 p q))) h := by unfold bD; rw [ltB3]
theorem sl1000 {n : Nat} (hn : n ≤ 1000) : n ≤ sizeLine := Nat.le_trans hn (by decide)
theorem rising_s {cs : List P3} (hz : cs.length ≤ 1000) : Lb.run p_rising [.tup (cs.map enc3)] h = .ok (.bl (decide (cs.Pairwise lt3))) h := by
  refine run_sm ?_ rfl
  have ir : iRng1 (aCons (e2 subD (eCall lenD (aCons (eVar 0) aNil)) (eC (.int 1))) aNil) [some (.tup (cs.map enc3)), none] h = .ok (.fix ((List.range (cs.length - 1)).map fun k => D.int (k : Nat))) h := by
    have q : aCons (e2 subD (eCall lenD (aCons (eVar 0) aNil)) (eC (.int 1))) aNil [some (.tup (cs.map enc3)), none] h = .ok [.int ((cs.length : Int) - 1)] h := by simp
    rw [rng1_ok q (by omega), rng_is]
    rw [show ((cs.length : Int) - 1).toNat = cs.length - 1 by omega]
  have lc := lComp_map (h1 := h) (e := [some (.tup (cs.map enc3)), none]) (G := gN 1) (is := [1]) (A := e2 ltD (e2 ixD (eVar 0) (eVar 1)) (e2 ixD (eVar 0) (e2 addD (eVar 1) (eC (.int 1))))) (enc := fun k : Nat => D.int (k : Nat)) (xs := List.range (cs.length - 1)) (fun k => .bl (decide (∃ hk : k + 1 < cs.length, lt3 (cs[k]'(by omega)) cs[k + 1]))) ir (by rw [List.length_range]; exact sl1000 (by omega))
    (fun k hk => ⟨_, rfl, fun acc => by
      have hk' : k + 1 < cs.length := by have := List.mem_range.mp hk; omega
      have a1 : atI (cs.map enc3) (k : Nat) = some (enc3 (cs[k]'(by omega))) := atI_nat (by omega) (by rw [Int.toNat_natCast, List.getElem?_map, List.getElem?_eq_getElem (by omega)]; rfl)
      have a2 : atI (cs.map enc3) ((k : Nat) + 1 : Int) = some (enc3 cs[k + 1]) := atI_nat (by omega) (by rw [show ((k : Int) + 1).toNat = k + 1 by omega]; simp [hk'])
      simp [wipeE, a1, a2, ltD3, hk']⟩) (fun _ _ => rfl)
  have fin : ((List.range (cs.length - 1)).all fun k => decide (∃ hk : k + 1 < cs.length, lt3 (cs[k]'(by omega)) cs[k + 1])) = decide (cs.Pairwise lt3) := by
    rw [Bool.eq_iff_iff, List.all_eq_true, decide_eq_true_eq]
    constructor
    · intro q
      refine pair_adj ord3 fun i hi => ?_
      have := q i (List.mem_range.mpr (by omega))
      rw [decide_eq_true_eq] at this
      exact this.2
    · intro q k hk
      have := List.mem_range.mp hk
      rw [decide_eq_true_eq]
      exact ⟨by omega, adj_pair q k (by omega)⟩
  rw [← fin]
  simp [p_rising, lc, all_ls]
/-- are_cells as it answers -/
def areO : Option (List P3) → Bool
  | some cs => decide (cs.Pairwise lt3)
  | none => false
def areC (d : D) : Bool := areO (cellsD d)
@[simp] theorem areO_n : areO none = false := rfl
@[simp] theorem areO_s {cs : List P3} : areO (some cs) = decide (cs.Pairwise lt3) := rfl
theorem areC_t {xs : List D} : areC (.tup xs) = areO (cellsL xs) := rfl
theorem are_cells_s {n : Nat} (hd : d.fit (n + 1) = true) (hz : ∀ xs, d = .tup xs → xs.length ≤ 1000) : Lb.run p_are_cells [d] h = .ok (.bl (areC d)) h := by
  refine run_sm ?_ rfl
  cases d with
  | ref _ => simp [D.fit] at hd
  | scr _ => simp [D.fit] at hd
  | tup xs =>
    have hl := hz xs rfl
    simp only [D.fit, List.all_eq_true] at hd
    have lc := lComp_map (h := h) (h1 := h) (e := [some (.tup xs), none]) (I := iVal (eVar 0)) (G := gN 1) (is := [1]) (A := eCallN (argsN 1 0 (fun a _ => a) (Lb.run p_is_cell)) (aCons (eVar 1) aNil) aNil) (enc := id) (xs := xs) (fun x => .bl (cellD x).isSome) (by simp) (sl1000 hl)
      (fun x hx => ⟨_, rfl, fun acc => by simp [wipeE, is_cell_s (hd x hx)]⟩) (fun _ _ => rfl)
    have q : (xs.all fun x => (cellD x).isSome) = (cellsL xs).isSome := cellsL_all
    simp [p_are_cells, lc, all_ls, q]
    rw [areC_t]
    cases hc : cellsL xs with
    | none => simp
    | some cs =>
      obtain ⟨rfl, hb⟩ := cellsL_some hc
      simp [rising_s (cs := cs) (by simpa using hl)]
  | _ => simp [p_are_cells, areC, cellsD]
theorem set3_self {cs : List P3} (hb : ∀ c ∈ cs, box c) : cs = set3 cs ↔ cs.Pairwise lt3 := by
  have ho : ∀ c ∈ cs, ok3 c := fun c hc => by
    obtain ⟨h1, h2, h3⟩ := hb c hc
    exact ⟨by omega, by omega, by omega, by omega, by omega, by omega⟩
  obtain ⟨m, p⟩ := set3_spec ho
  have key : ∀ a b : P3, ok3 a → ok3 b → (c3 a < c3 b ↔ lt3 a b) := fun a b ha hb => by
    obtain ⟨a1, a2, a3⟩ := a
    obtain ⟨b1, b2, b3⟩ := b
    unfold ok3 at ha hb
    unfold c3 lt3
    dsimp only at ha hb ⊢
    omega
  have p3 : (set3 cs).Pairwise lt3 := List.Pairwise.imp_of_mem (fun {a b} ha hb hab => (key a b (ho a ((m a).mp ha)) (ho b ((m b).mp hb))).mp hab) p
  constructor
  · intro e; rw [e]; exact p3
  · intro q; exact sorted_ext ord3 q p3 fun x => (m x).symm
theorem t3s_enc {cs : List P3} (hb : ∀ c ∈ cs, ok3 c) : t3s (cs.map enc3) = some cs := by
  induction cs with
  | nil => rfl
  | cons c cs ih =>
    rw [List.map_cons]
    unfold t3s
    rw [ih fun x hx => hb x (List.mem_cons_of_mem _ hx)]
    have : t3 (enc3 c) = some c := by
      obtain ⟨z, y, x⟩ := c
      have := hb (z, y, x) List.mem_cons_self
      exact if_pos this
    rw [this]
theorem setSort_s {cs : List P3} (hb : ∀ c ∈ cs, ok3 c) (hz : cs.length < 307) {x : D} (hx : seqOf h x = some (cs.map enc3)) : setSortL [x] h = .ok ((set3 cs).map enc3) h := by
  show (match seqOf h x with | some ys => (match t3s ys with | some ts => if ts.length < setMax then R.ok ((set3 ts).map D3) h else .bad | none => .bad) | none => .bad) = _
  rw [hx]
  dsimp only
  rw [t3s_enc hb]
  exact if_pos hz
theorem box_ok {c : P3} (hb : box c) : ok3 c := by
  obtain ⟨h1, h2, h3⟩ := hb
  exact ⟨by omega, by omega, by omega, by omega, by omega, by omega⟩
theorem l_are_cells_s {n : Nat} (hd : d.fit (n + 1) = true) (hn : n ≤ 38) (hz : ∀ xs, d = .tup xs → xs.length < 307) : Lb.run p_l_are_cells [d] h = .ok (.bl (areC d)) h := by
  refine run_sm ?_ rfl
  cases d with
  | ref _ => simp [D.fit] at hd
  | scr _ => simp [D.fit] at hd
  | tup xs =>
    have hl := hz xs rfl
    simp only [D.fit, List.all_eq_true] at hd
    have lc := lComp_pure (h := h) (h1 := h) (e := [some (.tup xs), none]) (I := iVal (eVar 0)) (G := gN 1) (is := [1]) (T := tNot (tE (eCallN (argsN 1 0 (fun a _ => a) (Lb.run p_l_is_cell)) (aCons (eVar 1) aNil) aNil))) (A := eVar 1) (enc := id) (xs := xs) (fun x => (cellD x).isNone) (fun x => x) (by simp) (sl1000 (by omega))
      (fun x hx => ⟨_, rfl, fun acc => by simp [wipeE, l_is_cell_s (hd x hx)]⟩) (fun x hx _ => low_of_fit _ _ x (hd x hx))
    rw [List.map_id'] at lc
    have hf : (xs.filter fun x => (cellD x).isNone).all (D.fit 39) = true := by
      rw [List.all_eq_true]
      intro x hx
      exact fit_mono (by omega) x (hd x (List.mem_filter.mp hx).1)
    have q : (xs.filter fun x => (cellD x).isNone).isEmpty = (cellsL xs).isSome := by
      rw [← cellsL_all]
      rw [Bool.eq_iff_iff, List.isEmpty_iff, List.all_eq_true, List.filter_eq_nil_iff]
      constructor
      · intro z x hx
        have := z x hx
        cases e : cellD x with
        | none => rw [e] at this; exact absurd rfl this
        | some c => rfl
      · intro z x hx
        have := z x hx
        cases e : cellD x with
        | none => rw [e] at this; cases this
        | some c => simp
    have ne : nbD eqB (.lst (xs.filter fun x => (cellD x).isNone)) (.lst []) h = .ok (.bl (!(cellsL xs).isSome)) h := by
      rw [neD_of (eqB_nilL hf), q]
    rw [areC_t]
    cases hc : cellsL xs with
    | none =>
      rw [hc] at ne
      simp [p_l_are_cells, lc, ne]
    | some cs =>
      rw [hc] at ne
      obtain ⟨rfl, hb⟩ := cellsL_some hc
      have ss : setSortL [.tup (cs.map enc3)] h = .ok ((set3 cs).map enc3) h := setSort_s (fun c hc => box_ok (hb c hc)) (by simpa using hl) rfl
      have e2 : bD eqB (.lst (cs.map enc3)) (.lst ((set3 cs).map enc3)) h = .ok (.bl (decide (cs.Pairwise lt3))) h := by
        rw [eqD_of (eqB_lsts eqv3 (fun a => fit3 a 37) cs (set3 cs))]
        congr 2
        rw [decide_eq_decide]
        exact set3_self hb
      simp [p_l_are_cells, lc, ne, ss, e2]
  | _ => simp [p_l_are_cells, areC, cellsD]
/-! ### bodies -/
def isBd (d : D) : Bool := areC d && (match d with | .tup xs => decide (1 ≤ xs.length ∧ xs.length ≤ 200) | _ => false)
theorem is_body_s {n : Nat} (hd : d.fit (n + 1) = true) (hz : ∀ xs, d = .tup xs → xs.length ≤ 1000) : Lb.run p_is_body [d] h = .ok (.bl (isBd d)) h := by
  refine run_sm ?_ rfl
  have q := are_cells_s (h := h) hd hz
  unfold isBd
  cases d with
  | tup xs =>
    cases hc : areC (.tup xs) with
    | false => simp [p_is_body, q, hc]
    | true =>
      simp [p_is_body, q, hc, pc_MOST_CELLS]
      by_cases h1 : 1 ≤ xs.length
      · have : (1 : Int) ≤ (xs.length : Int) := by omega
        simp [this, h1]
        by_cases h2 : xs.length ≤ 200
        · have : (xs.length : Int) ≤ 200 := by omega
          simp [this, h2]
        · have : ¬ (xs.length : Int) ≤ 200 := by omega
          simp [this, h2]
      · have : ¬ (1 : Int) ≤ (xs.length : Int) := by omega
        simp [this, h1]
  | _ => simp [p_is_body, q, areC, cellsD]
theorem isBd_ok {cs : List P3} (hb : ∀ c ∈ cs, box c) (hp : cs.Pairwise lt3) (h1 : 1 ≤ cs.length) (h2 : cs.length ≤ 200) : isBd (.tup (cs.map enc3)) = true := by
  unfold isBd
  rw [areC_t, cellsL_enc hb]
  simp [hp, h1, h2]
theorem areC_ok {cs : List P3} (hb : ∀ c ∈ cs, box c) (hp : cs.Pairwise lt3) : areC (.tup (cs.map enc3)) = true := by
  rw [areC_t, cellsL_enc hb]
  simp [hp]
end
end Lb

set_option Elab.async false
set_option linter.all false
set_option maxRecDepth 100000
set_option maxHeartbeats 4000000
namespace Lb
open PySem PySem.Spec PyProof.Rows L2
/-! ### things of any kind, bounded -/
def thg (L : Nat) : Nat → D → Bool
  | _, .non => true
  | _, .bl _ => true
  | _, .int _ => true
  | _, .str x => PyData.strOk x && decide (x.length ≤ L)
  | n + 1, .tup xs => decide (xs.length ≤ L) && xs.all (thg L n)
  | n + 1, .lst xs => decide (xs.length ≤ L) && xs.all (thg L n)
  | _, _ => false
theorem thg_fit {L : Nat} : ∀ {n : Nat} {d : D}, thg L n d = true → d.fit n = true
  | _, .non, _ => by simp [D.fit]
  | _, .bl _, _ => by simp [D.fit]
  | _, .int _, _ => by simp [D.fit]
  | _, .str x, h => by simp [thg] at h; simp [D.fit, h.1]
  | 0, .tup _, h => by simp [thg] at h
  | 0, .lst _, h => by simp [thg] at h
  | n + 1, .tup xs, h => by
    simp only [thg, Bool.and_eq_true, List.all_eq_true] at h
    simp only [D.fit, List.all_eq_true]
    exact fun x hx => thg_fit (h.2 x hx)
  | n + 1, .lst xs, h => by
    simp only [thg, Bool.and_eq_true, List.all_eq_true] at h
    simp only [D.fit, List.all_eq_true]
    exact fun x hx => thg_fit (h.2 x hx)
  | n, .ref _, h => by cases n <;> simp [thg] at h
  | n, .scr _, h => by cases n <;> simp [thg] at h
theorem thg_mono {L M : Nat} (hL : L ≤ M) : ∀ {n m : Nat} {d : D}, n ≤ m → thg L n d = true → thg M m d = true
  | _, _, .non, _, _ => by simp [thg]
  | _, _, .bl _, _, _ => by simp [thg]
  | _, _, .int _, _, _ => by simp [thg]
  | _, _, .str x, _, h => by
    simp only [thg, Bool.and_eq_true, decide_eq_true_eq] at h ⊢
    exact ⟨h.1, Nat.le_trans h.2 hL⟩
  | 0, _, .tup _, _, h => by simp [thg] at h
  | 0, _, .lst _, _, h => by simp [thg] at h
  | n + 1, 0, _, hn, _ => by omega
  | n + 1, m + 1, .tup xs, hn, h => by
    simp only [thg, Bool.and_eq_true, List.all_eq_true, decide_eq_true_eq] at h ⊢
    exact ⟨Nat.le_trans h.1 hL, fun x hx => thg_mono hL (by omega) (h.2 x hx)⟩
  | n + 1, m + 1, .lst xs, hn, h => by
    simp only [thg, Bool.and_eq_true, List.all_eq_true, decide_eq_true_eq] at h ⊢
    exact ⟨Nat.le_trans h.1 hL, fun x hx => thg_mono hL (by omega) (h.2 x hx)⟩
  | n, _, .ref _, _, h => by cases n <;> simp [thg] at h
  | n, _, .scr _, _, h => by cases n <;> simp [thg] at h
theorem thg_tup {L n : Nat} {xs : List D} (hl : xs.length ≤ L) (h : ∀ x ∈ xs, thg L n x = true) : thg L (n + 1) (.tup xs) = true := by
  simp only [thg, Bool.and_eq_true, List.all_eq_true, decide_eq_true_eq]; exact ⟨hl, h⟩
theorem thg_lst {L n : Nat} {xs : List D} (hl : xs.length ≤ L) (h : ∀ x ∈ xs, thg L n x = true) : thg L (n + 1) (.lst xs) = true := by
  simp only [thg, Bool.and_eq_true, List.all_eq_true, decide_eq_true_eq]; exact ⟨hl, h⟩
theorem thg_low {L n : Nat} {d : D} (k : Nat) (h : thg L n d = true) : d.low k = true := low_of_fit k n d (thg_fit h)
theorem thg_lows {L n : Nat} {xs : List D} (k : Nat) (h : ∀ x ∈ xs, thg L n x = true) : D.lows k xs = true := lows_all fun d hd => thg_low k (h d hd)
theorem atI_mem {xs : List D} {i : Int} (h0 : 0 ≤ i) (h1 : i < xs.length) : ∃ d, atI xs i = some d ∧ d ∈ xs := by
  have hl : i.toNat < xs.length := by omega
  exact ⟨xs[i.toNat], atI_nat h0 (List.getElem?_eq_getElem hl), List.getElem_mem hl⟩
section
variable {h : Hs} {xs ys : List D}
@[simp] theorem add_lst : addD (.lst xs) (.lst ys) h = szt (xs.length + ys.length) (.ok (.lst (xs ++ ys)) h) := rfl
@[simp] theorem add_tup : addD (.tup xs) (.tup ys) h = szt (xs.length + ys.length) (.ok (.tup (xs ++ ys)) h) := rfl
@[simp] theorem pow11 : powD (.int 10) (.int 11) h = .ok (.int 100000000000) h := rfl
@[simp] theorem v_rng1 {A : Es} {e : En} : iRng1 A e h = (A e h).bind fun xs h1 => match xs with | [.int j] => if -(2 ^ 62) ≤ j ∧ j < 2 ^ 62 then .ok (.fix (rng 0 j.toNat)) h1 else .bad | _ => .bad := rfl
end
theorem szt_ok {α : Type} {n : Nat} {r : R α} (h : n ≤ 1000000) : szt n r = r := if_pos (Nat.le_trans h (by decide))
def someL : List D := [.int 0, .int (-1), .int 1, .bl true, .bl false, .non, .str "", .str "a", .str "ab", .str "A", .str "a b", .str "abcdefghi", .int 2, .int 3, .int (-7), .str "take", .int 100000000000, .int 8, .tup [], .lst [], .tup [.int 0, .int 1]]
theorem someL_ok : ∀ d ∈ someL, thg 100 1 d = true := by decide +kernel
/-- a parts' store -/
theorem low_app {t : Hs} {acc : List D} (ht : t.all (Ob.low 0) = true) (ha : D.lows 0 acc = true) : (t ++ [Ob.lst acc]).all (Ob.low 0) = true := by
  rw [List.all_append, ht]
  simp [Ob.low, ha]
theorem thing_step {R : Fn} {n : Nat} {c : Int} {s t : Hs} {deep : Nat} (g : GS n c s) (ht : t.all (Ob.low 0) = true) (hd : deep ≤ 1000)
    (hR : ∀ s t, GS n c s → t.all (Ob.low 0) = true → 0 < deep → ∃ d s', Lb.run R [.ref n, .int ((deep : Int) - 1)] (s ++ t) = .ok d (s' ++ t) ∧ thg 100 deep d = true ∧ GS n c s' ∧ Up n s s') :
    ∃ d s', Lb.run (pr_l_thing R) [.ref n, .int deep] (s ++ t) = .ok d (s' ++ t) ∧ thg 100 (deep + 1) d = true ∧ GS n c s' ∧ Up n s s' := by
  obtain ⟨way, s1, hw, g1, u1, q1⟩ := take_b (m := 9) g (by decide) ht
  have fin : ∀ {d : D} {s' : Hs}, pr_l_thing R [.ref n, .int deep] (s ++ t) = .ok d (s' ++ t) → thg 100 (deep + 1) d = true → GS n c s' → Up n s s' → ∃ d s', Lb.run (pr_l_thing R) [.ref n, .int deep] (s ++ t) = .ok d (s' ++ t) ∧ thg 100 (deep + 1) d = true ∧ GS n c s' ∧ Up n s s' := fun {d s'} q td g' u' =>
    ⟨d, s', run_up (t := []) (by rw [List.append_nil]; exact q) (by simp [u'.len]) (all_low_mono (Nat.zero_le _) (by rw [List.all_append, g'.low, ht]; rfl)) (thg_low _ td), td, g', u'⟩
  by_cases hs : way < 6 ∨ deep = 0
  · obtain ⟨v, s2, hv, g2, u2, q2⟩ := take_b (m := 21) g1 (by decide) ht
    obtain ⟨d, ed, hm⟩ := atI_mem (xs := someL) hv.1 (by have : someL.length = 21 := rfl; omega)
    refine fin (d := d) (s' := s2) ?_ (thg_mono (Nat.le_refl _) (by omega) (someL_ok d hm)) g2 (u1.trans u2)
    unfold someL at ed
    have hb : (decide (way < 6) = true ∨ decide (deep = 0) = true) := by simpa using hs
    by_cases hw6 : way < 6
    · simp [pr_l_thing, q1, q2, hw6, ed]
    · have h0 : deep = 0 := by omega
      subst h0
      simp [pr_l_thing, q1, q2, hw6, ed]
  · have hw6 : ¬ way < 6 := fun z => hs (.inl z)
    have h0 : ¬ ((deep : Int) = 0) := fun z => hs (.inr (by omega))
    have hpos : 0 < deep := by omega
    have h0' : ¬ deep = 0 := by omega
    obtain ⟨v, s2, hv, g2, u2, q2⟩ := take_b (m := 6) g1 (by decide) ht
    have qI : iRng1 (aCons (eCallN (argsN 2 0 (fun a _ => a) (fz true p_l_take)) (aCons (eVar 0) (aCons (eC (.int 6)) aNil)) aNil) aNil) [some (.ref n), some (.int deep), some (.int way), none, none, none] (s1 ++ t) = .ok (.fix (rng 0 v.toNat)) (s2 ++ t) := by
      simp [q2]; omega
    obtain ⟨acc, base, lc, hb, s3, rfl, g3, u3, hl, ha⟩ := lComp_inv (is := [5]) (G := gN 5) (T := tTrue) (A := eCallN (argsN 2 0 (fun a _ => a) (fz true R)) (aCons (eVar 0) (aCons (e2 subD (eVar 1) (eC (.int 1))) aNil)) aNil) (fun j acc base => ∃ s', base = s' ++ t ∧ GS n c s' ∧ Up n s2 s' ∧ acc.length = j ∧ ∀ d ∈ acc, thg 100 deep d = true) qI (by rw [rng_length]; exact sl1000 (by omega))
      (fun j x acc base hj hbl ⟨s', hbs, g', u', hl, ha⟩ => by
        subst hbs
        obtain ⟨d, s'', qd, td, g'', u''⟩ := hR s' (t ++ [.lst acc]) g' (low_app ht (thg_lows 0 ha)) hpos
        refine ⟨_, rfl, true, s' ++ t, rfl, hbl, fun z => (by cases z), fun _ => ⟨d, s'' ++ t, ?_, by simp [u''.len] at hbl ⊢; omega, s'', rfl, g'', u'.trans u'', by simp [hl], ?_⟩⟩
        · simp [wipeE, qd]
        · intro y hy
          rcases List.mem_append.mp hy with hy | hy
          · exact ha y hy
          · rw [List.mem_singleton] at hy; subst hy; exact td)
      ⟨s2, rfl, g2, Up.refl, rfl, fun d hd => by cases hd⟩ (fun acc base ⟨s', hbs, g', u', hl, ha⟩ => by
        subst hbs
        exact ⟨thg_lows _ ha, all_low_mono (Nat.zero_le _) (by rw [List.all_append, g'.low, ht]; rfl)⟩)
    rw [rng_length] at hl
    have t1 : thg 100 (deep + 1) (.lst acc) = true := thg_lst (by omega) ha
    have t2 : thg 100 (deep + 1) (.tup acc) = true := thg_tup (by omega) ha
    simp only [v_fzt] at lc
    have hw3 : way = 6 ∨ way = 7 ∨ way = 8 := by omega
    rcases hw3 with rfl | rfl | rfl
    · refine fin (d := .lst acc) (s' := s3) ?_ t1 g3 (u1.trans (u2.trans u3))
      simp [pr_l_thing, q1, h0, h0', lc, atI0, -v_rng1]
    · refine fin (d := .tup acc) (s' := s3) ?_ t2 g3 (u1.trans (u2.trans u3))
      simp [pr_l_thing, q1, h0, h0', lc, atI1, -v_rng1]
    · refine fin (d := .tup acc) (s' := s3) ?_ t2 g3 (u1.trans (u2.trans u3))
      simp [pr_l_thing, q1, h0, h0', lc, atI2, -v_rng1]
theorem thing_l {n : Nat} {c : Int} : ∀ (k deep : Nat) (s t : Hs), deep ≤ k → k ≤ 1000 → GS n c s → t.all (Ob.low 0) = true → ∃ d s', Lb.run (pl_l_thing (k + 1)) [.ref n, .int deep] (s ++ t) = .ok d (s' ++ t) ∧ thg 100 (deep + 1) d = true ∧ GS n c s' ∧ Up n s s'
  | 0, deep, s, t, hd, hk, g, ht => thing_step g ht (by omega) fun s t _ _ h0 => by omega
  | k + 1, deep, s, t, hd, hk, g, ht => thing_step g ht (by omega) fun s t g' ht' h0 => by
    have := thing_l k (deep - 1) s t (by omega) (by omega) g' ht'
    rw [show ((deep - 1 : Nat) : Int) = (deep : Int) - 1 by omega, show deep - 1 + 1 = deep by omega] at this
    exact this
theorem thing_s {n : Nat} {c : Int} {s t : Hs} {deep : Nat} (hd : deep ≤ 4) (g : GS n c s) (ht : t.all (Ob.low 0) = true) : ∃ d s', Lb.run p_l_thing [.ref n, .int deep] (s ++ t) = .ok d (s' ++ t) ∧ thg 100 (deep + 1) d = true ∧ GS n c s' ∧ Up n s s' :=
  thing_l 4 deep s t hd (by decide) g ht
end Lb

set_option Elab.async false
set_option linter.all false
set_option maxRecDepth 100000
set_option maxHeartbeats 4000000
namespace Lb
open PySem PySem.Spec PyProof.Rows L2
/-! ### what is asked of an object of the store -/
def onL {α : Type} (o : Option Ob) (k : List D → R α) : R α := match o with
  | some (.lst xs) => k xs
  | _ => .bad
def onD {α : Type} (o : Option Ob) (k : List (D × D) → R α) : R α := match o with
  | some (.dict xs) => k xs
  | _ => .bad
def isLo : Option Ob → Bool
  | some (.lst _) => true
  | _ => false
def isDo : Option Ob → Bool
  | some (.dict _) => true
  | _ => false
def atR {α : Type} (o : Option D) (k : D → R α) : R α := match o with
  | some d => k d
  | none => .bad
section
variable {h : Hs} {n : Nat} {d v : D} {i : Int} {xs ys : List D} {kvs : List (D × D)} {α : Type}
@[simp] theorem onL_s {k : List D → R α} : onL (some (.lst xs)) k = k xs := rfl
@[simp] theorem onD_s {k : List (D × D) → R α} : onD (some (.dict kvs)) k = k kvs := rfl
@[simp] theorem isLo_s : isLo (some (.lst xs)) = true := rfl
@[simp] theorem isDo_s : isDo (some (.dict kvs)) = true := rfl
@[simp] theorem atR_s {k : D → R α} : atR (some d) k = k d := rfl
theorem lstOf_ref : listOf h (.ref n) = match h[n]? with | some (.lst xs) => some xs | _ => none := rfl
@[simp] theorem tupD_ref : tupleD [.ref n] h = onL h[n]? fun xs => .ok (.tup xs) h := by
  show (match seqOf h (.ref n) with | some ys => R.ok (D.tup ys) h | none => .bad) = _
  unfold onL
  simp only [seqOf]
  cases q : h[n]? with
  | none => rfl
  | some o => cases o <;> rfl
@[simp] theorem lenD_ref : lenD [.ref n] h = onL h[n]? fun xs => .ok (.int xs.length) h := by
  show (match seqOf h (.ref n) with | some ys => R.ok (D.int ys.length) h | none => .bad) = _
  unfold onL
  simp only [seqOf]
  cases q : h[n]? with
  | none => rfl
  | some o => cases o <;> rfl
@[simp] theorem listAL_ref : listAL [.ref n] h = match h[n]? with | some (.lst xs) => .ok xs h | some (.dict kvs) => .ok (kvs.map (·.1)) h | _ => .bad := by
  show (match allOf h (.ref n) with | some ys => R.ok ys h | none => .bad) = _
  unfold allOf
  simp only [seqOf]
  cases q : h[n]? with
  | none => rfl
  | some o => cases o <;> rfl
@[simp] theorem appD_ref : appendD (.ref n) [d] h = onL h[n]? fun xs => if xs.length < sizeLine then .ok .non (h.set n (.lst (xs ++ [d]))) else .bad := by
  unfold appendD onL
  rfl
@[simp] theorem ixD_ref : ixD (.ref n) (.int i) h = onL h[n]? fun xs => atR (atI xs i) fun d => .ok d h := by
  show (match seqOf h (.ref n) with | some xs => (match atI xs i with | some d => R.ok d h | none => .bad) | none => .bad) = _
  unfold onL atR
  simp only [seqOf]
  cases q : h[n]? with
  | none => rfl
  | some o => cases o <;> rfl
@[simp] theorem setD_ref : setD (.ref n) (.int i) v h = onL h[n]? fun xs => match ixN xs.length i with | some j => .ok () (h.set n (.lst (xs.set j v))) | none => .bad := rfl
@[simp] theorem lstM_ref {P : List D → List D → Option (D × List D)} : lstMD P (.ref n) xs h = onL h[n]? fun ys => match P xs ys with | some (d, zs) => .ok d (h.set n (.lst zs)) | none => .bad := rfl
@[simp] theorem tyD_list : tyD "list" h (.ref n) = isLo h[n]? := by
  unfold tyD isLo
  simp only []
  cases q : h[n]? with
  | none => rfl
  | some o => cases o <;> rfl
@[simp] theorem tyD_dict : tyD "dict" h (.ref n) = (isDo h[n]? || match h[n]? with | some (.dks _) => true | _ => false) := by
  unfold tyD isDo
  simp only []
  cases q : h[n]? with
  | none => rfl
  | some o => cases o <;> rfl
@[simp] theorem lSl_ref {lo hi : Option Int} : lSliceD (.ref n) lo hi h = onL h[n]? fun xs => .ok (cutD xs lo hi) h := by
  unfold lSliceD onL
  simp only [listOf]
  cases q : h[n]? with
  | none => rfl
  | some o => cases o <;> rfl
@[simp] theorem setSl_ref {a c : Int} : setSlD (.ref n) (some a) (some c) (.lst ys) h = onL h[n]? fun xs => if 0 ≤ a ∧ a ≤ c ∧ a ≤ xs.length ∧ xs.length + ys.length ≤ sizeLine then .ok () (h.set n (.lst (xs.take a.toNat ++ ys ++ xs.drop c.toNat))) else .bad := rfl
@[simp] theorem v_putSl {A O : Ev} {P Q : Po} {e : En} : sPutSl A O P Q e h = (A e h).st e fun v h1 => (O e h1).st e fun o h2 => (P e h2).st e fun lo h3 => (Q e h3).st e fun hi h4 => (setSlD o lo hi v h4).st e fun _ h5 => .nx e h5 := rfl
theorem eqNilR (hf : xs.all (D.fit 39) = true) (hn : h[n]? = some (.lst xs)) : bD eqB (.ref n) (.lst []) h = .ok (.bl xs.isEmpty) h := eqD_of (eqB_nilR hn hf)
theorem neNilR (hf : xs.all (D.fit 39) = true) (hn : h[n]? = some (.lst xs)) : nbD eqB (.ref n) (.lst []) h = .ok (.bl (!xs.isEmpty)) h := neD_of (eqB_nilR hn hf)
end
/-- what a store that was changed at the well alone looks like behind its end -/
theorem up_split {n : Nat} {c : Int} {s t B : Hs} (hn : n < s.length) (g : GS n c B) (u : Up n (s ++ t) B) : ∃ s', B = s' ++ t ∧ GS n c s' ∧ Up n s s' := by
  have hl : B.length = s.length + t.length := by rw [u.len, List.length_append]
  have e : B = B.take s.length ++ t := by
    have e2 : B.drop s.length = t := by
      refine List.ext_getElem? fun i => ?_
      rw [List.getElem?_drop, u.at_ _ (by omega), List.getElem?_append_right (by omega)]
      congr 1
      omega
    conv => lhs; rw [← List.take_append_drop s.length B, e2]
  have lt : (B.take s.length).length = s.length := by rw [List.length_take]; omega
  refine ⟨B.take s.length, e, ⟨?_, g.hc, ?_⟩, lt, fun k hk => ?_⟩
  · obtain ⟨a, b, q, r⟩ := g.ex
    exact ⟨a, b, by rw [List.getElem?_take, if_pos hn]; exact q, r⟩
  · have := g.low
    rw [e, List.all_append, Bool.and_eq_true] at this
    exact this.1
  · rw [List.getElem?_take]
    by_cases h1 : k < s.length
    · rw [if_pos h1, u.at_ k hk, List.getElem?_append_left h1]
    · rw [if_neg h1, List.getElem?_eq_none (by omega)]
end Lb

set_option Elab.async false
set_option linter.all false
set_option maxRecDepth 100000
set_option maxHeartbeats 4000000
namespace Lb
open PySem PySem.Spec PyProof.Rows L2
/-! ### _law_otherwise -/
def otTail : Sv := (sSeq (sSet 5 (eCallN (argsN 2 0 (fun a _ => a) (fz true p_l_take)) (aCons (eVar 0) (aCons (eC (.int 9)) aNil)) aNil))
    (sSeq (sIf (tE (e2 eqD (eVar 5) (eC (.int 0)))) (sDrop (eMeth "list" (lstMD popP) (eVar 3) (aCons (eVar 4) aNil))) (sIf (tE (e2 eqD (eVar 5) (eC (.int 1)))) (sDrop (eMeth "list" (lstMD insertP) (eVar 3) (aCons (eVar 4) (aCons (e2 ixD (eVar 3) (eVar 4)) aNil)))) (sIf (tE (e2 eqD (eVar 5) (eC (.int 2)))) (sPutSl (eFroz (lRev (eFroz (lSlice (eVar 3) (pSome (eVar 4)) (pSome (e2 addD (eVar 4) (eC (.int 2)))))))) (eVar 3) (pSome (eVar 4)) (pSome (e2 addD (eVar 4) (eC (.int 2))))) (sIf (tE (e2 eqD (eVar 5) (eC (.int 3)))) (sPut (eCallN (argsN 2 0 (fun a _ => a) (fz true p_l_thing)) (aCons (eVar 0) (aCons (eC (.int 2)) aNil)) aNil) (eVar 3) (eVar 4)) (sIf (tOr (tE (e2 eqD (eVar 5) (eC (.int 4)))) (tE (e2 eqD (eVar 5) (eC (.int 5))))) (sSeq (sSet 6 (eFroz (lDisp (aCons (eC (.int 0)) (aCons (eC (.int 1)) (aCons (e1 negD (eC (.int 1))) (aCons (eC (.int 2)) (aCons (eC (.int 8)) (aCons (eC (.int 9)) (aCons (eC (.int 200)) (aCons (eC (.int 201)) (aCons (eC (.int 400)) (aCons (eC (.int 401)) (aCons (eC .non) (aCons (eC (.bl true)) (aCons (eC (.bl false)) (aCons (eC (.str "a")) (aCons (eTup aNil) (aCons (eTup (aCons (eC (.int 1)) (aCons (eC (.int 1)) aNil))) (aCons (eTup (aCons (eC (.int 2)) (aCons (eC (.int 4)) aNil))) (aCons (eTup (aCons (eC (.int 0)) (aCons (eC (.int 1)) aNil))) (aCons (eC (.int 7)) (aCons (eC (.str "cut")) aNil)))))))))))))))))))))))
    (sPut (e2 ixD (eVar 6) (eCallN (argsN 2 0 (fun a _ => a) (fz true p_l_take)) (aCons (eVar 0) (aCons (eC (.int 20)) aNil)) aNil)) (eVar 3) (eVar 4))) (sIf (tAnd (tE (e2 eqD (eVar 5) (eC (.int 6)))) (tAnd (tE (e1 (isiD "int") (e2 ixD (eVar 3) (eVar 4)))) (tNot (tE (e1 (isiD "bool") (e2 ixD (eVar 3) (eVar 4))))))) (sPut (e2 addD (e2 ixD (eVar 3) (eVar 4)) (e2 ixD (eFroz (lDisp (aCons (eC (.int 1)) (aCons (e1 negD (eC (.int 1))) (aCons (eC (.int 8)) (aCons (e1 negD (eC (.int 12))) aNil)))))) (eCallN (argsN 2 0 (fun a _ => a) (fz true p_l_take)) (aCons (eVar 0) (aCons (eC (.int 4)) aNil)) aNil))) (eVar 3) (eVar 4)) (sIf (tAnd (tE (e2 eqD (eVar 5) (eC (.int 7)))) (tE (e1 (isiD "tuple") (e2 ixD (eVar 3) (eVar 4))))) (sPut (eFroz (lCall listAL (aCons (e2 ixD (eVar 3) (eVar 4)) aNil))) (eVar 3) (eVar 4)) (sIf (tAnd (tE (e2 eqD (eVar 5) (eC (.int 8)))) (tE (e1 (isiD "str") (e2 ixD (eVar 3) (eVar 4))))) (sPut (e2 addD (e2 ixD (eVar 3) (eVar 4)) (e2 ixD (eFroz (lDisp (aCons (eC (.str "a")) (aCons (eC (.str "A")) (aCons (eC (.str " ")) (aCons (eC (.str "bbbbbbbb")) aNil)))))) (eCallN (argsN 2 0 (fun a _ => a) (fz true p_l_take)) (aCons (eVar 0) (aCons (eC (.int 4)) aNil)) aNil))) (eVar 3) (eVar 4)) (sRet (eVar 3))))))))))
    (sRet (eCall tupleD (aCons (eVar 3) aNil)))))
def otHead (R : Fn) (T : Sv) : Sv := (sSeq (sSet 3 (eMut (lCall listAL (aCons (eVar 1) aNil))))
    (sSeq (sIf (tE (e2 eqD (eVar 3) (eFroz (lDisp aNil)))) (sRet (eTup (aCons (eCallN (argsN 2 0 (fun a _ => a) (fz true p_l_thing)) (aCons (eVar 0) (aCons (eC (.int 1)) aNil)) aNil) aNil))) sPass)
    (sSeq (sSet 4 (eCallN (argsN 2 0 (fun a _ => a) (fz true p_l_take)) (aCons (eVar 0) (aCons (eCall lenD (aCons (eVar 3) aNil)) aNil)) aNil))
    (sSeq (sIf (tAnd (tE (e1 (isiD "tuple") (e2 ixD (eVar 3) (eVar 4)))) (tAnd (tE (e2 gtD (eVar 2) (eC (.int 0)))) (tE (e2 gtD (eCallN (argsN 2 0 (fun a _ => a) (fz true p_l_take)) (aCons (eVar 0) (aCons (eC (.int 4)) aNil)) aNil) (eC (.int 0)))))) (sSeq (sPut (eCallN (argsN 3 0 (fun a _ => a) (fz true R)) (aCons (eVar 0) (aCons (e2 ixD (eVar 3) (eVar 4)) (aCons (e2 subD (eVar 2) (eC (.int 1))) aNil))) aNil) (eVar 3) (eVar 4))
    (sRet (eCall tupleD (aCons (eVar 3) aNil)))) sPass) T))))
theorem other_is (R : Fn) : pr_l_otherwise R = fnB 7 (otHead R otTail) := rfl
theorem atI_at {xs : List D} {v : Int} (h0 : 0 ≤ v) (h1 : v < xs.length) : ∃ (hv : v.toNat < xs.length), atI xs v = some xs[v.toNat] ∧ ixN xs.length v = some v.toNat := by
  have hl : v.toNat < xs.length := by omega
  refine ⟨hl, atI_nat h0 (List.getElem?_eq_getElem hl), ?_⟩
  unfold ixN
  rw [if_pos h0, if_pos h1]
theorem popP_at {xs : List D} {v : Int} (h0 : 0 ≤ v) (h1 : v < xs.length) (hz : xs.length ≤ 100000) : popP [.int v] xs = some (xs[v.toNat]'(by omega), xs.eraseIdx v.toNat) := by
  have hl : v.toNat < xs.length := by omega
  have e : seqIndex? v xs.length = some v.toNat := by
    have hn : ¬ v < 0 := by omega
    simp [seqIndex?, hn, h0, h1]
  show (if -(2 ^ 63) ≤ v ∧ v < 2 ^ 63 then (seqIndex? v xs.length).bind fun k => (xs[k]?).map fun y => (y, xs.eraseIdx k) else none) = _
  rw [if_pos (by omega), e]
  simp [hl]
theorem insP_at {xs : List D} {v : Int} {y : D} (h0 : 0 ≤ v) (h1 : v < xs.length) (hz : xs.length ≤ 100000) : insertP [.int v, y] xs = some (.non, xs.take v.toNat ++ [y] ++ xs.drop v.toNat) := by
  have : (100000 : Nat) < sizeLine := by decide
  exact if_pos (by omega)
def nearL : List D := [.int 0, .int 1, .int (-1), .int 2, .int 8, .int 9, .int 200, .int 201, .int 400, .int 401, .non, .bl true, .bl false, .str "a", .tup [], .tup [.int 1, .int 1], .tup [.int 2, .int 4], .tup [.int 0, .int 1], .int 7, .str "cut"]
theorem nearL_ok : ∀ d ∈ nearL, thg 100 1 d = true := by decide +kernel
def strL : List Str := ["a", "A", " ", "bbbbbbbb"]
theorem strL_ok : ∀ d ∈ strL, PyData.strOk d = true ∧ d.length ≤ 8 := by decide +kernel
def intL : List Int := [1, -1, 8, -12]
theorem strOk_app {a b : Str} (h1 : PyData.strOk a = true) (h2 : PyData.strOk b = true) : PyData.strOk (a ++ b) = true := by
  unfold PyData.strOk at *
  show (a.cps ++ b.cps).all _ = true
  rw [Array.all_append, h1, h2]
  rfl
theorem len_app (a b : Str) : (a ++ b).length = a.length + b.length := by
  show (a.cps ++ b.cps).size = _
  rw [Array.size_append]
  rfl
@[simp] theorem add_str {a b : Str} {h : Hs} : addD (.str a) (.str b) h = szt (a.length + b.length) (.ok (.str (a ++ b)) h) := rfl
theorem lb_low {n L : Nat} {xs : List D} (h : ∀ x ∈ xs, thg L n x = true) : [Ob.lst xs].all (Ob.low 0) = true := by simp [Ob.low, thg_lows 0 h]
/-- xs with d put at a place -/
theorem set_ok' {L n : Nat} {xs : List D} {d : D} {k : Nat} (h : ∀ x ∈ xs, thg L n x = true) (hd : thg L n d = true) : ∀ x ∈ xs.set k d, thg L n x = true := fun x hx => by
  rcases List.mem_or_eq_of_mem_set hx with q | q
  · exact h x q
  · subst q; exact hd
section
variable {n : Nat} {c : Int} {s : Hs} {L N : Nat} {xs : List D} {v : Int} {a1 a2 : Option D}
theorem tail_s (g : GS n c s) (hL : 100 ≤ L) (hM : L ≤ 5000) (hN : 2 ≤ N) (hx : ∀ x ∈ xs, thg L (N + 1) x = true) (hl : xs.length ≤ L) (hv : 0 ≤ v ∧ v < xs.length) :
    ∃ (zs : List D) (s' : Hs) (b : Bool), otTail [some (.ref n), a1, a2, some (.ref s.length), some (.int v), none, none] (s ++ [.lst xs]) = .rt (if b then .tup zs else .ref s.length) (s' ++ [.lst zs]) ∧
      (∀ z ∈ zs, thg (L + 8) (N + 1) z = true) ∧ zs.length ≤ L + 8 ∧ GS n c s' ∧ Up n s s' := by
  obtain ⟨w, s1, hw, g1, u1, q1⟩ := take_b (m := 9) (t := [.lst xs]) g (by decide) (lb_low hx)
  have l1 : s1.length = s.length := u1.len
  obtain ⟨hk, ea, ei⟩ := atI_at hv.1 hv.2
  have hx8 : ∀ x ∈ xs, thg (L + 8) (N + 1) x = true := fun x hx' => thg_mono (by omega) (Nat.le_refl _) (hx x hx')
  have b8 : (100000 : Nat) < sizeLine := by decide
  have setc : ∀ {d : D}, thg (L + 8) (N + 1) d = true → (∀ z ∈ xs.set v.toNat d, thg (L + 8) (N + 1) z = true) ∧ (xs.set v.toNat d).length ≤ L + 8 := fun {d} hd => ⟨set_ok' hx8 hd, by rw [List.length_set]; omega⟩
  have l1' : s.length = s1.length := l1.symm
  rw [l1'] at *
  have pop := popP_at hv.1 hv.2 (by omega)
  have ins := insP_at (y := xs[v.toNat]) hv.1 hv.2 (by omega)
  have hxk : thg L (N + 1) xs[v.toNat] = true := hx _ (List.getElem_mem hk)
  have ret : ∀ {w' : Int}, otTail [some (.ref n), a1, a2, some (.ref s1.length), some (.int v), none, none] (s ++ [.lst xs]) = .rt (.ref s1.length) (s1 ++ [.lst xs]) → ∃ (zs : List D) (s' : Hs) (b : Bool), otTail [some (.ref n), a1, a2, some (.ref s1.length), some (.int v), none, none] (s ++ [.lst xs]) = .rt (if b then .tup zs else .ref s1.length) (s' ++ [.lst zs]) ∧
      (∀ z ∈ zs, thg (L + 8) (N + 1) z = true) ∧ zs.length ≤ L + 8 ∧ GS n c s' ∧ Up n s s' := fun {_} q => ⟨xs, s1, false, q, hx8, by omega, g1, u1⟩
  have h9 : w = 0 ∨ w = 1 ∨ w = 2 ∨ w = 3 ∨ w = 4 ∨ w = 5 ∨ w = 6 ∨ w = 7 ∨ w = 8 := by omega
  rcases h9 with rfl | rfl | rfl | rfl | rfl | rfl | rfl | rfl | rfl
  · refine ⟨xs.eraseIdx v.toNat, s1, true, ?_, fun z hz => hx8 z (List.mem_of_mem_eraseIdx hz), by rw [List.length_eraseIdx]; split <;> omega, g1, u1⟩
    simp [otTail, q1, pop]
  · refine ⟨xs.take v.toNat ++ [xs[v.toNat]] ++ xs.drop v.toNat, s1, true, ?_, fun z hz => ?_, by simp; omega, g1, u1⟩
    · simp [otTail, q1, ea, ins]
    · simp only [List.mem_append, List.mem_singleton] at hz
      rcases hz with (hz | hz) | hz
      · exact hx8 z (List.mem_of_mem_take hz)
      · subst hz; exact thg_mono (by omega) (Nat.le_refl _) hxk
      · exact hx8 z (List.mem_of_mem_drop hz)
  · have hc : (cutD xs (some v) (some (v + 2))).length ≤ 2 := by
      unfold cutD HT.sIx
      rw [List.length_take]
      simp only [show ¬ v < 0 by omega, show ¬ v + 2 < 0 by omega, if_false]
      omega
    have hmem : ∀ z ∈ cutD xs (some v) (some (v + 2)), z ∈ xs := fun z hz => by
      unfold cutD at hz
      exact List.mem_of_mem_drop (List.mem_of_mem_take hz)
    refine ⟨xs.take v.toNat ++ (cutD xs (some v) (some (v + 2))).reverse ++ xs.drop (v + 2).toNat, s1, true, ?_, fun z hz => ?_, by simp; omega, g1, u1⟩
    · have cond : 0 ≤ v ∧ v ≤ v + 2 ∧ v ≤ (xs.length : Int) ∧ xs.length + (cutD xs (some v) (some (v + 2))).length ≤ sizeLine := ⟨hv.1, by omega, by omega, by omega⟩
      have cond' : 0 ≤ v ∧ v ≤ (xs.length : Int) ∧ xs.length + (cutD xs (some v) (some (v + 2))).length ≤ sizeLine := ⟨hv.1, by omega, by omega⟩
      simp [otTail, q1, cond, cond']
    · simp only [List.mem_append, List.mem_reverse] at hz
      rcases hz with (hz | hz) | hz
      · exact hx8 z (List.mem_of_mem_take hz)
      · exact hx8 z (hmem z hz)
      · exact hx8 z (List.mem_of_mem_drop hz)
  · obtain ⟨d, s2, qd, td, g2, u2⟩ := thing_s (deep := 2) (t := [.lst xs]) (by decide) g1 (lb_low hx)
    obtain ⟨z1, z2⟩ := setc (d := d) (thg_mono (by omega) (by omega) td)
    have l2 : s1.length = s2.length := u2.len.symm
    refine ⟨xs.set v.toNat d, s2, true, ?_, z1, z2, g2, u1.trans u2⟩
    have qd' : Lb.run p_l_thing [.ref n, .int 2] (s1 ++ [.lst xs]) = .ok d (s2 ++ [.lst xs]) := qd
    simp [otTail, q1, qd', l2, ei]
  · obtain ⟨i, s2, hi, g2, u2, q2⟩ := take_b (m := 20) (t := [.lst xs]) g1 (by decide) (lb_low hx)
    obtain ⟨d, ed, hm⟩ := atI_mem (xs := nearL) hi.1 (by have : nearL.length = 20 := rfl; omega)
    obtain ⟨z1, z2⟩ := setc (d := d) (thg_mono (by omega) (by omega) (nearL_ok d hm))
    have l2 : s1.length = s2.length := u2.len.symm
    refine ⟨xs.set v.toNat d, s2, true, ?_, z1, z2, g2, u1.trans u2⟩
    unfold nearL at ed
    simp [otTail, q1, q2, ed, l2, ei]
  · obtain ⟨i, s2, hi, g2, u2, q2⟩ := take_b (m := 20) (t := [.lst xs]) g1 (by decide) (lb_low hx)
    obtain ⟨d, ed, hm⟩ := atI_mem (xs := nearL) hi.1 (by have : nearL.length = 20 := rfl; omega)
    obtain ⟨z1, z2⟩ := setc (d := d) (thg_mono (by omega) (by omega) (nearL_ok d hm))
    have l2 : s1.length = s2.length := u2.len.symm
    refine ⟨xs.set v.toNat d, s2, true, ?_, z1, z2, g2, u1.trans u2⟩
    unfold nearL at ed
    simp [otTail, q1, q2, ed, l2, ei]
  · generalize hxv : xs[v.toNat] = x at *
    cases x with
    | int k =>
      obtain ⟨i, s2, hi, g2, u2, q2⟩ := take_b (m := 4) (t := [.lst xs]) g1 (by decide) (lb_low hx)
      obtain ⟨d, ed, hm⟩ := atI_mem (xs := intL.map D.int) hi.1 (by have : (intL.map D.int).length = 4 := rfl; omega)
      obtain ⟨j, _, rfl⟩ := List.mem_map.mp hm
      obtain ⟨z1, z2⟩ := setc (d := .int (k + j)) rfl
      have l2 : s1.length = s2.length := u2.len.symm
      refine ⟨xs.set v.toNat (.int (k + j)), s2, true, ?_, z1, z2, g2, u1.trans u2⟩
      simp only [intL, List.map_cons, List.map_nil] at ed
      simp [otTail, q1, ea, q2, ed, l2, ei]
    | ref _ => simp [thg] at hxk
    | scr _ => simp [thg] at hxk
    | _ => exact ret (w' := 0) (by simp [otTail, q1, ea])
  · generalize hxv : xs[v.toNat] = x at *
    cases x with
    | tup ys =>
      have ty : thg (L + 8) (N + 1) (.lst ys) = true := by
        have := thg_mono (L := L) (M := L + 8) (by omega) (Nat.le_refl _) hxk
        simpa only [thg] using this
      obtain ⟨z1, z2⟩ := setc ty
      refine ⟨xs.set v.toNat (.lst ys), s1, true, ?_, z1, z2, g1, u1⟩
      simp [otTail, q1, ea, ei]
    | ref _ => simp [thg] at hxk
    | scr _ => simp [thg] at hxk
    | _ => exact ret (w' := 0) (by simp [otTail, q1, ea])
  · generalize hxv : xs[v.toNat] = x at *
    cases x with
    | str z =>
      obtain ⟨i, s2, hi, g2, u2, q2⟩ := take_b (m := 4) (t := [.lst xs]) g1 (by decide) (lb_low hx)
      obtain ⟨d, ed, hm⟩ := atI_mem (xs := strL.map D.str) hi.1 (by have : (strL.map D.str).length = 4 := rfl; omega)
      obtain ⟨j, hj, rfl⟩ := List.mem_map.mp hm
      obtain ⟨o1, o2⟩ := strL_ok j hj
      simp only [thg, Bool.and_eq_true, decide_eq_true_eq] at hxk
      have lz : z.length + j.length ≤ 1000000 := by omega
      obtain ⟨z1, z2⟩ := setc (d := .str (z ++ j)) (by simp only [thg, Bool.and_eq_true, decide_eq_true_eq]; exact ⟨strOk_app hxk.1 o1, by rw [len_app]; omega⟩)
      have l2 : s1.length = s2.length := u2.len.symm
      refine ⟨xs.set v.toNat (.str (z ++ j)), s2, true, ?_, z1, z2, g2, u1.trans u2⟩
      simp only [strL, List.map_cons, List.map_nil] at ed
      simp [otTail, q1, ea, q2, ed, l2, ei, szt_ok lz]
    | ref _ => simp [thg] at hxk
    | scr _ => simp [thg] at hxk
    | _ => exact ret (w' := 0) (by simp [otTail, q1, ea])
theorem atU {s1 t : Hs} {o : Ob} (u : s1.length = s.length) : (s1 ++ o :: t)[s.length]? = some o := by rw [← u]; exact at0
theorem setU {s1 t : Hs} {o o' : Ob} (u : s1.length = s.length) : (s1 ++ o :: t).set s.length o' = s1 ++ o' :: t := by rw [← u]; exact set0
theorem head_s {R : Fn} {deep : Nat} (g : GS n c s) (hL : 100 ≤ L) (hM : L ≤ 5000) (hN : 2 ≤ N) (hN2 : N ≤ 38) (hx : ∀ x ∈ xs, thg L (N + 1) x = true) (hl : xs.length ≤ L)
    (hR : ∀ ys s t, GS n c s → t.all (Ob.low 0) = true → ys.length ≤ L → (∀ y ∈ ys, thg L N y = true) → 0 < deep → ∃ d s', Lb.run R [.ref n, .tup ys, .int ((deep : Int) - 1)] (s ++ t) = .ok d (s' ++ t) ∧ thg (L + 8) (N + 1) d = true ∧ GS n c s' ∧ Up n s s') :
    ∃ d s', Lb.run (pr_l_otherwise R) [.ref n, .tup xs, .int deep] s = .ok d s' ∧ thg (L + 8) (N + 2) d = true ∧ GS n c s' ∧ Up n s s' := by
  have hf : xs.all (D.fit 39) = true := by
    rw [List.all_eq_true]
    exact fun x hx' => fit_mono (by omega) x (thg_fit (hx x hx'))
  have e0 := eqNilR (h := s ++ [.lst xs]) (n := s.length) hf at0
  have ft : ∀ {zs : List D} {s' : Hs}, fnB 7 (otHead R otTail) [.ref n, .tup xs, .int deep] s = .ok (.tup zs) (s' ++ [.lst zs]) → (∀ z ∈ zs, thg (L + 8) (N + 1) z = true) → zs.length ≤ L + 8 → GS n c s' → Up n s s' → ∃ d s', Lb.run (pr_l_otherwise R) [.ref n, .tup xs, .int deep] s = .ok d s' ∧ thg (L + 8) (N + 2) d = true ∧ GS n c s' ∧ Up n s s' := fun {zs s'} q hz hzl g' u' =>
    ⟨.tup zs, s', by rw [other_is]; exact run_up q u'.len (all_low_mono (Nat.zero_le _) g'.low) (thg_low _ (thg_tup hzl hz)), thg_tup hzl hz, g', u'⟩
  by_cases hemp : xs = []
  · subst hemp
    obtain ⟨d, s1, qd, td, g1, u1⟩ := thing_s (deep := 1) (t := [.lst []]) (by decide) g rfl
    have qd' : Lb.run p_l_thing [.ref n, .int 1] (s ++ [.lst []]) = .ok d (s1 ++ [.lst []]) := qd
    have t1 : thg (L + 8) (N + 2) (.tup [d]) = true := thg_tup (by simp) fun x hx => by rw [List.mem_singleton] at hx; subst hx; exact thg_mono (by omega) (by omega) td
    refine ⟨.tup [d], s1, ?_, t1, g1, u1⟩
    rw [other_is]
    refine run_up (t := [.lst []]) ?_ u1.len (all_low_mono (Nat.zero_le _) g1.low) (thg_low _ t1)
    simp [otHead, e0, qd']
  · have hne : xs.isEmpty = false := by cases xs with | nil => exact absurd rfl hemp | cons _ _ => rfl
    have hpos : 0 < xs.length := List.length_pos_iff.mpr hemp
    rw [hne] at e0
    obtain ⟨v, s1, hv, g1, u1, q1⟩ := take_b (m := (xs.length : Int)) (t := [.lst xs]) g (by omega) (lb_low hx)
    obtain ⟨hk, ea, ei⟩ := atI_at hv.1 hv.2
    have hxk : thg L (N + 1) xs[v.toNat] = true := hx _ (List.getElem_mem hk)
    have l1 : s.length = s1.length := u1.len.symm
    -- the end by the tail, from any store that is s but for the well
    have tl : ∀ {s2 : Hs}, GS n c s2 → Up n s s2 → (fnB 7 (otHead R otTail) [.ref n, .tup xs, .int deep] s = fnE (otTail [some (.ref n), some (.tup xs), some (.int deep), some (.ref s.length), some (.int v), none, none] (s2 ++ [.lst xs]))) →
        ∃ d s', Lb.run (pr_l_otherwise R) [.ref n, .tup xs, .int deep] s = .ok d s' ∧ thg (L + 8) (N + 2) d = true ∧ GS n c s' ∧ Up n s s' := fun {s2} g2 u2 q => by
      have l2 : s.length = s2.length := u2.len.symm
      obtain ⟨zs, s3, b, q3, hz, hzl, g3, u3⟩ := tail_s (a1 := some (.tup xs)) (a2 := some (.int deep)) g2 hL hM hN hx hl hv
      rw [← l2] at q3
      rw [q3] at q
      cases b with
      | true => exact ft q hz hzl g3 (u2.trans u3)
      | false =>
        have u := u2.trans u3
        refine ⟨.lst zs, s3, ?_, thg_lst hzl hz, g3, u⟩
        rw [other_is]
        exact run_upl (t := [.lst zs]) (k := s.length) q u.len (all_low_mono (Nat.zero_le _) g3.low) (Nat.le_refl _) (by rw [← u.len]; exact at0) (thg_lows _ hz)
    generalize hxv : xs[v.toNat] = x at *
    have nt : isT "tuple" x = false → fnB 7 (otHead R otTail) [.ref n, .tup xs, .int deep] s = fnE (otTail [some (.ref n), some (.tup xs), some (.int deep), some (.ref s.length), some (.int v), none, none] (s1 ++ [.lst xs])) := fun hT => by
      cases x with
      | tup _ => simp [isT] at hT
      | ref _ => simp [thg] at hxk
      | scr _ => simp [thg] at hxk
      | _ => simp [otHead, e0, q1, atU u1.len, ea]
    cases x with
    | tup ys =>
      simp only [thg, Bool.and_eq_true, List.all_eq_true, decide_eq_true_eq] at hxk
      by_cases hd : 0 < deep
      · obtain ⟨w, s2, hw, g2, u2, q2⟩ := take_b (m := 4) (t := [.lst xs]) g1 (by decide) (lb_low hx)
        have l2 : s1.length = s2.length := u2.len.symm
        by_cases hw0 : 0 < w
        · obtain ⟨d, s3, q3, td, g3, u3⟩ := hR ys s2 [.lst xs] g2 (lb_low hx) hxk.1 hxk.2 hd
          have l3 : s2.length = s3.length := u3.len.symm
          refine ft (zs := xs.set v.toNat d) (s' := s3) ?_ (set_ok' (fun x hx' => thg_mono (by omega) (Nat.le_refl _) (hx x hx')) td) (by rw [List.length_set]; omega) g3 (u1.trans (u2.trans u3))
          simp [otHead, e0, q1, atU u1.len, ea, q2, hd, hw0, atU (u1.trans u2).len, q3, atU (u1.trans (u2.trans u3)).len, setU (u1.trans (u2.trans u3)).len, ei]
        · exact tl g2 (u1.trans u2) (by simp [otHead, e0, q1, atU u1.len, ea, q2, hd, hw0])
      · exact tl g1 u1 (by simp [otHead, e0, q1, atU u1.len, ea, hd])
    | ref _ => simp [thg] at hxk
    | scr _ => simp [thg] at hxk
    | _ => exact tl g1 u1 (nt rfl)
end
theorem other_l {n : Nat} {c : Int} {L : Nat} (hL : 100 ≤ L) (hM : L ≤ 5000) : ∀ (k deep N : Nat) (s : Hs) (xs : List D), deep ≤ k → deep + 2 ≤ N → N ≤ 38 → GS n c s → (∀ x ∈ xs, thg L (N + 1) x = true) → xs.length ≤ L →
    ∃ d s', Lb.run (pl_l_otherwise (k + 1)) [.ref n, .tup xs, .int deep] s = .ok d s' ∧ thg (L + 8) (N + 2) d = true ∧ GS n c s' ∧ Up n s s'
  | 0, deep, N, s, xs, hd, hN, hN2, g, hx, hl => head_s g hL hM (by omega) hN2 hx hl fun ys s t _ _ _ _ h0 => by omega
  | k + 1, deep, N, s, xs, hd, hN, hN2, g, hx, hl => head_s g hL hM (by omega) hN2 hx hl fun ys s t g' ht hy hys h0 => by
    obtain ⟨N', rfl⟩ : ∃ N', N = N' + 1 := ⟨N - 1, by omega⟩
    obtain ⟨d, B, q, td, gB, uB⟩ := other_l hL hM k (deep - 1) N' (s ++ t) ys (by omega) (by omega) (by omega) (g'.app ht) hys hy
    obtain ⟨s', rfl, gs, us⟩ := up_split g'.lt gB uB
    rw [show ((deep - 1 : Nat) : Int) = (deep : Int) - 1 by omega] at q
    exact ⟨d, s', q, td, gs, us⟩
theorem other_s {n : Nat} {c : Int} {L deep N : Nat} {s : Hs} {xs : List D} (hL : 100 ≤ L) (hM : L ≤ 5000) (hd : deep ≤ 3) (hN : deep + 2 ≤ N) (hN2 : N ≤ 38) (g : GS n c s) (hx : ∀ x ∈ xs, thg L (N + 1) x = true) (hl : xs.length ≤ L) :
    ∃ d s', Lb.run p_l_otherwise [.ref n, .tup xs, .int deep] s = .ok d s' ∧ thg (L + 8) (N + 2) d = true ∧ GS n c s' ∧ Up n s s' := other_l hL hM 3 deep N s xs hd hN hN2 g hx hl
end Lb

set_option Elab.async false
set_option linter.all false
set_option maxRecDepth 100000
set_option maxHeartbeats 4000000
namespace Lb
open PySem PySem.Spec PyProof.Rows L2
/-! ### dicts that hold True at places: made, asked, popped -/
section
variable {α : Type} [DecidableEq α] {enc : α → D}
theorem mem_cfold (xs cs : List α) (x : α) : x ∈ xs.foldl cadd cs ↔ x ∈ cs ∨ x ∈ xs := by
  induction xs generalizing cs with
  | nil => simp
  | cons y xs ih =>
    rw [List.foldl_cons, ih, mem_cadd, List.mem_cons]
    constructor
    · rintro ((h | h) | h)
      · exact .inl h
      · exact .inr (.inl h)
      · exact .inr (.inr h)
    · rintro (h | h | h)
      · exact .inl (.inl h)
      · exact .inl (.inr h)
      · exact .inr h
theorem len_cfold (xs cs : List α) : (xs.foldl cadd cs).length ≤ cs.length + xs.length := by
  induction xs generalizing cs with
  | nil => simp
  | cons y xs ih =>
    rw [List.foldl_cons]
    have := ih (cadd cs y)
    have := len_cadd cs y
    simp
    omega
theorem cfold_self : ∀ (xs cs : List α), xs.Nodup → (∀ x ∈ xs, x ∉ cs) → xs.foldl cadd cs = cs ++ xs
  | [], cs, _, _ => by simp
  | x :: xs, cs, hn, hx => by
    rw [List.foldl_cons]
    have e : cadd cs x = cs ++ [x] := if_neg (hx x List.mem_cons_self)
    obtain ⟨h1, h2⟩ := List.nodup_cons.mp hn
    rw [e, cfold_self xs (cs ++ [x]) h2 fun y hy => ?_]
    · simp
    · rw [List.mem_append, List.mem_singleton]
      rintro (q | q)
      · exact hx y (List.mem_cons_of_mem _ hy) q
      · subst q; exact h1 hy
theorem kd_walk (K : Keyed enc) {h : Hs} {i : Nat} {e : En} (he : i < e.length) : ∀ (xs cs : List α), cs.length + xs.length < sizeLine →
    walkL (dOne h.length (gN i) tTrue (eVar i) (eC (.bl true))) (xs.map enc) e (h ++ [.dict (kd enc cs)]) = .ok () (h ++ [.dict (kd enc (xs.foldl cadd cs))])
  | [], cs, _ => rfl
  | x :: xs, cs, hz => by
    have g : dOne h.length (gN i) tTrue (eVar i) (eC (.bl true)) (enc x) e (h ++ [.dict (kd enc cs)]) = .ok () (h ++ [.dict (kd enc (cadd cs x))]) := by
      have q2 : eVar i (e.set i (some (enc x))) (h ++ [.dict (kd enc cs)]) = .ok (enc x) (h ++ [.dict (kd enc cs)]) := var_ok (List.getElem?_set_self he)
      show (match eVar i (e.set i (some (enc x))) (h ++ [.dict (kd enc cs)]) with
        | .ok k h2 => dputD h.length k (.bl true) h2
        | _ => .bad) = _
      rw [q2]
      unfold dputD
      dsimp only
      rw [at0]
      dsimp only
      rw [kd_length, K.ok, if_pos (by simp at hz; simp; omega), dset_kd K, set0]
    show (dOne h.length (gN i) tTrue (eVar i) (eC (.bl true)) (enc x) e (h ++ [.dict (kd enc cs)])).bind (fun _ h1 => walkL _ (xs.map enc) e h1) = _
    rw [g]
    exact kd_walk K he xs (cadd cs x) (by have := len_cadd cs x; simp at hz; omega)
theorem dcomp_keys (K : Keyed enc) {A : Ev} {h : Hs} {i : Nat} {e : En} {xs : List α} (he : i < e.length) (hz : xs.length < sizeLine) (hA : iVal A e h = .ok (.fix (xs.map enc)) h) :
    eDComp (iVal A) [i] (gN i) tTrue (eVar i) (eC (.bl true)) e h = .ok (.ref h.length) (h ++ [.dict (kd enc (xs.foldl cadd []))]) := by
  unfold eDComp
  rw [hA]
  have := kd_walk K (h := h) (e := wipeE e [i]) (i := i) (by rw [wipeE_length]; exact he) xs [] (by simpa using hz)
  show (match walkL (dOne h.length (gN i) tTrue (eVar i) (eC (.bl true))) (xs.map enc) (wipeE e [i]) (h ++ [.dict []]) with
    | .ok _ h2 => R.ok (D.ref h.length) h2
    | _ => .bad) = _
  rw [show ([] : List (D × D)) = kd enc [] from rfl, this]
theorem inB_kd (K : Keyed enc) {h : Hs} {n : Nat} {cs : List α} (hd : h[n]? = some (.dict (kd enc cs)) ∨ h[n]? = some (.fdict (kd enc cs))) (q : α) [dq : Decidable (q ∈ cs)] : inB h (enc q) (.ref n) = some (@decide (q ∈ cs) dq) := by
  have key : (if (enc q).isKey then some (dget (kd enc cs) (enc q)).isSome else none) = some (@decide (q ∈ cs) dq) := by
    rw [K.ok, if_pos rfl, dget_kd K]
    by_cases hq : q ∈ cs
    · rw [if_pos hq, decide_eq_true hq]; rfl
    · rw [if_neg hq, decide_eq_false hq]; rfl
  unfold inB
  rcases hd with hd | hd <;> dsimp only <;> rw [hd] <;> exact key
theorem in_kd (K : Keyed enc) {h : Hs} {n : Nat} {cs : List α} (hd : h[n]? = some (.dict (kd enc cs))) (q : α) [dq : Decidable (q ∈ cs)] : bD inB (enc q) (.ref n) h = .ok (.bl (@decide (q ∈ cs) dq)) h := inD_of (inB_kd K (.inl hd) q)
theorem nin_kd (K : Keyed enc) {h : Hs} {n : Nat} {cs : List α} (hd : h[n]? = some (.dict (kd enc cs))) (q : α) [dq : Decidable (q ∈ cs)] : nbD inB (enc q) (.ref n) h = .ok (.bl (!@decide (q ∈ cs) dq)) h := ninD_of (inB_kd K (.inl hd) q)
theorem ddel_kd (K : Keyed enc) (cs : List α) (q : α) : ddel (kd enc cs) (enc q) = kd enc (cs.filter fun c => decide (c ≠ q)) := by
  unfold ddel kd
  rw [List.filter_map]
  congr 1
  refine List.filter_congr fun c _ => ?_
  show decide ((enc c).key ≠ (enc q).key) = decide (c ≠ q)
  rw [decide_eq_decide]
  exact not_congr ⟨K.inj c q, fun e => by rw [e]⟩
theorem dpop_kd (K : Keyed enc) {h : Hs} {n : Nat} {cs : List α} (hd : h[n]? = some (.dict (kd enc cs))) (hz : cs.length ≤ sizeLine) {q : α} (hq : q ∈ cs) :
    popDD (.ref n) [enc q] h = .ok (.bl true) (h.set n (.dict (kd enc (cs.filter fun c => decide (c ≠ q))))) := by
  unfold popDD
  dsimp only
  rw [hd]
  dsimp only
  rw [K.ok, kd_length, decide_eq_true hz, dget_kd K, if_pos hq]
  dsimp only
  rw [ddel_kd K]
  exact if_pos rfl
end
/-! ### neighbours, pieces: the mathematics -/
def adjL (c : P3) : List P3 := [(c.1, c.2.1 + 0, c.2.2 + 1), (c.1, c.2.1 + 0, c.2.2 + -1), (c.1, c.2.1 + 1, c.2.2 + 0), (c.1, c.2.1 + -1, c.2.2 + 0), (c.1 + 1, c.2.1, c.2.2), (c.1 - 1, c.2.1, c.2.2)]
def abs' (x : Int) : Int := if x < 0 then -x else x
def adj (a b : P3) : Prop := abs' (a.1 - b.1) + (abs' (a.2.1 - b.2.1) + abs' (a.2.2 - b.2.2)) = 1
instance (a b : P3) : Decidable (adj a b) := by unfold adj; infer_instance
theorem adj_sym {a b : P3} (h : adj a b) : adj b a := by
  unfold adj abs' at *
  omega
theorem adjL_iff (a b : P3) : b ∈ adjL a ↔ adj a b := by
  obtain ⟨a1, a2, a3⟩ := a
  obtain ⟨b1, b2, b3⟩ := b
  unfold adjL adj abs'
  simp only [List.mem_cons, Prod.mk.injEq, List.not_mem_nil, or_false]
  constructor
  · intro h
    rcases h with h | h | h | h | h | h <;> (obtain ⟨rfl, rfl, rfl⟩ := h; repeat' split) <;> omega
  · intro h
    repeat' split at h
    all_goals omega
inductive Rch (cs : List P3) : P3 → P3 → Prop
  | refl {x} : x ∈ cs → Rch cs x x
  | step {x y z} : Rch cs x y → z ∈ cs → adj y z → Rch cs x z
theorem Rch.left {cs x y} (r : Rch cs x y) : x ∈ cs := by
  induction r with
  | refl h => exact h
  | step _ _ _ ih => exact ih
theorem Rch.right {cs x y} (r : Rch cs x y) : y ∈ cs := by
  cases r with
  | refl h => exact h
  | step _ h _ => exact h
theorem Rch.trans {cs x y z} (r : Rch cs x y) (s : Rch cs y z) : Rch cs x z := by
  induction s with
  | refl _ => exact r
  | step _ h a ih => exact .step ih h a
theorem Rch.symm {cs x y} (r : Rch cs x y) : Rch cs y x := by
  induction r with
  | refl h => exact .refl h
  | step s h a ih => exact (Rch.step (.refl h) s.right (adj_sym a)).trans ih
/-- p holds just what is reached from one of its cells -/
def IsComp (cs p : List P3) : Prop := ∃ x, x ∈ cs ∧ ∀ y, y ∈ p ↔ Rch cs x y
theorem comp_of {cs p : List P3} (h : IsComp cs p) {x : P3} (hx : x ∈ p) (y : P3) : y ∈ p ↔ Rch cs x y := by
  obtain ⟨z, hz, k⟩ := h
  have := (k x).mp hx
  rw [k y]
  exact ⟨fun r => this.symm.trans r, fun r => this.trans r⟩
/-- pieces of cs: sorted, each one told once, all told -/
structure Pieces (cs : List P3) (F : List (List P3)) : Prop where
  srt : ∀ p ∈ F, p.Pairwise lt3
  comp : ∀ p ∈ F, IsComp cs p
  all : ∀ x ∈ cs, ∃ p ∈ F, x ∈ p
  nd : F.Nodup
theorem Pieces.sub {cs : List P3} {F G : List (List P3)} (f : Pieces cs F) (g : Pieces cs G) : ∀ p ∈ F, p ∈ G := fun p hp => by
  obtain ⟨x, hx, k⟩ := f.comp p hp
  obtain ⟨q, hq, hxq⟩ := g.all x hx
  have e : p = q := sorted_ext ord3 (f.srt p hp) (g.srt q hq) fun y => by rw [k y, comp_of (g.comp q hq) hxq y]
  rw [e]; exact hq
theorem Pieces.mem {cs : List P3} {F G : List (List P3)} (f : Pieces cs F) (g : Pieces cs G) (p : List P3) : p ∈ F ↔ p ∈ G := ⟨f.sub g p, g.sub f p⟩
/-- the order of lists -/
def ltL : List P3 → List P3 → Prop
  | [], [] => False
  | [], _ :: _ => True
  | _ :: _, [] => False
  | x :: xs, y :: ys => lt3 x y ∨ (x = y ∧ ltL xs ys)
instance decL : ∀ (p q : List P3), Decidable (ltL p q)
  | [], [] => isFalse (fun h => h)
  | [], _ :: _ => isTrue trivial
  | _ :: _, [] => isFalse (fun h => h)
  | x :: xs, y :: ys => by
    have := decL xs ys
    unfold ltL
    infer_instance
theorem ordL : Ord ltL where
  irr := fun a => by
    induction a with
    | nil => exact fun h => h
    | cons x xs ih => rintro (h | ⟨_, h⟩); exact ord3.irr _ h; exact ih h
  tr := fun a => by
    induction a with
    | nil =>
      intro b c h1 h2
      cases c with
      | nil => cases b <;> cases h2
      | cons _ _ => trivial
    | cons x xs ih =>
      intro b c h1 h2
      cases b with
      | nil => cases h1
      | cons y ys =>
        cases c with
        | nil => cases h2
        | cons z zs =>
          rcases h1 with h1 | ⟨rfl, h1⟩
          · rcases h2 with h2 | ⟨rfl, h2⟩
            · exact .inl (ord3.tr _ _ _ h1 h2)
            · exact .inl h1
          · rcases h2 with h2 | ⟨rfl, h2⟩
            · exact .inl h2
            · exact .inr ⟨rfl, ih _ _ h1 h2⟩
  tot := fun a => by
    induction a with
    | nil => intro b; cases b; exact .inr (.inl rfl); exact .inl trivial
    | cons x xs ih =>
      intro b
      cases b with
      | nil => exact .inr (.inr trivial)
      | cons y ys =>
        rcases ord3.tot x y with h | rfl | h
        · exact .inl (.inl h)
        · rcases ih ys with h | rfl | h
          · exact .inl (.inr ⟨rfl, h⟩)
          · exact .inr (.inl rfl)
          · exact .inr (.inr (.inr ⟨rfl, h⟩))
        · exact .inr (.inr (.inl h))
def encT (p : List P3) : D := .tup (p.map enc3)
theorem eqvT (p q : List P3) : PyData.eqv (encT p).data (encT q).data = decide (p = q) := by
  simp only [encT, D.data, PyData.eqv]
  exact eqvAll_enc eqv3 p q
theorem alikeT (p q : List P3) : PySem.W.alike (encT p).data (encT q).data = true := by
  simp only [encT, D.data]
  have gen : ∀ p q : List P3, PySem.W.alikeAll (D.datas (p.map enc3)) (D.datas (q.map enc3)) = true := by
    intro p
    induction p with
    | nil => intro q; cases q <;> simp [D.datas, PySem.W.alikeAll]
    | cons x xs ih =>
      intro q
      cases q with
      | nil => simp [D.datas, PySem.W.alikeAll]
      | cons y ys => simp [D.datas, PySem.W.alikeAll, alike3, ih]
  simp [PySem.W.alike, gen]
theorem dataL (p q : List P3) : PySem.W.dataLt (encT p).data (encT q).data = decide (ltL p q) := by
  induction p generalizing q with
  | nil =>
    cases q with
    | nil => rfl
    | cons y ys => rfl
  | cons x xs ih =>
    cases q with
    | nil => rfl
    | cons y ys =>
      have e : PySem.W.dataLt (.tuple ((enc3 x).data :: D.datas (xs.map enc3))) (.tuple ((enc3 y).data :: D.datas (ys.map enc3))) = if PyData.eqv (enc3 x).data (enc3 y).data = true then PySem.W.dataLt (.tuple (D.datas (xs.map enc3))) (.tuple (D.datas (ys.map enc3))) else PySem.W.dataLt (enc3 x).data (enc3 y).data := PySem.W.dataLt_cons (x := (enc3 x).data) (y := (enc3 y).data) (alike3 x y) (D.datas (xs.map enc3)) (D.datas (ys.map enc3))
      show PySem.W.dataLt (.tuple ((enc3 x).data :: D.datas (xs.map enc3))) (.tuple ((enc3 y).data :: D.datas (ys.map enc3))) = _
      rw [e, eqv3, data3]
      have i := ih ys
      have i' : PySem.W.dataLt (.tuple (D.datas (xs.map enc3))) (.tuple (D.datas (ys.map enc3))) = decide (ltL xs ys) := i
      rw [i']
      by_cases h : x = y
      · subst h
        rw [decide_eq_true rfl, if_pos rfl, decide_eq_decide]
        exact ⟨fun z => .inr ⟨rfl, z⟩, fun z => by rcases z with z | z; exact absurd z (ord3.irr _); exact z.2⟩
      · rw [decide_eq_false h, if_neg Bool.false_ne_true, decide_eq_decide]
        exact ⟨fun z => .inl z, fun z => by rcases z with z | z; exact z; exact absurd z.1 h⟩
theorem fitT (p : List P3) : (encT p).fit 5 = true := by
  show (p.map enc3).all (D.fit 4) = true
  exact fits3 p 2
theorem lowT (p : List P3) (k : Nat) : (encT p).low k = true := low_of_fit k 5 _ (fitT p)
theorem sortOkT {F : List (List P3)} (hz : F.length ≤ sizeLine) (hne : ∀ p ∈ F, p ≠ []) : sortOk (F.map encT) = true := by
  unfold sortOk
  rw [fits_enc (n := 40) (fun a => fit_mono (by decide) _ (fitT a)) F, Bool.true_and, List.length_map, decide_eq_true hz, Bool.and_true, Bool.and_eq_true]
  refine ⟨?_, ?_⟩
  · rw [List.all_eq_true]
    intro x hx
    rw [List.all_eq_true]
    intro y hy
    obtain ⟨p, _, rfl⟩ := List.mem_map.mp hx
    obtain ⟨q, _, rfl⟩ := List.mem_map.mp hy
    exact alikeT p q
  · rw [Bool.or_eq_true]
    left
    rw [List.all_eq_true]
    intro x hx
    obtain ⟨p, hp, rfl⟩ := List.mem_map.mp hx
    have := hne p hp
    cases p with
    | nil => exact absurd rfl this
    | cons a as => rfl
theorem IsComp.ne {cs p : List P3} (h : IsComp cs p) : p ≠ [] := by
  obtain ⟨x, hx, k⟩ := h
  intro e
  have := (k x).mpr (.refl hx)
  rw [e] at this
  cases this
/-- sorted(pieces) hangs on the cells alone -/
theorem srt_pieces {cs : List P3} {F G : List (List P3)} (f : Pieces cs F) (g : Pieces cs G) : srt (F.map encT) = srt (G.map encT) := by
  obtain ⟨m, e, pw, pm⟩ := srt_enc ordL dataL f.nd
  rw [e]
  exact (srt_is ordL dataL g.nd pw fun p => by rw [pm.mem_iff]; exact (f.mem g p).symm).symm
/-! #### going from cell to cell: what is left, the piece, the row -/
structure Dfs (cs left0 : List P3) (x : P3) (left piece row : List P3) : Prop where
  nd : piece.Nodup
  rch : ∀ p ∈ piece, Rch cs x p
  sub0 : ∀ p ∈ piece, p ∈ left0
  here : x ∈ piece
  left_ : ∀ y, y ∈ left ↔ y ∈ left0 ∧ y ∉ piece
  lnd : left.Nodup
  row_ : ∀ p ∈ row, p ∈ piece
  done : ∀ p ∈ piece, p ∉ row → ∀ y ∈ left0, adj p y → y ∈ piece
/-- within a turn: the neighbours of c so far looked at are in the piece -/
structure DfsT (cs left0 : List P3) (x c : P3) (todo : List P3) (left piece row : List P3) : Prop where
  nd : piece.Nodup
  rch : ∀ p ∈ piece, Rch cs x p
  sub0 : ∀ p ∈ piece, p ∈ left0
  here : x ∈ piece
  left_ : ∀ y, y ∈ left ↔ y ∈ left0 ∧ y ∉ piece
  lnd : left.Nodup
  row_ : ∀ p ∈ row, p ∈ piece
  cin : c ∈ piece
  done : ∀ p ∈ piece, p ∉ row → p ≠ c → ∀ y ∈ left0, adj p y → y ∈ piece
  cdone : ∀ y ∈ left0, adj c y → y ∈ piece ∨ y ∈ todo
theorem Dfs.pop {cs left0 : List P3} {x c : P3} {left piece row : List P3} (d : Dfs cs left0 x left piece (row ++ [c])) (hnd : True) : DfsT cs left0 x c (adjL c) left piece row where
  nd := d.nd
  rch := d.rch
  sub0 := d.sub0
  here := d.here
  left_ := d.left_
  lnd := d.lnd
  row_ := fun p hp => d.row_ p (List.mem_append_left _ hp)
  cin := d.row_ c (by simp)
  done := fun p hp hr hc y hy ha => d.done p hp (by simp [hr, hc]) y hy ha
  cdone := fun y hy ha => .inr ((adjL_iff c y).mpr ha)
theorem DfsT.skip {cs left0 : List P3} {x c y : P3} {todo left piece row : List P3} (d : DfsT cs left0 x c (y :: todo) left piece row) (hy : y ∉ left) : DfsT cs left0 x c todo left piece row where
  nd := d.nd
  rch := d.rch
  sub0 := d.sub0
  here := d.here
  left_ := d.left_
  lnd := d.lnd
  row_ := d.row_
  cin := d.cin
  done := d.done
  cdone := fun z hz ha => by
    rcases d.cdone z hz ha with h | h
    · exact .inl h
    · rcases List.mem_cons.mp h with rfl | h
      · by_cases hp : z ∈ piece
        · exact .inl hp
        · exact absurd ((d.left_ z).mpr ⟨hz, hp⟩) hy
      · exact .inr h
theorem DfsT.take {cs left0 : List P3} {x c y : P3} {todo left piece row : List P3} (d : DfsT cs left0 x c (y :: todo) left piece row) (h0 : ∀ z ∈ left0, z ∈ cs) (hy : y ∈ left) (ha : adj c y) :
    DfsT cs left0 x c todo (left.filter fun z => decide (z ≠ y)) (piece ++ [y]) (row ++ [y]) where
  nd := List.nodup_append.mpr ⟨d.nd, by simp, fun a hpa b hb e => by
    rw [List.mem_singleton] at hb; subst hb; subst e
    exact ((d.left_ a).mp hy).2 hpa⟩
  rch := fun p hp => by
    rcases List.mem_append.mp hp with hp | hp
    · exact d.rch p hp
    · rw [List.mem_singleton] at hp; subst hp
      exact .step (d.rch c d.cin) (h0 _ ((d.left_ p).mp hy).1) ha
  sub0 := fun p hp => by
    rcases List.mem_append.mp hp with hp | hp
    · exact d.sub0 p hp
    · rw [List.mem_singleton] at hp; subst hp
      exact ((d.left_ p).mp hy).1
  here := List.mem_append_left _ d.here
  left_ := fun z => by
    rw [List.mem_filter, d.left_ z]
    simp only [decide_eq_true_eq, List.mem_append, List.mem_singleton, not_or]
    exact ⟨fun h => ⟨h.1.1, h.1.2, h.2⟩, fun h => ⟨⟨h.1, h.2.1⟩, h.2.2⟩⟩
  lnd := d.lnd.filter _
  row_ := fun p hp => by
    rcases List.mem_append.mp hp with hp | hp
    · exact List.mem_append_left _ (d.row_ p hp)
    · exact List.mem_append_right _ hp
  cin := List.mem_append_left _ d.cin
  done := fun p hp hr hc z hz ha' => by
    rcases List.mem_append.mp hp with hp | hp
    · exact List.mem_append_left _ (d.done p hp (fun q => hr (List.mem_append_left _ q)) hc z hz ha')
    · exact absurd (List.mem_append_right row hp) hr
  cdone := fun z hz ha' => by
    rcases d.cdone z hz ha' with h | h
    · exact .inl (List.mem_append_left _ h)
    · rcases List.mem_cons.mp h with rfl | h
      · exact .inl (by simp)
      · exact .inr h
theorem DfsT.end {cs left0 : List P3} {x c : P3} {left piece row : List P3} (d : DfsT cs left0 x c [] left piece row) : Dfs cs left0 x left piece row where
  nd := d.nd
  rch := d.rch
  sub0 := d.sub0
  here := d.here
  left_ := d.left_
  lnd := d.lnd
  row_ := d.row_
  done := fun p hp hr y hy ha => by
    by_cases hc : p = c
    · subst hc
      rcases d.cdone y hy ha with h | h
      · exact h
      · cases h
    · exact d.done p hp hr hc y hy ha
/-- what is left is told apart from the rest -/
def Closed (cs left : List P3) : Prop := (∀ y ∈ left, y ∈ cs) ∧ ∀ y ∈ left, ∀ z ∈ cs, adj y z → z ∈ left
theorem Dfs.fin {cs left0 : List P3} {x : P3} {left piece : List P3} (d : Dfs cs left0 x left piece []) (hc : Closed cs left0) (hx : x ∈ left0) : (∀ y, y ∈ piece ↔ Rch cs x y) ∧ Closed cs left := by
  have key : ∀ y, Rch cs x y → y ∈ piece := by
    intro y r
    induction r with
    | refl _ => exact d.here
    | step s hz ha ih => exact d.done _ ih (by simp) _ (hc.2 _ (d.sub0 _ ih) _ hz ha) ha
  refine ⟨fun y => ⟨d.rch y, key y⟩, fun y hy => hc.1 y ((d.left_ y).mp hy).1, fun y hy z hz ha => ?_⟩
  have h1 := (d.left_ y).mp hy
  refine (d.left_ z).mpr ⟨hc.2 y h1.1 z hz ha, fun hp => h1.2 ?_⟩
  exact d.done z hp (by simp) y h1.1 (adj_sym ha)
end Lb

set_option Elab.async false
set_option linter.all false
set_option maxRecDepth 100000
set_option maxHeartbeats 4000000
namespace Lb
open PySem PySem.Spec PyProof.Rows L2
/-! ### pieces as the program tells them -/
theorem low3s (cs : List P3) (k : Nat) : D.lows k (cs.map enc3) = true := lows_enc (fun _ => rfl) cs
def sides : List P2 := [(0, 1), (0, -1), (1, 0), (-1, 0)]
theorem sides_is : pc_SIDES = .tup (sides.map enc2) := rfl
theorem beside_s (c : P3) (h : Hs) : Lb.run p_beside [enc3 c] h = .ok (.lst ((adjL c).map enc3)) h := by
  obtain ⟨z, y, x⟩ := c
  refine run_sm ?_ (low3s _ _)
  have lc := lComp_map (h := h) (h1 := h) (e := [some (enc3 (z, y, x)), some (.int z), some (.int y), some (.int x), none, none]) (I := iVal (eC pc_SIDES)) (G := gTp [(gN 4), (gN 5)]) (is := [4, 5]) (A := eTup (aCons (eVar 1) (aCons (e2 addD (eVar 2) (eVar 4)) (aCons (e2 addD (eVar 3) (eVar 5)) aNil)))) (enc := enc2) (xs := sides) (fun d => enc3 (z, y + d.1, x + d.2)) rfl (by decide)
    (fun d _ => ⟨_, rfl, fun acc => rfl⟩) (fun _ _ => rfl)
  have e3 : enc3 (z, y, x) = .tup [.int z, .int y, .int x] := rfl
  rw [e3] at lc ⊢
  simp [p_beside, lc, adjL, sides, enc3]
section
variable {h t : Hs} {d a b o : Ob}
theorem k1at : (h ++ d :: (t ++ [a, b]))[h.length + (t.length + 1)]? = some a := by
  rw [List.getElem?_append_right (by omega), show h.length + (t.length + 1) - h.length = t.length + 1 by omega, List.getElem?_cons_succ, List.getElem?_append_right (by omega)]
  simp
theorem k2at : (h ++ d :: (t ++ [a, b]))[h.length + (t.length + 1 + 1)]? = some b := by
  rw [List.getElem?_append_right (by omega), show h.length + (t.length + 1 + 1) - h.length = t.length + 1 + 1 by omega, List.getElem?_cons_succ, List.getElem?_append_right (by omega)]
  simp
theorem k1set : (h ++ d :: (t ++ [a, b])).set (h.length + (t.length + 1)) o = h ++ d :: (t ++ [o, b]) := by
  rw [List.set_append_right _ _ (by omega), show h.length + (t.length + 1) - h.length = t.length + 1 by omega, List.set_cons_succ, List.set_append_right _ _ (by omega)]
  simp
theorem k2set : (h ++ d :: (t ++ [a, b])).set (h.length + (t.length + 1 + 1)) o = h ++ d :: (t ++ [a, o]) := by
  rw [List.set_append_right _ _ (by omega), show h.length + (t.length + 1 + 1) - h.length = t.length + 1 + 1 by omega, List.set_cons_succ, List.set_append_right _ _ (by omega)]
  simp
end
def dfsIf : Sv := sIf (tE (e2 inD (eVar 6) (eVar 1))) (sSeq (sDrop (eMeth "dict" popDD (eVar 1) (aCons (eVar 6) aNil)))
    (sSeq (sDrop (eMeth "list" appendD (eVar 4) (aCons (eVar 6) aNil)))
    (sDrop (eMeth "list" appendD (eVar 5) (aCons (eVar 6) aNil))))) sPass
def dfsB : Sv := sFor (iVal (eCallN (argsN 1 0 (fun a _ => a) (fz true p_beside)) (aCons (eMeth0 "list" (lstMD popP) (eVar 5)) aNil) aNil)) (gN 6) dfsIf
def dfsT : Ts := tE (e2 neD (eVar 5) (eFroz (lDisp aNil)))
def pcIf : Sv := sIf (tE (e2 inD (eVar 3) (eVar 1))) (sSeq (sDrop (eMeth "dict" popDD (eVar 1) (aCons (eVar 3) aNil)))
    (sSeq (sPar2 4 5 (aCons (eMut (lDisp (aCons (eVar 3) aNil))) (aCons (eMut (lDisp (aCons (eVar 3) aNil))) aNil)))
    (sSeq (sWhile dfsT dfsB)
    (sDrop (eMeth "list" appendD (eVar 2) (aCons (eCall tupleD (aCons (eFroz (lCall sortedL (aCons (eVar 4) aNil))) aNil)) aNil)))))) sPass
theorem pieces_is : p_pieces = fnB 7 ((sSeq (sPar2 1 2 (aCons (eDComp (iVal (eVar 0)) [3] (gN 3) tTrue (eVar 3) (eC (.bl true))) (aCons (eMut (lDisp aNil)) aNil)))
    (sSeq (sFor (iVal (eVar 0)) (gN 3) pcIf)
    (sRet (eMut (lCall sortedL (aCons (eVar 2) aNil))))))) := rfl
theorem forL_c {G : Tg} {S : Sv} {x : D} {xs : List D} {e e1 e2 : En} {st st2 : Hs} (g : G x e = some e1) (q : S e1 st = .nx e2 st2) : forL G S (x :: xs) e st = forL G S xs e2 st2 := by
  show (match G x e with
      | none => Fl.bad
      | some e1 => match S e1 st with
        | .nx e2 h2 => forL G S xs e2 h2
        | .ct e2 h2 => forL G S xs e2 h2
        | .bk e2 h2 => .nx e2 h2
        | r => r) = _
  rw [g]
  dsimp only
  rw [q]
theorem len_less {α : Type} [DecidableEq α] : ∀ {l : List α} {y : α}, l.Nodup → y ∈ l → (l.filter fun z => decide (z ≠ y)).length + 1 = l.length
  | [], y, _, h => by cases h
  | x :: l, y, hn, h => by
    obtain ⟨h1, h2⟩ := List.nodup_cons.mp hn
    by_cases e : x = y
    · subst e
      have : (l.filter fun z => decide (z ≠ x)) = l := List.filter_eq_self.mpr fun z hz => by
        rw [decide_eq_true_eq]; exact fun q => h1 (q ▸ hz)
      rw [List.filter_cons_of_neg (by simp), this]; rfl
    · rcases List.mem_cons.mp h with q | q
      · exact absurd q.symm e
      · rw [List.filter_cons_of_pos (by simpa using e), List.length_cons, List.length_cons, len_less h2 q]
section
variable {h t : Hs} {cs left0 : List P3} {x c : P3} {b f : D}
def EnvD (b f : D) (x : P3) (h t : Hs) (y : Option D) : En := [some b, some (.ref h.length), some f, some (enc3 x), some (.ref (h.length + (t.length + 1))), some (.ref (h.length + (t.length + 1 + 1))), y]
def StD (h t : Hs) (left piece row : List P3) : Hs := h ++ .dict (kd enc3 left) :: (t ++ [.lst (piece.map enc3), .lst (row.map enc3)])
theorem dfs_in {N : Nat} (h0 : ∀ z ∈ left0, z ∈ cs) (hN : N ≤ 1000) : ∀ (todo left piece row : List P3) (y : Option D), (∀ q ∈ todo, adj c q) → DfsT cs left0 x c todo left piece row → piece.length + left.length = N → row.length ≤ piece.length →
    ∃ left' piece' row' y', forL (gN 6) dfsIf (todo.map enc3) (EnvD b f x h t y) (StD h t left piece row) = .nx (EnvD b f x h t y') (StD h t left' piece' row') ∧ Dfs cs left0 x left' piece' row' ∧ piece'.length + left'.length = N ∧ row'.length ≤ piece'.length ∧ 2 * left'.length + row'.length ≤ 2 * left.length + row.length
  | [], left, piece, row, y, _, d, hz, hr => ⟨left, piece, row, y, rfl, d.end, hz, hr, Nat.le_refl _⟩
  | q :: todo, left, piece, row, y, ha, d, hz, hr => by
    have big : (2000 : Nat) < sizeLine := by decide
    have ink : bD inB (enc3 q) (.ref h.length) (StD h t left piece row) = .ok (.bl (decide (q ∈ left))) (StD h t left piece row) := in_kd keyed3 at0 q
    by_cases hq : q ∈ left
    · have e1 := len_less d.lnd hq
      have pop : popDD (.ref h.length) [enc3 q] (StD h t left piece row) = .ok (.bl true) (StD h t (left.filter fun z => decide (z ≠ q)) piece row) := by
        unfold StD
        rw [dpop_kd keyed3 at0 (by omega) hq, set0]
      have one : dfsIf (EnvD b f x h t (some (enc3 q))) (StD h t left piece row) = .nx (EnvD b f x h t (some (enc3 q))) (StD h t (left.filter fun z => decide (z ≠ q)) (piece ++ [q]) (row ++ [q])) := by
        rw [decide_eq_true hq] at ink
        have c1 : piece.length < sizeLine := by omega
        have c2 : row.length < sizeLine := by omega
        unfold dfsIf EnvD
        simp [ink]
        have td : tyD "dict" (StD h t left piece row) (.ref h.length) = true := by unfold StD; simp
        simp [td, pop]
        unfold StD
        simp [k1at, k2at, k1set, k2set, c1, c2]
      obtain ⟨l', p', r', y', r, d', z1, z2, z3⟩ := dfs_in h0 hN todo _ _ _ (some (enc3 q)) (fun q' hq' => ha q' (List.mem_cons_of_mem _ hq')) (d.take h0 hq (ha q List.mem_cons_self)) (by rw [List.length_append, List.length_singleton]; omega) (by rw [List.length_append, List.length_append, List.length_singleton]; omega)
      refine ⟨l', p', r', y', (forL_c (e1 := EnvD b f x h t (some (enc3 q))) rfl one).trans r, d', z1, z2, ?_⟩
      rw [List.length_append, List.length_singleton] at z3
      omega
    · have one : dfsIf (EnvD b f x h t (some (enc3 q))) (StD h t left piece row) = .nx (EnvD b f x h t (some (enc3 q))) (StD h t left piece row) := by
        rw [decide_eq_false hq] at ink
        unfold dfsIf EnvD
        simp [ink]
      obtain ⟨l', p', r', y', r, d', z1, z2, z3⟩ := dfs_in h0 hN todo left piece row (some (enc3 q)) (fun q' hq' => ha q' (List.mem_cons_of_mem _ hq')) (d.skip hq) hz hr
      exact ⟨l', p', r', y', (forL_c (e1 := EnvD b f x h t (some (enc3 q))) rfl one).trans r, d', z1, z2, z3⟩
theorem dfs_while {N : Nat} (h0 : ∀ z ∈ left0, z ∈ cs) (hN : N ≤ 1000) : ∀ (fu : Nat) (left piece row : List P3) (y : Option D), 2 * left.length + row.length < fu → Dfs cs left0 x left piece row → piece.length + left.length = N → row.length ≤ piece.length →
    ∃ left' piece' y', whileN dfsT dfsB fu (EnvD b f x h t y) (StD h t left piece row) = .nx (EnvD b f x h t y') (StD h t left' piece' []) ∧ Dfs cs left0 x left' piece' [] ∧ piece'.length + left'.length = N
  | 0, _, _, _, _, hf, _, _, _ => absurd hf (Nat.not_lt_zero _)
  | fu + 1, left, piece, row, y, hf, d, hz, hr => by
    have big : (2000 : Nat) < sizeLine := by decide
    have tst : dfsT (EnvD b f x h t y) (StD h t left piece row) = .ok (!row.isEmpty) (StD h t left piece row) := by
      have e0 := neNilR (h := StD h t left piece row) (n := h.length + (t.length + 1 + 1)) (xs := row.map enc3) (fits3 _ 37) k2at
      unfold dfsT EnvD
      simp [e0]
    rw [whileN_succ, tst]
    rcases List.eq_nil_or_concat row with rfl | ⟨row', c, rfl⟩
    · exact ⟨left, piece, y, rfl, d, hz⟩
    · rw [List.concat_eq_append] at *
      have b1 : dfsB (EnvD b f x h t y) (StD h t left piece (row' ++ [c])) = forL (gN 6) dfsIf ((adjL c).map enc3) (EnvD b f x h t y) (StD h t left piece row') := by
        have pp : popP [] (row'.map enc3 ++ [enc3 c]) = some (enc3 c, row'.map enc3) := by
          unfold popP
          simp
        have bs : Lb.run p_beside [enc3 c] (StD h t left piece row') = .ok (.lst ((adjL c).map enc3)) (StD h t left piece row') := beside_s c _
        unfold StD at bs ⊢
        unfold dfsB EnvD
        simp [k2at, pp, k2set, bs]
      obtain ⟨l', p', r', y', r, d', z1, z2, z3⟩ := dfs_in (h := h) (t := t) (b := b) (f := f) h0 hN (adjL c) left piece row' y (fun q hq => (adjL_iff c q).mp hq) (d.pop trivial) hz (by simp at hr; omega)
      obtain ⟨l2, p2, y2, w, d2, z4⟩ := dfs_while h0 hN fu l' p' r' y' (by simp at hf; omega) d' z1 z2
      refine ⟨l2, p2, y2, ?_, d2, z4⟩
      have hne : (!(row' ++ [c]).isEmpty) = true := by simp
      rw [hne]
      show (if true = true then (match dfsB (EnvD b f x h t y) (StD h t left piece (row' ++ [c])) with
        | .nx e2 h2 => whileN dfsT dfsB fu e2 h2
        | .ct e2 h2 => whileN dfsT dfsB fu e2 h2
        | .bk e2 h2 => .nx e2 h2
        | r => r) else .nx (EnvD b f x h t y) (StD h t left piece (row' ++ [c]))) = _
      rw [if_pos rfl, b1, r]
      exact w
end
/-! #### cell by cell -/
/-- what was found, what is left -/
structure Found (cs : List P3) (j : Nat) (F : List (List P3)) (left : List P3) : Prop where
  srt : ∀ p ∈ F, p.Pairwise lt3
  comp : ∀ p ∈ F, IsComp cs p
  nd : F.Nodup
  cl : Closed cs left
  lnd : left.Nodup
  gone : ∀ x ∈ cs.take j, x ∉ left
  all : ∀ x ∈ cs, x ∈ left ∨ ∃ p ∈ F, x ∈ p
  apart : ∀ p ∈ F, ∀ x ∈ p, x ∉ left
  len : F.length ≤ j
  llen : left.length ≤ cs.length
def StP (h : Hs) (left : List P3) (F : List (List P3)) (G : Hs) : Hs := h ++ .dict (kd enc3 left) :: .lst (F.map encT) :: G
theorem piece_turn {cs : List P3} {h G : Hs} {j : Nat} {F : List (List P3)} {left : List P3} {x : P3} {a4 a5 a6 : Option D} (hz : cs.length ≤ 400) (hx : cs[j]? = some x) (f : Found cs j F left) (hG : G.all (Ob.low 0) = true) :
    ∃ F' left' G' a4' a5' a6', pcIf [some (.tup (cs.map enc3)), some (.ref h.length), some (.ref (h.length + 1)), some (enc3 x), a4, a5, a6] (StP h left F G) = .nx [some (.tup (cs.map enc3)), some (.ref h.length), some (.ref (h.length + 1)), some (enc3 x), a4', a5', a6'] (StP h left' F' G') ∧ Found cs (j + 1) F' left' ∧ G'.all (Ob.low 0) = true := by
  have big : (2000 : Nat) < sizeLine := by decide
  have hjl := (List.getElem?_eq_some_iff.mp hx).1
  have hxc : x ∈ cs := List.mem_of_getElem? hx
  have tk : ∀ y, y ∈ cs.take (j + 1) ↔ y ∈ cs.take j ∨ y = x := fun y => by rw [List.take_add_one, hx]; simp
  have ink : bD inB (enc3 x) (.ref h.length) (StP h left F G) = .ok (.bl (decide (x ∈ left))) (StP h left F G) := in_kd keyed3 at0 x
  by_cases hl : x ∈ left
  · have e1 := len_less f.lnd hl
    have ll := f.llen
    have fl := f.len
    have pop : popDD (.ref h.length) [enc3 x] (StP h left F G) = .ok (.bl true) (StP h (left.filter fun z => decide (z ≠ x)) F G) := by
      unfold StP
      rw [dpop_kd keyed3 at0 (by omega) hl, set0]
    have d0 : Dfs cs left x (left.filter fun z => decide (z ≠ x)) [x] [x] :=
      ⟨by simp, fun p hp => by rw [List.mem_singleton] at hp; subst hp; exact .refl hxc, fun p hp => by rw [List.mem_singleton] at hp; subst hp; exact hl, by simp,
        fun y => by rw [List.mem_filter]; simp, f.lnd.filter _, fun p hp => hp, fun p hp hr => absurd hp hr⟩
    obtain ⟨l', p', y', w, d', z1⟩ := dfs_while (h := h) (t := .lst (F.map encT) :: G) (b := .tup (cs.map enc3)) (f := .ref (h.length + 1)) (x := x) (N := left.length) f.cl.1 (by omega) fuel (left.filter fun z => decide (z ≠ x)) [x] [x] a6 (by rw [List.length_singleton]; show _ < 100000; omega) d0 (by rw [List.length_singleton]; omega) (Nat.le_refl _)
    obtain ⟨k1, k2⟩ := d'.fin f.cl hl
    obtain ⟨m, em, pm, pp⟩ := srt_enc ord3 data3 d'.nd
    have so : sortedL [.ref (h.length + (G.length + 1 + 1))] (StD h (.lst (F.map encT) :: G) l' p' []) = .ok (m.map enc3) (StD h (.lst (F.map encT) :: G) l' p' []) := by
      have q : allOf (StD h (.lst (F.map encT) :: G) l' p' []) (.ref (h.length + (G.length + 1 + 1))) = some (p'.map enc3) := by
        have : (StD h (.lst (F.map encT) :: G) l' p' [])[h.length + (G.length + 1 + 1)]? = some (.lst (p'.map enc3)) := k1at (t := .lst (F.map encT) :: G)
        simp only [allOf, seqOf, this]
      show (match allOf (StD h (.lst (F.map encT) :: G) l' p' []) (.ref (h.length + (G.length + 1 + 1))) with | some ys => if sortOk ys then R.ok (srt ys) _ else .bad | none => .bad) = _
      rw [q]
      dsimp only
      rw [if_pos (sortOk3 p' (by omega)), em]
    refine ⟨F ++ [m], l', G ++ [.lst (p'.map enc3), .lst []], some (.ref (h.length + (G.length + 1 + 1))), some (.ref (h.length + (G.length + 1 + 1 + 1))), y', ?_, ?_, ?_⟩
    · rw [decide_eq_true hl] at ink
      have ww : whileN dfsT dfsB fuel [some (.tup (cs.map enc3)), some (.ref h.length), some (.ref (h.length + 1)), some (enc3 x), some (.ref (h.length + (G.length + 1 + 1))), some (.ref (h.length + (G.length + 1 + 1 + 1))), a6] (h ++ .dict (kd enc3 (left.filter fun z => decide (z ≠ x))) :: .lst (F.map encT) :: (G ++ [.lst [enc3 x], .lst [enc3 x]])) =
        .nx [some (.tup (cs.map enc3)), some (.ref h.length), some (.ref (h.length + 1)), some (enc3 x), some (.ref (h.length + (G.length + 1 + 1))), some (.ref (h.length + (G.length + 1 + 1 + 1))), y'] (StD h (.lst (F.map encT) :: G) l' p' []) := w
      have ek : h.length + (G.length + 1 + 1) + 1 = h.length + (G.length + 1 + 1 + 1) := by omega
      generalize (left.filter fun z => decide (z ≠ x)) = L1 at ww pop
      have td : tyD "dict" (StP h left F G) (.ref h.length) = true := by unfold StP; simp
      have tl : tyD "list" (StD h (.lst (F.map encT) :: G) l' p' []) (.ref (h.length + 1)) = true := by unfold StD; simp
      have c1 : F.length < sizeLine := by omega
      have ap : appendD (.ref (h.length + 1)) [.tup (m.map enc3)] (StD h (.lst (F.map encT) :: G) l' p' []) = .ok .non (StP h l' (F ++ [m]) (G ++ [.lst (p'.map enc3), .lst []])) := by
        unfold StD StP
        simp [c1, encT]
      unfold pcIf
      simp [ink, td, pop]
      unfold StP
      simp [sWhile, ek, ww, tl, so, ap]
      simp [StP]
    · have hm : ∀ y, y ∈ m ↔ Rch cs x y := fun y => by rw [pp.mem_iff]; exact k1 y
      have nl : ∀ y ∈ m, y ∉ l' := fun y hy hl' => ((d'.left_ y).mp hl').2 (pp.mem_iff.mp hy)
      have sub : ∀ y, y ∈ l' → y ∈ left := fun y hy => ((d'.left_ y).mp hy).1
      refine ⟨fun p hp => ?_, fun p hp => ?_, ?_, k2, d'.lnd, fun y hy => ?_, fun y hy => ?_, fun p hp y hy => ?_, by simp; omega, by omega⟩
      · rcases List.mem_append.mp hp with hp | hp
        · exact f.srt p hp
        · rw [List.mem_singleton] at hp; subst hp; exact pm
      · rcases List.mem_append.mp hp with hp | hp
        · exact f.comp p hp
        · rw [List.mem_singleton] at hp; subst hp; exact ⟨x, hxc, hm⟩
      · refine List.nodup_append.mpr ⟨f.nd, by simp, fun a ha b hb e => ?_⟩
        rw [List.mem_singleton] at hb
        subst hb; subst e
        exact f.apart a ha x ((hm x).mpr (.refl hxc)) hl
      · rcases (tk y).mp hy with h1 | rfl
        · exact fun h2 => f.gone y h1 (sub y h2)
        · exact nl y ((hm y).mpr (.refl hxc))
      · rcases f.all y hy with h1 | ⟨p, hp, hyp⟩
        · by_cases h2 : y ∈ l'
          · exact .inl h2
          · have : y ∈ p' := by
              by_cases h3 : y ∈ p'
              · exact h3
              · exact absurd ((d'.left_ y).mpr ⟨h1, h3⟩) h2
            exact .inr ⟨m, by simp, pp.mem_iff.mpr this⟩
        · exact .inr ⟨p, List.mem_append_left _ hp, hyp⟩
      · rcases List.mem_append.mp hp with hp | hp
        · exact fun h2 => f.apart p hp y hy (sub y h2)
        · rw [List.mem_singleton] at hp; subst hp; exact nl y hy
    · rw [List.all_append, hG]
      simp [Ob.low, low3s, D.lows]
  · refine ⟨F, left, G, a4, a5, a6, ?_, { f with gone := fun y hy => ?_, len := Nat.le_succ_of_le f.len }, hG⟩
    · rw [decide_eq_false hl] at ink
      unfold pcIf
      simp [ink]
    · rcases (tk y).mp hy with h1 | rfl
      · exact f.gone y h1
      · exact hl
theorem pieces_raw {cs : List P3} {h : Hs} (hz : cs.length ≤ 400) (hn : cs.Nodup) : ∃ (t : Hs) (F : List (List P3)), Pieces cs F ∧ F.length ≤ cs.length ∧ t.all (Ob.low 0) = true ∧ p_pieces [.tup (cs.map enc3)] h = .ok (.ref (h.length + t.length)) (h ++ (t ++ [.lst (srt (F.map encT))])) := by
  have big : (2000 : Nat) < sizeLine := by decide
  have e0 := dcomp_keys (A := eVar 0) (e := [some (.tup (cs.map enc3)), none, none, none, none, none, none]) (h := h) (i := 3) keyed3 (xs := cs) (by show 3 < 7; decide) (by omega) rfl
  rw [cfold_self cs [] hn (by simp), List.nil_append] at e0
  obtain ⟨e', st', r, ⟨a3, a4, a5, a6, rfl⟩, F, left, G, rfl, f, hG⟩ := forL_inv (G := gN 3) (S := pcIf) (fun j e st => (∃ a3 a4 a5 a6, e = [some (.tup (cs.map enc3)), some (.ref h.length), some (.ref (h.length + 1)), a3, a4, a5, a6]) ∧ ∃ F left G, st = StP h left F G ∧ Found cs j F left ∧ G.all (Ob.low 0) = true)
    (cs.map enc3) 0 [some (.tup (cs.map enc3)), some (.ref h.length), some (.ref (h.length + 1)), none, none, none, none] (StP h cs [] []) (fun j d e st hj ⟨⟨a3, a4, a5, a6, he⟩, F, left, G, hst, f, hG⟩ => by
      subst he hst
      rw [List.getElem?_map] at hj
      cases hx : cs[j]? with
      | none => rw [hx] at hj; cases hj
      | some x =>
        rw [hx] at hj
        cases hj
        rw [Nat.zero_add] at f ⊢
        obtain ⟨F', left', G', b4, b5, b6, q, f', hG'⟩ := piece_turn (h := h) (a4 := a4) (a5 := a5) (a6 := a6) hz hx f hG
        exact ⟨_, rfl, _, _, .inl q, ⟨_, _, _, _, rfl⟩, F', left', G', rfl, f', hG'⟩)
    ⟨⟨none, none, none, none, rfl⟩, [], cs, [], rfl, ⟨by simp, by simp, by simp, ⟨fun _ h => h, fun _ _ z hz _ => hz⟩, hn, by simp, fun x hx => .inl hx, by simp, Nat.le_refl _, Nat.le_refl _⟩, rfl⟩
  rw [Nat.zero_add, List.length_map] at f
  have pc : Pieces cs F := ⟨f.srt, f.comp, fun x hx => by
    rcases f.all x hx with h1 | h1
    · exact absurd h1 (f.gone x (by rw [List.take_of_length_le (Nat.le_refl _)]; exact hx))
    · exact h1, f.nd⟩
  refine ⟨.dict (kd enc3 left) :: .lst (F.map encT) :: G, F, pc, f.len, ?_, ?_⟩
  · simp only [List.all_cons, hG, Bool.and_true, Bool.and_eq_true]
    exact ⟨kd_low (fun _ => rfl) _, lows_enc (fun p => lowT p 0) F⟩
  · have so : sortedL [.ref (h.length + 1)] (StP h left F G) = .ok (srt (F.map encT)) (StP h left F G) := by
      have q : allOf (StP h left F G) (.ref (h.length + 1)) = some (F.map encT) := by
        have : (StP h left F G)[h.length + 1]? = some (.lst (F.map encT)) := at1
        simp only [allOf, seqOf, this]
      show (match allOf (StP h left F G) (.ref (h.length + 1)) with | some ys => if sortOk ys then R.ok (srt ys) _ else .bad | none => .bad) = _
      rw [q]
      dsimp only
      rw [if_pos (sortOkT (by have := f.len; omega) fun p hp => (f.comp p hp).ne)]
    rw [pieces_is]
    have r' : forL (gN 3) pcIf (cs.map enc3) [some (.tup (cs.map enc3)), some (.ref h.length), some (.ref (h.length + 1)), none, none, none, none] (h ++ [.dict (kd enc3 cs), .lst []]) = .nx [some (.tup (cs.map enc3)), some (.ref h.length), some (.ref (h.length + 1)), a3, a4, a5, a6] (StP h left F G) := r
    simp [e0, r', so]
    unfold StP
    simp
end Lb

set_option Elab.async false
set_option linter.all false
set_option maxRecDepth 100000
set_option maxHeartbeats 4000000
namespace Lb
open PySem PySem.Spec PyProof.Rows L2
/-! ### the well, the drawn body -/
theorem well_g {ns : List Int} {k : Int} {h : Hs} (hk : 0 ≤ k ∧ k < 1000) (hl : h.all (Ob.low 0) = true) : ∃ c w, wl [.scr ns, .int k] h = .ok (.ref h.length) (h ++ [w]) ∧ GS h.length c (h ++ [w]) := by
  obtain ⟨a, b, c, hb, hc, q⟩ := well_spec (h := h) (ns := ns) hk
  exact ⟨c, Wl a b c, q, ⟨⟨a, b, at0, hb⟩, hc, by rw [List.all_append, hl]; rfl⟩⟩
structure Bd (high : Int) (m : List P3) : Prop where
  ne : m ≠ []
  pw : m.Pairwise lt3
  ok : ∀ x ∈ m, okc high x
  len : m.length ≤ 200
theorem body_b {n : Nat} {c high : Int} {s : Hs} (g : GS n c s) (hh : 0 < high ∧ high < 1000) : ∃ m s', Bd high m ∧ GS n c s' ∧ Up n s s' ∧ Lb.run p_l_body [.ref n, .int high] s = .ok (.tup (m.map enc3)) s' := by
  obtain ⟨a, b, q, hb⟩ := g.ex
  obtain ⟨a', b', m, hb', ne, pw, ok, len, e⟩ := bd_spec (h := s) q hb g.hc hh (all_low_mono (Nat.zero_le _) g.low)
  rw [body_is]
  have e' : Lb.run bd [.ref n, .int high] s = .ok (.tup (m.map enc3)) (s.set n (Wl a' b' c)) := e
  exact ⟨m, s.set n (Wl a' b' c), ⟨ne, pw, ok, len⟩, ⟨⟨a', b', List.getElem?_set_self g.lt, hb'⟩, g.hc, all_set g.low (Wl_low _)⟩, ⟨by simp, fun k hk => by rw [List.getElem?_set_ne (Ne.symm hk)]⟩, e'⟩
theorem Bd.box {high : Int} {m : List P3} (b : Bd high m) (hh : high ≤ 8) : ∀ x ∈ m, box x := fun x hx => by
  obtain ⟨h1, h2, h3⟩ := b.ok x hx
  exact ⟨by omega, by omega, by omega⟩
theorem Bd.nd {high : Int} {m : List P3} (b : Bd high m) : m.Nodup := b.pw.imp fun {x y} hxy e => by subst e; exact ord3.irr _ hxy
theorem Bd.pos {high : Int} {m : List P3} (b : Bd high m) : 1 ≤ m.length := List.length_pos_iff.mpr b.ne
theorem thg3 {L n : Nat} (hL : 3 ≤ L) (c : P3) : thg L (n + 1) (enc3 c) = true := by
  show (decide (3 ≤ L) && [D.int c.1, .int c.2.1, .int c.2.2].all (thg L n)) = true
  simp [hL, thg]
theorem thg3s {L n : Nat} (hL : 3 ≤ L) (m : List P3) : ∀ x ∈ m.map enc3, thg L (n + 1) x = true := fun x hx => by
  obtain ⟨c, _, rfl⟩ := List.mem_map.mp hx
  exact thg3 hL c
theorem pieces_s {cs : List P3} {h : Hs} (hz : cs.length ≤ 400) (hn : cs.Nodup) : ∃ (F : List (List P3)), Pieces cs F ∧ F.length ≤ cs.length ∧ Lb.run p_pieces [.tup (cs.map enc3)] h = .ok (.lst (srt (F.map encT))) h := by
  obtain ⟨t, F, pc, hF, ht, q⟩ := pieces_raw (h := h) hz hn
  refine ⟨F, pc, hF, run_ls q (by omega) (by rw [List.getElem?_append_right (by omega)]; simp) ?_⟩
  obtain ⟨m, e, pw, pm⟩ := srt_enc ordL dataL pc.nd
  rw [e]
  exact lows_enc (fun p => lowT p _) m
/-! ### bounds -/
def nth3 (k : Nat) (c : P3) : Int := match k with
  | 0 => c.1
  | 1 => c.2.1
  | _ => c.2.2
theorem ix_nth {k : Nat} (hk : k < 3) (c : P3) : atI [D.int c.1, .int c.2.1, .int c.2.2] (k : Nat) = some (.int (nth3 k c)) := by
  match k, hk with
  | 0, _ => rfl
  | 1, _ => rfl
  | 2, _ => rfl
def colD (k : Nat) (cs : List P3) : List D := cs.map fun c => .int (nth3 k c)
theorem minF_int : ∀ (ns : List Int) (n : Int), ∃ i, minF (.int n) (ns.map D.int) = .int i
  | [], n => ⟨n, rfl⟩
  | m :: ns, n => by
    show ∃ i, (ns.map D.int).foldl (fun a y => if PySem.W.dataLt y.data a.data then y else a) (if PySem.W.dataLt (D.int m).data (D.int n).data then .int m else .int n) = .int i
    split
    · exact minF_int ns m
    · exact minF_int ns n
theorem minOk_ints (ns : List Int) : minOk (ns.map D.int) = true := by
  unfold minOk
  simp [D.fit, D.data, PySem.W.alike]
theorem col_ints (k : Nat) (cs : List P3) : colD k cs = (cs.map (nth3 k)).map D.int := by unfold colD; rw [List.map_map]; rfl
theorem intsOf_ints : ∀ ns : List Int, intsOf (ns.map D.int) = some ns
  | [] => rfl
  | n :: ns => by rw [List.map_cons]; unfold intsOf; rw [intsOf_ints ns]; rfl
theorem min_col {h : Hs} {cs : List P3} (hne : cs ≠ []) (k : Nat) : ∃ i : Int, ∀ h : Hs, minA [.lst (colD k cs)] h = .ok (.int i) h := by
  obtain ⟨c, cs', rfl⟩ := List.exists_cons_of_ne_nil hne
  rw [col_ints]
  obtain ⟨i, e⟩ := minF_int (cs'.map (nth3 k)) (nth3 k c)
  refine ⟨i, fun h => ?_⟩
  show (if minOk (((c :: cs').map (nth3 k)).map D.int) = true then R.ok (minF (.int (nth3 k c)) ((cs'.map (nth3 k)).map D.int)) h else .bad) = _
  rw [if_pos (minOk_ints _), e]
theorem max_col {cs : List P3} (hne : cs ≠ []) (k : Nat) : ∃ i : Int, ∀ h : Hs, maxA [.lst (colD k cs)] h = .ok (.int i) h := by
  obtain ⟨c, cs', rfl⟩ := List.exists_cons_of_ne_nil hne
  rw [col_ints]
  refine ⟨maxI (nth3 k c) (cs'.map (nth3 k)), fun h => ?_⟩
  show (match intsOf (((c :: cs').map (nth3 k)).map D.int) with | some (n :: ns) => R.ok (D.int (maxI n ns)) h | _ => .bad) = _
  rw [intsOf_ints]
  rfl
/-- what of each column is told -/
structure Cols (cs : List P3) (mn mx : Nat → Int) : Prop where
  mn : ∀ k h, minA [.lst (colD k cs)] h = .ok (.int (mn k)) h
  mx : ∀ k h, maxA [.lst (colD k cs)] h = .ok (.int (mx k)) h
theorem cols_of {cs : List P3} (hne : cs ≠ []) : ∃ mn mx, Cols cs mn mx :=
  ⟨fun k => (min_col (h := []) hne k).choose, fun k => (max_col hne k).choose, ⟨fun k h => (min_col (h := []) hne k).choose_spec h, fun k h => (max_col hne k).choose_spec h⟩⟩
def bnd (f : Nat → Int) : D := .tup [.int (f 0), .int (f 1), .int (f 2)]
theorem bounds_s {cs : List P3} {mn mx : Nat → Int} (k : Cols cs mn mx) {h : Hs} (hz : cs.length ≤ 1000) : Lb.run p_bounds [.tup (cs.map enc3)] h = .ok (.tup [bnd mn, bnd mx]) h := by
  refine run_sm ?_ rfl
  have qI : ∀ e : En, iRng1 (aCons (eC (.int 3)) aNil) e h = .ok (.fix ((List.range 3).map fun k => D.int (k : Nat))) h := fun e => rfl
  have sd := lComp_map (h := h) (h1 := h) (e := [some (.tup (cs.map enc3)), none, none, none, none]) (G := gN 2) (is := [2]) (A := eFroz (lComp (iVal (eVar 0)) [3] (gN 3) tTrue (e2 ixD (eVar 3) (eVar 2)))) (enc := fun k : Nat => D.int (k : Nat)) (xs := List.range 3) (fun k => .lst (colD k cs)) (qI _) (by decide)
    (fun j hj => ⟨_, rfl, fun acc => by
      have hj3 := List.mem_range.mp hj
      have inner := lComp_map (h := h ++ [.lst acc]) (h1 := h ++ [.lst acc]) (e := [some (.tup (cs.map enc3)), none, some (.int (j : Nat)), none, none]) (I := iVal (eVar 0)) (G := gN 3) (is := [3]) (A := e2 ixD (eVar 3) (eVar 2)) (enc := enc3) (xs := cs) (fun c => .int (nth3 j c)) (by simp) (sl1000 hz)
        (fun c _ => ⟨_, rfl, fun acc2 => by
          have := ix_nth hj3 c
          simp [wipeE, enc3, this]⟩) (fun _ _ => rfl)
      simp [wipeE, inner]
      rfl⟩) (fun j _ => lows_all fun d hd => by obtain ⟨c, _, rfl⟩ := List.mem_map.mp hd; rfl)
  have l0 : sSetL 1 (lComp (iRng1 (aCons (eC (.int 3)) aNil)) [2] (gN 2) tTrue (eFroz (lComp (iVal (eVar 0)) [3] (gN 3) tTrue (e2 ixD (eVar 3) (eVar 2))))) false [some (.tup (cs.map enc3)), none, none, none, none] h = .nx [some (.tup (cs.map enc3)), some (.lst [.lst (colD 0 cs), .lst (colD 1 cs), .lst (colD 2 cs)]), none, none, none] h := by
    rw [v_setLf, v_set, v_froz, sd]
    rfl
  have mn := lComp_map (h := h) (h1 := h) (e := [some (.tup (cs.map enc3)), some (.lst [.lst (colD 0 cs), .lst (colD 1 cs), .lst (colD 2 cs)]), none, none, none]) (I := iVal (eVar 1)) (G := gN 4) (is := [4]) (A := eCall minA (aCons (eVar 4) aNil)) (enc := fun k => .lst (colD k cs)) (xs := [0, 1, 2]) (fun k => .int (mn k)) rfl (by decide)
    (fun j _ => ⟨_, rfl, fun acc => by simp [wipeE, k.mn]⟩) (fun _ _ => rfl)
  have mx := lComp_map (h := h) (h1 := h) (e := [some (.tup (cs.map enc3)), some (.lst [.lst (colD 0 cs), .lst (colD 1 cs), .lst (colD 2 cs)]), none, none, none]) (I := iVal (eVar 1)) (G := gN 4) (is := [4]) (A := eCall maxA (aCons (eVar 4) aNil)) (enc := fun k => .lst (colD k cs)) (xs := [0, 1, 2]) (fun k => .int (mx k)) rfl (by decide)
    (fun j _ => ⟨_, rfl, fun acc => by simp [wipeE, k.mx]⟩) (fun _ _ => rfl)
  simp only [List.map_cons, List.map_nil] at mn mx
  unfold p_bounds
  rw [v_fn]
  show fnE (sSeq _ _ [some (.tup (cs.map enc3)), none, none, none, none] h) = _
  rw [v_seq, l0]
  simp [mn, mx, bnd]
end Lb

set_option Elab.async false
set_option linter.all false
set_option maxRecDepth 100000
set_option maxHeartbeats 4000000
namespace K01
open PySem PySem.Spec PyProof.Rows L2 Lb
theorem e_is_body : f_is_body = p_is_body := rfl
theorem e_pieces : f_pieces = p_pieces := rfl
theorem e_other : f_l_otherwise = p_l_otherwise := rfl
theorem e_thing : f_l_thing = p_l_thing := rfl
theorem e_cells : f_l_are_cells = p_l_are_cells := rfl
theorem e_says : f_l_says = p_l_says := rfl
theorem e_take : f_l_take = p_l_take := rfl
theorem e_well : f_l_well = wl := rfl
theorem e_body : f_l_body = p_l_body := rfl
/-! ### pieces as the law joins them -/
def encL (p : List P3) : D := .lst (p.map enc3)
theorem eqvL (p q : List P3) : PyData.eqv (encL p).data (encL q).data = decide (p = q) := by
  simp only [encL, D.data, PyData.eqv]
  exact eqvAll_enc eqv3 p q
theorem fitL (p : List P3) : (encL p).fit 5 = true := by
  show (p.map enc3).all (D.fit 4) = true
  exact fits3 p 2
theorem lowL (p : List P3) (k : Nat) : (encL p).low k = true := low_of_fit k 5 _ (fitL p)
@[simp] theorem v_zip {A : Es} {e : En} {h : Hs} : iZipD A e h = (A e h).bind fun xs h1 => match xs with
  | [.lst ds, .lst es] => .ok (.fix (zipF ds es)) h1
  | [.tup ds, .tup es] => .ok (.fix (zipF ds es)) h1
  | _ => .bad := rfl
theorem l_beside_s (a c : P3) (h : Hs) : Lb.run f_l_beside [enc3 a, enc3 c] h = .ok (.bl (decide (adj a c))) h := by
  obtain ⟨a1, a2, a3⟩ := a
  obtain ⟨c1, c2, c3⟩ := c
  refine run_sm ?_ rfl
  have lc := lComp_map (h := h) (h1 := h) (e := [some (enc3 (a1, a2, a3)), some (enc3 (c1, c2, c3)), none, none]) (I := iZipD (aCons (eVar 0) (aCons (eVar 1) aNil))) (G := gTp [(gN 2), (gN 3)]) (is := [2, 3]) (A := eCall absD (aCons (e2 subD (eVar 2) (eVar 3)) aNil)) (enc := enc2) (xs := [(a1, c1), (a2, c2), (a3, c3)]) (fun d => .int (abs' (d.1 - d.2))) rfl (by show 3 ≤ sizeLine; decide)
    (fun d _ => ⟨_, rfl, fun acc => rfl⟩) (fun _ _ => rfl)
  have sm : sumD [.lst [.int (abs' (a1 - c1)), .int (abs' (a2 - c2)), .int (abs' (a3 - c3))]] h = .ok (.int (abs' (a1 - c1) + (abs' (a2 - c2) + (abs' (a3 - c3) + 0)))) h := rfl
  simp only [List.map_cons, List.map_nil] at lc
  simp [f_l_beside, lc, sm, -v_zip]
  unfold adj
  rfl
section
variable {ds : List P3} {x : P3} {F : List (List P3)}
/-- whether a piece is beside a cell -/
def nearB (x : P3) (p : List P3) : Bool := !(p.filter fun a => decide (adj a x)).isEmpty
theorem nearB_iff (x : P3) (p : List P3) : nearB x p = true ↔ ∃ a ∈ p, adj a x := by
  unfold nearB
  rw [Bool.not_eq_true', List.isEmpty_eq_false_iff_exists_mem]
  constructor
  · rintro ⟨a, ha⟩
    obtain ⟨h1, h2⟩ := List.mem_filter.mp ha
    exact ⟨a, h1, by simpa using h2⟩
  · rintro ⟨a, h1, h2⟩
    exact ⟨a, List.mem_filter.mpr ⟨h1, by simpa using h2⟩⟩
theorem Rch.mono {cs cs' : List P3} (hs : ∀ y ∈ cs, y ∈ cs') {a b : P3} (r : Rch cs a b) : Rch cs' a b := by
  induction r with
  | refl h => exact .refl (hs _ h)
  | step _ h ad ih => exact .step ih (hs _ h) ad
/-- the joined piece's cells -/
def joined (F : List (List P3)) (x : P3) : List P3 := (F.filter (nearB x)).flatten ++ [x]
theorem mem_joined {y : P3} : y ∈ joined F x ↔ y = x ∨ ∃ p ∈ F, (∃ a ∈ p, adj a x) ∧ y ∈ p := by
  unfold joined
  rw [List.mem_append, List.mem_flatten, List.mem_singleton]
  constructor
  · rintro (⟨p, hp, hy⟩ | h)
    · obtain ⟨h1, h2⟩ := List.mem_filter.mp hp
      exact .inr ⟨p, h1, (nearB_iff x p).mp h2, hy⟩
    · exact .inl h
  · rintro (h | ⟨p, hp, hn, hy⟩)
    · exact .inr h
    · exact .inl ⟨p, List.mem_filter.mpr ⟨hp, (nearB_iff x p).mpr hn⟩, hy⟩
theorem flat_nd : ∀ {F : List (List P3)}, (∀ p ∈ F, p.Nodup) → F.Nodup → (∀ p ∈ F, ∀ q ∈ F, ∀ y, y ∈ p → y ∈ q → p = q) → F.flatten.Nodup
  | [], _, _, _ => by simp
  | p :: F, h1, h2, h3 => by
    obtain ⟨n1, n2⟩ := List.nodup_cons.mp h2
    rw [List.flatten_cons, List.nodup_append]
    refine ⟨h1 p List.mem_cons_self, flat_nd (fun q hq => h1 q (List.mem_cons_of_mem _ hq)) n2 (fun q hq r hr => h3 q (List.mem_cons_of_mem _ hq) r (List.mem_cons_of_mem _ hr)), fun a ha b hb e => ?_⟩
    subst e
    obtain ⟨q, hq, haq⟩ := List.mem_flatten.mp hb
    have := h3 p List.mem_cons_self q (List.mem_cons_of_mem _ hq) a ha haq
    subst this
    exact n1 hq
theorem lt3_nd {p : List P3} (h : p.Pairwise lt3) : p.Nodup := h.imp fun {a b} hab e => by subst e; exact ord3.irr _ hab
theorem joined_nd (f : Pieces ds F) (hx : x ∉ ds) : (joined F x).Nodup := by
  unfold joined
  have sub : ∀ p ∈ F.filter (nearB x), p ∈ F := fun p hp => (List.mem_filter.mp hp).1
  refine List.nodup_append.mpr ⟨flat_nd (fun p hp => lt3_nd (f.srt p (sub p hp))) (f.nd.filter _) (fun p hp q hq y hy hy' => ?_), by simp, fun a ha b hb e => ?_⟩
  · exact sorted_ext ord3 (f.srt p (sub p hp)) (f.srt q (sub q hq)) fun z => by rw [comp_of (f.comp p (sub p hp)) hy, comp_of (f.comp q (sub q hq)) hy']
  · rw [List.mem_singleton] at hb
    subst hb; subst e
    obtain ⟨p, hp, hap⟩ := List.mem_flatten.mp ha
    exact hx ((comp_of (f.comp p (sub p hp)) hap a).mp hap).right
theorem join_pieces (f : Pieces ds F) (hx : x ∉ ds) {m : List P3} (hm : m.Pairwise lt3) (pm : m.Perm (joined F x)) : Pieces (ds ++ [x]) (F.filter (fun p => !nearB x p) ++ [m]) := by
  have inm : ∀ y, y ∈ m ↔ y = x ∨ ∃ p ∈ F, (∃ a ∈ p, adj a x) ∧ y ∈ p := fun y => by rw [pm.mem_iff, mem_joined]
  have sub : ∀ y ∈ ds, y ∈ ds ++ [x] := fun y hy => List.mem_append_left _ hy
  have xin : x ∈ ds ++ [x] := by simp
  refine ⟨fun p hp => ?_, fun p hp => ?_, fun y hy => ?_, ?_⟩
  · rcases List.mem_append.mp hp with hp | hp
    · exact f.srt p (List.mem_filter.mp hp).1
    · rw [List.mem_singleton] at hp; subst hp; exact hm
  · rcases List.mem_append.mp hp with hp | hp
    · obtain ⟨h1, h2⟩ := List.mem_filter.mp hp
      have nn : ¬ ∃ a ∈ p, adj a x := fun z => by rw [(nearB_iff x p).mpr z] at h2; cases h2
      obtain ⟨a, ha, k⟩ := f.comp p h1
      refine ⟨a, sub a ha, fun y => ⟨fun hy => Rch.mono sub ((k y).mp hy), fun r => ?_⟩⟩
      induction r with
      | refl _ => exact (k a).mpr (.refl ha)
      | @step y z _ hz ad ih =>
        rcases List.mem_append.mp hz with hz | hz
        · exact (k z).mpr (.step ((k y).mp ih) hz ad)
        · rw [List.mem_singleton] at hz; subst hz
          exact absurd ⟨y, ih, ad⟩ nn
    · rw [List.mem_singleton] at hp; subst hp
      refine ⟨x, xin, fun y => ⟨fun hy => ?_, fun r => ?_⟩⟩
      · rcases (inm y).mp hy with rfl | ⟨q, hq, ⟨a, ha, ad⟩, hyq⟩
        · exact .refl xin
        · have r1 := (comp_of (f.comp q hq) ha y).mp hyq
          exact (Rch.step (.refl xin) (sub a r1.left) (adj_sym ad)).trans (Rch.mono sub r1)
      · induction r with
        | refl _ => exact (inm x).mpr (.inl rfl)
        | @step y z _ hz ad ih =>
          rcases List.mem_append.mp hz with hzd | hzx
          · rcases (inm y).mp ih with hyx | ⟨q, hq, hn, hyq⟩
            · obtain ⟨q, hq, hzq⟩ := f.all z hzd
              exact (inm z).mpr (.inr ⟨q, hq, ⟨z, hzq, by rw [← hyx]; exact adj_sym ad⟩, hzq⟩)
            · have r1 := comp_of (f.comp q hq) hyq z
              exact (inm z).mpr (.inr ⟨q, hq, hn, r1.mpr (.step (.refl ((comp_of (f.comp q hq) hyq y).mp hyq).right) hzd ad)⟩)
          · rw [List.mem_singleton] at hzx; subst hzx
            exact (inm z).mpr (.inl rfl)
  · rcases List.mem_append.mp hy with hy | hy
    · obtain ⟨p, hp, hyp⟩ := f.all y hy
      by_cases hn : nearB x p = true
      · exact ⟨m, by simp, (inm y).mpr (.inr ⟨p, hp, (nearB_iff x p).mp hn, hyp⟩)⟩
      · exact ⟨p, List.mem_append_left _ (List.mem_filter.mpr ⟨hp, by simpa using hn⟩), hyp⟩
    · rw [List.mem_singleton] at hy; subst hy
      exact ⟨m, by simp, (inm y).mpr (.inl rfl)⟩
  · refine List.nodup_append.mpr ⟨f.nd.filter _, by simp, fun a ha b hb e => ?_⟩
    rw [List.mem_singleton] at hb
    subst hb; subst e
    have h1 := (List.mem_filter.mp ha).1
    have : x ∈ a := (inm x).mpr (.inl rfl)
    exact hx ((comp_of (f.comp a h1) this x).mp this).right
end
theorem parts_enc {h : Hs} : ∀ F : List (List P3), partsOf h (F.map encL) = some (F.map fun p => p.map enc3)
  | [] => rfl
  | p :: F => by
    show (match listOf h (encL p), partsOf h (F.map encL) with | some ys, some yss => some (ys :: yss) | _, _ => none) = _
    rw [parts_enc F]
    rfl
theorem flat_enc (F : List (List P3)) : (F.map fun p => p.map enc3).flatten = F.flatten.map enc3 := by
  induction F with
  | nil => rfl
  | cons p F ih => rw [List.map_cons, List.flatten_cons, List.flatten_cons, ih, List.map_append]
theorem sum_parts {h : Hs} {F : List (List P3)} (hz : F.flatten.length ≤ 1000) : sumD [.lst (F.map encL), .lst []] h = .ok (.lst (F.flatten.map enc3)) h := by
  show (match partsOf h (F.map encL) with | some yss => if yss.flatten.length ≤ sizeLine then R.ok (D.lst yss.flatten) h else .bad | none => .bad) = _
  rw [parts_enc]
  dsimp only
  rw [flat_enc, if_pos (by rw [List.length_map]; exact sl1000 hz)]
theorem in_L {h : Hs} (p : List P3) (G : List (List P3)) : inB h (encL p) (.lst (G.map encL)) = some (decide (p ∈ G)) := by
  show (if (viewD h (encL p)).fit 40 && (G.map encL).all (D.fit 40) then some ((G.map encL).any fun y => PyData.eqv y.data (viewD h (encL p)).data) else none) = _
  rw [show viewD h (encL p) = encL p from rfl, fit_mono (by decide) _ (fitL p), fits_enc (n := 40) (fun a => fit_mono (by decide) _ (fitL a)) G]
  have : ((G.map encL).any fun y => PyData.eqv y.data (encL p).data) = decide (p ∈ G) := by
    rw [List.any_map, Bool.eq_iff_iff, List.any_eq_true, decide_eq_true_eq]
    constructor
    · rintro ⟨q, hq, e⟩
      have : PyData.eqv (encL q).data (encL p).data = true := e
      rw [eqvL, decide_eq_true_eq] at this
      subst this; exact hq
    · intro hp
      exact ⟨p, hp, by show PyData.eqv (encL p).data (encL p).data = true; rw [eqvL]; simp⟩
  rw [this]
  rfl
/-- what a piece's cells, and how many, are at most -/
theorem pieces_len {ds : List P3} {F : List (List P3)} (f : Pieces ds F) : F.flatten.length ≤ ds.length := by
  have nd : F.flatten.Nodup := flat_nd (fun p hp => lt3_nd (f.srt p hp)) f.nd fun p hp q hq y hy hy' => sorted_ext ord3 (f.srt p hp) (f.srt q hq) fun z => by rw [comp_of (f.comp p hp) hy, comp_of (f.comp q hq) hy']
  refine nd.length_le_of_subset fun y hy => ?_
  obtain ⟨p, hp, hyp⟩ := List.mem_flatten.mp hy
  exact ((comp_of (f.comp p hp) hyp y).mp hyp).right
theorem flat_filter_le (q : List P3 → Bool) : ∀ F : List (List P3), (F.filter q).flatten.length ≤ F.flatten.length
  | [] => Nat.le_refl _
  | p :: F => by
    have := flat_filter_le q F
    by_cases h : q p = true
    · rw [List.filter_cons_of_pos h, List.flatten_cons, List.flatten_cons, List.length_append, List.length_append]; omega
    · rw [List.filter_cons_of_neg h, List.flatten_cons, List.length_append]; omega
def lpB : Sv := (sSeq (sSet 3 (eFroz (lComp (iVal (eVar 1)) [5] (gN 5) (tE (e2 neD (eFroz (lComp (iVal (eVar 5)) [6] (gN 6) (tE (eCallN (argsN 2 0 (fun a _ => a) (fz true f_l_beside)) (aCons (eVar 6) (aCons (eVar 2) aNil)) aNil)) (eVar 6))) (eFroz (lDisp aNil)))) (eVar 5))))
    (sSeq (sSetL 4 (lComp (iVal (eVar 1)) [5] (gN 5) (tE (e2 ninD (eVar 5) (eVar 3))) (eVar 5)) false)
    (sSet 1 (e2 addD (eVar 4) (eFroz (lDisp (aCons (eFroz (lCall sortedL (aCons (e2 addD (eCall sumD (aCons (eVar 3) (aCons (eFroz (lDisp aNil)) aNil))) (eFroz (lDisp (aCons (eVar 2) aNil)))) aNil))) aNil)))))))
theorem lp_is : f_l_pieces = fnB 7 (sSeq (sSet 1 (eFroz (lDisp aNil))) (sSeq (sFor (iVal (eVar 0)) (gN 2) lpB) (sRet (eFroz (lCall sortedL (aCons (eFroz (lComp (iVal (eVar 1)) [5] (gN 5) tTrue (eCall tupleD (aCons (eVar 5) aNil)))) aNil)))))) := rfl
section
variable {h : Hs} {b : D} {ds : List P3} {x : P3} {F : List (List P3)} {a3 a4 a5 a6 : Option D}
theorem lp_turn (f : Pieces ds F) (hx : x ∉ ds) (hz : ds.length ≤ 400) (hF : F.length ≤ ds.length) : ∃ F' a3' a4', lpB [some b, some (.lst (F.map encL)), some (enc3 x), a3, a4, a5, a6] h = .nx [some b, some (.lst (F'.map encL)), some (enc3 x), a3', a4', a5, a6] h ∧ Pieces (ds ++ [x]) F' ∧ F'.length ≤ ds.length + 1 := by
  have big : (2000 : Nat) < sizeLine := by decide
  have pl := pieces_len f
  have near := lComp_pure (h := h) (h1 := h) (e := [some b, some (.lst (F.map encL)), some (enc3 x), a3, a4, a5, a6]) (I := iVal (eVar 1)) (G := gN 5) (is := [5]) (T := tE (e2 neD (eFroz (lComp (iVal (eVar 5)) [6] (gN 6) (tE (eCallN (argsN 2 0 (fun a _ => a) (Lb.run f_l_beside)) (aCons (eVar 6) (aCons (eVar 2) aNil)) aNil)) (eVar 6))) (eFroz (lDisp aNil)))) (A := eVar 5) (enc := encL) (xs := F) (nearB x) encL (by simp) (by omega)
    (fun p hp => ⟨_, rfl, fun acc => by
      have lp : p.length ≤ F.flatten.length := by
        have := List.Sublist.length_le (List.sublist_flatten_of_mem hp)
        exact this
      have inner := lComp_pure (h := h ++ [.lst acc]) (h1 := h ++ [.lst acc]) (e := [some b, some (.lst (F.map encL)), some (enc3 x), a3, a4, some (encL p), a6]) (I := iVal (eVar 5)) (G := gN 6) (is := [6]) (T := tE (eCallN (argsN 2 0 (fun a _ => a) (Lb.run f_l_beside)) (aCons (eVar 6) (aCons (eVar 2) aNil)) aNil)) (A := eVar 6) (enc := enc3) (xs := p) (fun a => decide (adj a x)) enc3 (by simp [encL]) (by omega)
        (fun a _ => ⟨_, rfl, fun acc2 => by simp [wipeE, l_beside_s]⟩) (fun _ _ _ => rfl)
      have ne : nbD eqB (.lst ((p.filter fun a => decide (adj a x)).map enc3)) (.lst []) (h ++ [.lst acc]) = .ok (.bl (nearB x p)) (h ++ [.lst acc]) := by
        rw [neD_of (eqB_nilL (fits3 _ 37))]
        unfold nearB
        rw [List.isEmpty_map]
      simp [wipeE, inner, ne]⟩) (fun p _ _ => lowL p _)
  have rest := lComp_pure (h := h) (h1 := h) (e := [some b, some (.lst (F.map encL)), some (enc3 x), some (.lst ((F.filter (nearB x)).map encL)), a4, a5, a6]) (I := iVal (eVar 1)) (G := gN 5) (is := [5]) (T := tE (e2 ninD (eVar 5) (eVar 3))) (A := eVar 5) (enc := encL) (xs := F) (fun p => !nearB x p) encL (by simp) (by omega)
    (fun p hp => ⟨_, rfl, fun acc => by
      have q : nbD inB (encL p) (.lst ((F.filter (nearB x)).map encL)) (h ++ [.lst acc]) = .ok (.bl (!nearB x p)) (h ++ [.lst acc]) := by
        rw [ninD_of (in_L p (F.filter (nearB x)))]
        congr 3
        rw [Bool.eq_iff_iff, decide_eq_true_eq, List.mem_filter]
        exact ⟨fun z => z.2, fun z => ⟨hp, z⟩⟩
      simp [wipeE, q]⟩) (fun p _ _ => lowL p _)
  obtain ⟨m, em, pm, pp⟩ := srt_enc ord3 data3 (joined_nd f hx)
  have jl : (joined F x).length ≤ ds.length + 1 := by
    unfold joined
    rw [List.length_append, List.length_singleton]
    have : (F.filter (nearB x)).flatten.length ≤ F.flatten.length := flat_filter_le _ F
    omega
  have fl : (F.filter (nearB x)).flatten.length ≤ ds.length := by
    have : (F.filter (nearB x)).flatten.length ≤ F.flatten.length := flat_filter_le _ F
    omega
  have sm := sum_parts (h := h) (F := F.filter (nearB x)) (by omega)
  have so : sortedL [.lst ((F.filter (nearB x)).flatten.map enc3 ++ [enc3 x])] h = .ok (m.map enc3) h := by
    have e : (F.filter (nearB x)).flatten.map enc3 ++ [enc3 x] = (joined F x).map enc3 := by simp [joined]
    rw [e]
    show (if sortOk ((joined F x).map enc3) then R.ok (srt ((joined F x).map enc3)) h else .bad) = _
    rw [if_pos (sortOk3 _ (by omega)), em]
  have c1 : ((F.filter (nearB x)).flatten.map enc3).length + 1 ≤ 1000000 := by rw [List.length_map]; omega
  have c2 : ((F.filter fun p => !nearB x p).map encL).length + 1 ≤ 1000000 := by
    have := List.length_filter_le (fun p => !nearB x p) F
    rw [List.length_map]; omega
  refine ⟨F.filter (fun p => !nearB x p) ++ [m], some (.lst ((F.filter (nearB x)).map encL)), some (.lst ((F.filter fun p => !nearB x p).map encL)), ?_, join_pieces f hx pm pp, ?_⟩
  · have e1 : (F.filter (fun p => !nearB x p) ++ [m]).map encL = (F.filter fun p => !nearB x p).map encL ++ [.lst (m.map enc3)] := by simp [encL]
    rw [e1]
    generalize (F.filter (nearB x)).flatten.map enc3 = J at sm so c1
    generalize (F.filter (nearB x)).map encL = N at near rest sm
    generalize (F.filter fun p => !nearB x p).map encL = R at rest c2
    unfold lpB
    simp [near, rest, sm, szt_ok c1, szt_ok c2, so]
  · have := List.length_filter_le (fun p => !nearB x p) F
    rw [List.length_append, List.length_singleton]; omega
end
theorem l_pieces_s {cs : List P3} {h : Hs} (hz : cs.length ≤ 400) (hn : cs.Nodup) : ∃ F, Pieces cs F ∧ F.length ≤ cs.length ∧ Lb.run f_l_pieces [.tup (cs.map enc3)] h = .ok (.lst (srt (F.map encT))) h := by
  have big : (2000 : Nat) < sizeLine := by decide
  obtain ⟨e', st', r, ⟨F, a2, a3, a4, rfl, f, hF⟩, rfl⟩ := forL_inv (G := gN 2) (S := lpB) (fun j e st => (∃ F a2 a3 a4, e = [some (.tup (cs.map enc3)), some (.lst (F.map encL)), a2, a3, a4, none, none] ∧ Pieces (cs.take j) F ∧ F.length ≤ j) ∧ st = h)
    (cs.map enc3) 0 [some (.tup (cs.map enc3)), some (.lst (([] : List (List P3)).map encL)), none, none, none, none, none] h (fun j d e st hj ⟨⟨F, a2, a3, a4, he, f, hF⟩, hst⟩ => by
      subst he hst
      rw [List.getElem?_map] at hj
      cases hx : cs[j]? with
      | none => rw [hx] at hj; cases hj
      | some x =>
        rw [hx] at hj
        cases hj
        rw [Nat.zero_add] at f ⊢
        have hjl := (List.getElem?_eq_some_iff.mp hx).1
        have nx : x ∉ cs.take j := fun hm => by
          obtain ⟨i, hi⟩ := List.getElem?_of_mem hm
          rw [List.getElem?_take] at hi
          split at hi
          · rename_i hij
            have e1 := (List.getElem?_eq_some_iff.mp hi).2
            have e2 := (List.getElem?_eq_some_iff.mp hx).2
            have := (List.getElem_inj hn).mp (e1.trans e2.symm)
            omega
          · cases hi
        have lt : (cs.take j).length = j := by rw [List.length_take]; omega
        obtain ⟨F', a3', a4', q, f', hF'⟩ := lp_turn (h := st) (b := .tup (cs.map enc3)) (a3 := a3) (a4 := a4) (a5 := none) (a6 := none) f nx (by omega) (by omega)
        refine ⟨_, rfl, _, _, .inl q, ⟨F', _, _, _, rfl, ?_, by omega⟩, rfl⟩
        rw [List.take_add_one, hx]
        exact f') ⟨⟨[], none, none, none, rfl, ⟨by simp, by simp, by simp, by simp⟩, Nat.le_refl _⟩, rfl⟩
  rw [Nat.zero_add, List.length_map] at f hF
  rw [List.take_of_length_le (Nat.le_refl _)] at f
  refine ⟨F, f, hF, ?_⟩
  refine run_sm ?_ ?_
  · have lc := lComp_map (h := st') (h1 := st') (e := [some (.tup (cs.map enc3)), some (.lst (F.map encL)), a2, a3, a4, none, none]) (I := iVal (eVar 1)) (G := gN 5) (is := [5]) (A := eCall tupleD (aCons (eVar 5) aNil)) (enc := encL) (xs := F) encT (by simp) (by omega)
      (fun p _ => ⟨_, rfl, fun acc => rfl⟩) (fun p _ => lowT p _)
    have so : sortedL [.lst (F.map encT)] st' = .ok (srt (F.map encT)) st' := by
      show (if sortOk (F.map encT) then R.ok (srt (F.map encT)) st' else .bad) = _
      rw [if_pos (sortOkT (by omega) fun p hp => (f.comp p hp).ne)]
    have r' : forL (gN 2) lpB (cs.map enc3) [some (.tup (cs.map enc3)), some (.lst []), none, none, none, none, none] st' = .nx [some (.tup (cs.map enc3)), some (.lst (F.map encL)), a2, a3, a4, none, none] st' := r
    rw [lp_is]
    simp [r', lc, so]
  · obtain ⟨m, e, pw, pm⟩ := srt_enc ordL dataL f.nd
    rw [e]
    exact lows_enc (fun p => lowT p _) m
end K01

set_option Elab.async false
set_option linter.all false
set_option maxRecDepth 100000
set_option maxHeartbeats 4000000
namespace K01
open PySem PySem.Spec PyProof.Rows L2 Lb
def many3 : List P3 := (List.range 3).flatMap fun z => (List.range 10).flatMap fun y => (List.range 10).map fun x => ((z : Nat), (y : Nat), (x : Nat))
def manyS : Sv := sFor (iRng1 (aCons (eC (.int 3)) aNil)) (gN 2) (sFor (iRng1 (aCons (eC (.int 10)) aNil)) (gN 3) (sSet 1 (e2 addD (eVar 1) (eFroz (lComp (iRng1 (aCons (eC (.int 10)) aNil)) [14] (gN 14) tTrue (eTup (aCons (eVar 2) (aCons (eVar 3) (aCons (eVar 14) aNil)))))))))
theorem many_ok (ns : List Int) : manyS [some (.scr ns), some (.lst []), none, none, none, none, none, none, none, none, none, none, none, none, none, none] [] =
    .nx [some (.scr ns), some (.lst (many3.map enc3)), some (.int 2), some (.int 9), none, none, none, none, none, none, none, none, none, none, none, none] [] := by kernel_rfl
theorem many_box : ∀ c ∈ many3, box c := by decide +kernel
theorem many_len : many3.length = 300 := by decide +kernel
/-- a thing that may be asked -/
def okT (d : D) : Bool := d.fit 39 && (match d with | .tup xs => decide (xs.length < 307) | _ => true)
def chkB : Sv := (sSeq (sSet 9 (eAnd (eCallN (argsN 1 0 (fun a _ => a) (fz true f_l_are_cells)) (aCons (eVar 8) aNil) aNil) (eAnd (e2 ltD (eC (.int 0)) (eCall lenD (aCons (eVar 8) aNil))) (e2 ltD (eCall lenD (aCons (eVar 8) aNil)) (eC (.int 201))))))
    (sIf (tNot (tE (eCallN (argsN 2 0 (fun a _ => a) (fz true f_l_says)) (aCons (eCallN (argsN 1 0 (fun a _ => a) (fz true f_is_body)) (aCons (eVar 8) aNil) aNil) (aCons (eVar 9) aNil)) aNil))) (sRet (eC (.bl false))) sPass))
theorem eqD_bb {h : Hs} (a b : Bool) : bD eqB (.bl a) (.bl b) h = .ok (.bl (decide (a = b))) h := by
  refine eqD_of (eqB_of rfl rfl rfl rfl ?_)
  cases a <;> cases b <;> rfl
theorem says_s {h : Hs} (a b : Bool) : Lb.run p_l_says [.bl a, .bl b] h = .ok (.bl (decide (a = b))) h := by
  refine run_sm ?_ rfl
  simp [p_l_says, eqD_bb]
section
variable {h st : Hs} {e0 e1 e2 e3 e4 e5 e6 e7 e9 e10 e11 e12 e13 e14 e15 : Option D} {d : D}
theorem chk_ok (hd : okT d = true) : ∃ b, chkB [e0, e1, e2, e3, e4, e5, e6, e7, some d, e9, e10, e11, e12, e13, e14, e15] st = .nx [e0, e1, e2, e3, e4, e5, e6, e7, some d, some b, e10, e11, e12, e13, e14, e15] st := by
  unfold okT at hd
  rw [Bool.and_eq_true] at hd
  obtain ⟨hf, hl⟩ := hd
  have hz : ∀ xs, d = .tup xs → xs.length < 307 := fun xs e => by subst e; simpa using hl
  have q1 := l_are_cells_s (h := st) (n := 38) hf (by decide) hz
  have q2 := is_body_s (h := st) (n := 38) hf fun xs e => by have := hz xs e; omega
  rw [← e_cells] at q1
  rw [← e_is_body] at q2
  cases hc : areC d with
  | false =>
    have hb : isBd d = false := by unfold isBd; rw [hc]; rfl
    rw [hc] at q1
    rw [hb] at q2
    refine ⟨.bl false, ?_⟩
    have q3 := says_s (h := st) false false
    rw [← e_says] at q3
    simp [chkB, q1, q2, q3]
  | true =>
    cases d with
    | tup xs =>
      rw [hc] at q1
      refine ⟨.bl (isBd (.tup xs)), ?_⟩
      have q3 := says_s (h := st) (isBd (.tup xs)) (isBd (.tup xs))
      rw [← e_says, decide_eq_true rfl] at q3
      have hb : isBd (.tup xs) = (decide ((0 : Int) < xs.length) && decide ((xs.length : Int) < 201)) := by
        unfold isBd
        rw [hc, Bool.true_and]
        rw [Bool.eq_iff_iff]
        simp only [Bool.and_eq_true, decide_eq_true_eq]
        constructor <;> intro ⟨a, b⟩ <;> constructor <;> omega
      by_cases h1 : (0 : Int) < xs.length
      · have hb' : isBd (.tup xs) = decide ((xs.length : Int) < 201) := by rw [hb, decide_eq_true h1, Bool.true_and]
        rw [hb'] at q2 q3 ⊢
        have h1' : 0 < xs.length := by omega
        generalize hg : decide ((xs.length : Int) < 201) = g at q2 q3 ⊢
        simp [chkB, q1, q2, h1, h1', hg, q3]
      · have hb' : isBd (.tup xs) = false := by rw [hb, decide_eq_false h1, Bool.false_and]
        rw [hb'] at q2 q3 ⊢
        have h1' : xs = [] := List.eq_nil_of_length_eq_zero (by omega)
        subst h1'
        simp [chkB, q1, q2, q3]
    | _ => simp [areC, cellsD] at hc
theorem chk_loop : ∀ (T : List D) (e8 e9 : Option D), (∀ d ∈ T, okT d = true) → ∃ e8' e9', forL (gN 8) chkB T [e0, e1, e2, e3, e4, e5, e6, e7, e8, e9, e10, e11, e12, e13, e14, e15] st = .nx [e0, e1, e2, e3, e4, e5, e6, e7, e8', e9', e10, e11, e12, e13, e14, e15] st
  | [], e8, e9, _ => ⟨e8, e9, rfl⟩
  | d :: T, e8, e9, hT => by
    obtain ⟨b, q⟩ := chk_ok (st := st) (e0 := e0) (e1 := e1) (e2 := e2) (e3 := e3) (e4 := e4) (e5 := e5) (e6 := e6) (e7 := e7) (e9 := e9) (e10 := e10) (e11 := e11) (e12 := e12) (e13 := e13) (e14 := e14) (e15 := e15) (hT d List.mem_cons_self)
    obtain ⟨e8', e9', r⟩ := chk_loop T (some d) (some b) fun x hx => hT x (List.mem_cons_of_mem _ hx)
    exact ⟨e8', e9', (forL_c (e1 := [e0, e1, e2, e3, e4, e5, e6, e7, some d, e9, e10, e11, e12, e13, e14, e15]) rfl q).trans r⟩
end
theorem okT_thg {L n : Nat} {d : D} (hL : L < 307) (hn : n ≤ 39) (h : thg L n d = true) : okT d = true := by
  unfold okT
  rw [fit_mono hn d (thg_fit h), Bool.true_and]
  cases d with
  | tup xs =>
    cases n with
    | zero => simp [thg] at h
    | succ n => simp only [thg, Bool.and_eq_true, decide_eq_true_eq] at h; simp; omega
  | _ => rfl
theorem okT_tup {m : List P3} (h : m.length < 307) : okT (.tup (m.map enc3)) = true := by
  unfold okT
  show ((m.map enc3).all (D.fit 38) && decide ((m.map enc3).length < 307)) = true
  rw [fits3 m 36, List.length_map]
  simp [h]
theorem okT_lst {m : List P3} : okT (.lst (m.map enc3)) = true := by
  unfold okT
  show ((m.map enc3).all (D.fit 38) && true) = true
  rw [fits3 m 36]
  rfl
end K01

set_option Elab.async false
set_option linter.all false
set_option maxRecDepth 100000
set_option maxHeartbeats 4000000
namespace K01
open PySem PySem.Spec PyProof.Rows L2 Lb
theorem cut_map {α : Type} (enc : α → D) (xs : List α) (lo hi : Option Int) : ∃ ys : List α, cutD (xs.map enc) lo hi = ys.map enc ∧ ys.length ≤ xs.length := by
  refine ⟨(xs.drop (HT.sIx xs.length 0 lo)).take (HT.sIx xs.length xs.length hi - HT.sIx xs.length 0 lo), ?_, by rw [List.length_take, List.length_drop]; omega⟩
  unfold Lb.cutD
  rw [List.length_map, List.map_take, List.map_drop]
@[simp] theorem slice_tup {xs : List D} {lo hi : Option Int} {h : Hs} : sliceD (.tup xs) lo hi h = .ok (.tup (cutD xs lo hi)) h := rfl
@[simp] theorem lslice_lst {xs : List D} {lo hi : Option Int} {h : Hs} : lSliceD (.lst xs) lo hi h = .ok (cutD xs lo hi) h := rfl
theorem cut_last (xs : List D) : (cutD xs (some (-1)) none).length ≤ 1 := by
  unfold Lb.cutD HT.sIx
  rw [List.length_take]
  simp only [show (-1 : Int) < 0 by decide, if_true]
  omega
theorem eqvAll_len : ∀ {xs ys : List PyData}, PyData.eqvAll xs ys = true → xs.length = ys.length
  | [], [], _ => rfl
  | [], y :: ys, h => by simp [PyData.eqvAll] at h
  | x :: xs, [], h => by simp [PyData.eqvAll] at h
  | x :: xs, y :: ys, h => by
    simp only [PyData.eqvAll, Bool.and_eq_true] at h
    rw [List.length_cons, List.length_cons, eqvAll_len h.2]
theorem atT {s t : Hs} {o : Ob} : (s ++ (t ++ [o]))[s.length + t.length]? = some o := by
  rw [List.getElem?_append_right (by omega), List.getElem?_append_right (by omega)]; simp
theorem setT {s t : Hs} {o o' : Ob} : (s ++ (t ++ [o])).set (s.length + t.length) o' = s ++ (t ++ [o']) := by
  rw [List.set_append_right _ _ (by omega), show s.length + t.length - s.length = t.length by omega, List.set_append_right _ _ (Nat.le_refl _)]; simp
def st5 : Sv := sSet 5 (eCallN (argsN 2 0 (fun a _ => a) (fz false f_l_well)) (aCons (eVar 0) (aCons (eVar 4) aNil)) aNil)
def st6 : Sv := sSet 6 (eCallN (argsN 2 0 (fun a _ => a) (fz true f_l_body)) (aCons (eVar 5) (aCons (eC (.int 4)) aNil)) aNil)
def st7 : Sv := sSet 7 (eFroz (lDisp (aCons (eVar 6) (aCons (eCallN (argsN 3 0 (fun a _ => a) (fz true f_l_otherwise)) (aCons (eVar 5) (aCons (eVar 6) (aCons (eC (.int 2)) aNil))) aNil) (aCons (eCallN (argsN 3 0 (fun a _ => a) (fz true f_l_otherwise)) (aCons (eVar 5) (aCons (eVar 6) (aCons (eC (.int 1)) aNil))) aNil) (aCons (eFroz (lCall listAL (aCons (eVar 6) aNil))) (aCons (eTup aNil) (aCons (e1 revD (eVar 6)) aNil))))))))
def st8 : Sv := sSet 7 (e2 addD (eVar 7) (eFroz (lDisp (aCons (eCall tupleD (aCons (eFroz (lSlice (eVar 1) pNo (pSome (eC (.int 200))))) aNil)) (aCons (eCall tupleD (aCons (eFroz (lSlice (eVar 1) pNo (pSome (eC (.int 201))))) aNil)) (aCons (e2 addD (eVar 6) (eSlice (eVar 6) (pSome (e1 negD (eC (.int 1)))) pNo)) (aCons (eCallN (argsN 2 0 (fun a _ => a) (fz true f_l_thing)) (aCons (eVar 5) (aCons (eC (.int 3)) aNil)) aNil) (aCons (eTup (aCons (eTup (aCons (eC (.int 7)) (aCons (eC (.int 9)) (aCons (eC (.int 9)) aNil)))) aNil)) aNil))))))))
def st9 : Sv := sFor (iVal (e2 addD (eVar 7) (eFroz (lDisp (aCons (eTup (aCons (eTup (aCons (eC (.int 8)) (aCons (eC (.int 0)) (aCons (eC (.int 0)) aNil)))) aNil)) (aCons (eTup (aCons (eTup (aCons (eC (.int 0)) (aCons (eC (.int 10)) (aCons (eC (.int 0)) aNil)))) aNil)) (aCons (eTup (aCons (eTup (aCons (eC (.int 0)) (aCons (eC (.int 0)) (aCons (eC (.bl true)) aNil)))) aNil)) aNil))))))) (gN 8) chkB
def st10 : Sv := sSet 10 (eCallN (argsN 1 0 (fun a _ => a) (fz false f_pieces)) (aCons (eVar 6) aNil) aNil)
def st11 : Sv := sIf (tE (e2 neD (eVar 10) (eCallN (argsN 1 0 (fun a _ => a) (fz true f_l_pieces)) (aCons (eVar 6) aNil) aNil))) (sRet (eC (.bl false))) sPass
def st12 : Sv := sDrop (eMeth "list" appendD (eVar 10) (aCons (eC (.int 7)) aNil))
def st13 : Sv := sSet 11 (eCall tupleD (aCons (eFroz (lComp (iRng1 (aCons (eC (.int 3)) aNil)) [13] (gN 13) tTrue (eCall minA (aCons (eFroz (lComp (iVal (eVar 6)) [15] (gN 15) tTrue (e2 ixD (eVar 15) (eVar 13)))) aNil)))) aNil))
def st14 : Sv := sSet 12 (eCall tupleD (aCons (eFroz (lComp (iRng1 (aCons (eC (.int 3)) aNil)) [13] (gN 13) tTrue (eCall maxA (aCons (eFroz (lComp (iVal (eVar 6)) [15] (gN 15) tTrue (e2 ixD (eVar 15) (eVar 13)))) aNil)))) aNil))
def st15 : Sv := sIf (tOr (tE (e2 neD (eCallN (argsN 1 0 (fun a _ => a) (fz true f_bounds)) (aCons (eVar 6) aNil) aNil) (eTup (aCons (eVar 11) (aCons (eVar 12) aNil))))) (tE (e2 eqD (eCallN (argsN 1 0 (fun a _ => a) (fz true f_pieces)) (aCons (eVar 6) aNil) aNil) (eVar 10)))) (sRet (eC (.bl false))) sPass
def turn : Sv := sSeq st5 (sSeq st6 (sSeq st7 (sSeq st8 (sSeq st9 (sSeq st10 (sSeq st11 (sSeq st12 (sSeq st13 (sSeq st14 st15)))))))))
theorem law_is : f_law = fnB 16 (sSeq (sSet 1 (eFroz (lDisp aNil))) (sSeq manyS (sSeq (sFor (iRng1 (aCons (eCall maxA (aCons (eC (.int 6)) (aCons (eCall minA (aCons (eC (.int 40)) (aCons (eCall lenD (aCons (eVar 0) aNil)) aNil))) aNil))) aNil)) (gN 4) turn) (sRet (eC (.bl true)))))) := rfl
section
variable {st : Hs} {ns : List Int} {k : Int} {e2 e3 e5 e6 e7 e8 e9 e10 e11 e12 e13 e14 e15 : Option D}
theorem cols_step {h : Hs} {m : List P3} (hz : m.length ≤ 1000) {e0 e1 e2 e3 e4 e5 e7 e8 e9 e10 e11 e12 : Option D} {Op : List D → Hs → R D} {f : Nat → Int} (hop : ∀ k h, Op [.lst (colD k m)] h = .ok (.int (f k)) h) :
    lComp (iRng1 (aCons (eC (.int 3)) aNil)) [13] (gN 13) tTrue (eCall Op (aCons (eFroz (lComp (iVal (eVar 6)) [15] (gN 15) tTrue (Lb.e2 ixD (eVar 15) (eVar 13)))) aNil)) [e0, e1, e2, e3, e4, e5, some (.tup (m.map enc3)), e7, e8, e9, e10, e11, e12, e13, e14, e15] h = .ok [.int (f 0), .int (f 1), .int (f 2)] h := by
  have qI : ∀ e : En, iRng1 (aCons (eC (.int 3)) aNil) e h = .ok (.fix ((List.range 3).map fun k => D.int (k : Nat))) h := fun e => rfl
  exact lComp_map (h := h) (h1 := h) (e := [e0, e1, e2, e3, e4, e5, some (.tup (m.map enc3)), e7, e8, e9, e10, e11, e12, e13, e14, e15]) (G := gN 13) (is := [13]) (A := eCall Op (aCons (eFroz (lComp (iVal (eVar 6)) [15] (gN 15) tTrue (Lb.e2 ixD (eVar 15) (eVar 13)))) aNil)) (enc := fun k : Nat => D.int (k : Nat)) (xs := List.range 3) (fun k => .int (f k)) (qI _) (by decide)
    (fun j hj => ⟨_, rfl, fun acc => by
      have hj3 := List.mem_range.mp hj
      have inner := lComp_map (h := h ++ [.lst acc]) (h1 := h ++ [.lst acc]) (e := [e0, e1, e2, e3, e4, e5, some (.tup (m.map enc3)), e7, e8, e9, e10, e11, e12, some (.int (j : Nat)), e14, e15]) (I := iVal (eVar 6)) (G := gN 15) (is := [15]) (A := Lb.e2 ixD (eVar 15) (eVar 13)) (enc := enc3) (xs := m) (fun c => .int (nth3 j c)) (by simp) (sl1000 hz)
        (fun c _ => ⟨_, rfl, fun acc2 => by
          have := ix_nth hj3 c
          simp [wipeE, enc3, this]⟩) (fun _ _ => rfl)
      have e : m.map (fun c => D.int (nth3 j c)) = colD j m := rfl
      rw [e] at inner
      simp [wipeE, inner, hop]⟩) (fun j _ => rfl)
theorem turn_ok (hk : 0 ≤ k ∧ k < 1000) (hs : st.all (Ob.low 0) = true) : ∃ (e' : En) (st' : Hs), turn [some (.scr ns), some (.lst (many3.map enc3)), e2, e3, some (.int k), e5, e6, e7, e8, e9, e10, e11, e12, e13, e14, e15] st = .nx e' st' ∧ st'.all (Ob.low 0) = true ∧
    ∃ e5' e6' e7' e8' e9' e10' e11' e12', e' = [some (.scr ns), some (.lst (many3.map enc3)), e2, e3, some (.int k), e5', e6', e7', e8', e9', e10', e11', e12', e13, e14, e15] := by
  obtain ⟨c, w, q5, g0⟩ := well_g (ns := ns) (k := k) (h := st) hk hs
  obtain ⟨m, s1, bm, g1, u1, q6⟩ := body_b (high := 4) g0 (by decide)
  obtain ⟨d1, s2, q7, t1, g2, u2⟩ := other_s (L := 200) (deep := 2) (N := 4) (xs := m.map enc3) (by decide) (by decide) (by decide) (by decide) (by decide) g1 (thg3s (by decide) m) (by rw [List.length_map]; exact bm.len)
  obtain ⟨d2, s3, q8, t2, g3, u3⟩ := other_s (L := 200) (deep := 1) (N := 4) (xs := m.map enc3) (by decide) (by decide) (by decide) (by decide) (by decide) g2 (thg3s (by decide) m) (by rw [List.length_map]; exact bm.len)
  obtain ⟨d3, s4, q9, t3, g4, u4⟩ := thing_s (deep := 3) (t := []) (by decide) g3 rfl
  rw [List.append_nil, List.append_nil] at q9
  have bl := bm.len
  have bp := bm.pos
  obtain ⟨A, eA, lA⟩ := cut_map enc3 many3 none (some 200)
  obtain ⟨B, eB, lB⟩ := cut_map enc3 many3 none (some 201)
  obtain ⟨C, eC', lC⟩ := cut_map enc3 m (some (-1)) none
  rw [many_len] at lA lB
  have lC1 : C.length ≤ 1 := by have := cut_last (m.map enc3); rw [eC', List.length_map] at this; exact this
  let T1 : List D := [.tup (m.map enc3), d1, d2, .lst (m.map enc3), .tup [], .tup (m.map enc3).reverse]
  let T2 : List D := [.tup (A.map enc3), .tup (B.map enc3), .tup ((m ++ C).map enc3), d3, .tup [.tup [.int 7, .int 9, .int 9]]]
  let T3 : List D := [.tup [.tup [.int 8, .int 0, .int 0]], .tup [.tup [.int 0, .int 10, .int 0]], .tup [.tup [.int 0, .int 0, .bl true]]]
  have r5 : st5 [some (.scr ns), some (.lst (many3.map enc3)), e2, e3, some (.int k), e5, e6, e7, e8, e9, e10, e11, e12, e13, e14, e15] st = .nx [some (.scr ns), some (.lst (many3.map enc3)), e2, e3, some (.int k), some (.ref st.length), e6, e7, e8, e9, e10, e11, e12, e13, e14, e15] (st ++ [w]) := by
    rw [← e_well] at q5
    simp [st5, q5]
  have r6 : st6 [some (.scr ns), some (.lst (many3.map enc3)), e2, e3, some (.int k), some (.ref st.length), e6, e7, e8, e9, e10, e11, e12, e13, e14, e15] (st ++ [w]) = .nx [some (.scr ns), some (.lst (many3.map enc3)), e2, e3, some (.int k), some (.ref st.length), some (.tup (m.map enc3)), e7, e8, e9, e10, e11, e12, e13, e14, e15] s1 := by
    rw [← e_body] at q6
    simp [st6, q6]
  have r7 : st7 [some (.scr ns), some (.lst (many3.map enc3)), e2, e3, some (.int k), some (.ref st.length), some (.tup (m.map enc3)), e7, e8, e9, e10, e11, e12, e13, e14, e15] s1 = .nx [some (.scr ns), some (.lst (many3.map enc3)), e2, e3, some (.int k), some (.ref st.length), some (.tup (m.map enc3)), some (.lst T1), e8, e9, e10, e11, e12, e13, e14, e15] s3 := by
    have q7' : Lb.run f_l_otherwise [.ref st.length, .tup (m.map enc3), .int 2] s1 = .ok d1 s2 := q7
    have q8' : Lb.run f_l_otherwise [.ref st.length, .tup (m.map enc3), .int 1] s2 = .ok d2 s3 := q8
    simp [st7, q7', q8', T1]
  have r8 : st8 [some (.scr ns), some (.lst (many3.map enc3)), e2, e3, some (.int k), some (.ref st.length), some (.tup (m.map enc3)), some (.lst T1), e8, e9, e10, e11, e12, e13, e14, e15] s3 = .nx [some (.scr ns), some (.lst (many3.map enc3)), e2, e3, some (.int k), some (.ref st.length), some (.tup (m.map enc3)), some (.lst (T1 ++ T2)), e8, e9, e10, e11, e12, e13, e14, e15] s4 := by
    have q9' : Lb.run f_l_thing [.ref st.length, .int 3] s3 = .ok d3 s4 := q9
    have z1 : m.length + C.length ≤ 1000000 := by omega
    simp [st8, q9', eA, eB, eC', szt_ok z1, T1, T2]
  have hT : ∀ d ∈ T1 ++ T2 ++ T3, okT d = true := by
    intro d hd
    simp only [T1, T2, T3, List.mem_append, List.mem_cons, List.not_mem_nil, or_false] at hd
    rcases hd with ((rfl | rfl | rfl | rfl | rfl | rfl) | (rfl | rfl | rfl | rfl | rfl)) | (rfl | rfl | rfl)
    · exact okT_tup (by omega)
    · exact okT_thg (by decide) (by decide) t1
    · exact okT_thg (by decide) (by decide) t2
    · exact okT_lst
    · rfl
    · rw [← List.map_reverse]; exact okT_tup (by rw [List.length_reverse]; omega)
    · exact okT_tup (by omega)
    · exact okT_tup (by omega)
    · exact okT_tup (by rw [List.length_append]; omega)
    · exact okT_thg (by decide) (by decide) t3
    · rfl
    · rfl
    · rfl
    · rfl
  obtain ⟨e8', e9', r9'⟩ := chk_loop (st := s4) (e0 := some (.scr ns)) (e1 := some (.lst (many3.map enc3))) (e2 := e2) (e3 := e3) (e4 := some (.int k)) (e5 := some (.ref st.length)) (e6 := some (.tup (m.map enc3))) (e7 := some (.lst (T1 ++ T2))) (e10 := e10) (e11 := e11) (e12 := e12) (e13 := e13) (e14 := e14) (e15 := e15) (T1 ++ T2 ++ T3) e8 e9 hT
  have r9 : st9 [some (.scr ns), some (.lst (many3.map enc3)), e2, e3, some (.int k), some (.ref st.length), some (.tup (m.map enc3)), some (.lst (T1 ++ T2)), e8, e9, e10, e11, e12, e13, e14, e15] s4 = .nx [some (.scr ns), some (.lst (many3.map enc3)), e2, e3, some (.int k), some (.ref st.length), some (.tup (m.map enc3)), some (.lst (T1 ++ T2)), e8', e9', e10, e11, e12, e13, e14, e15] s4 := r9'
  obtain ⟨t, F, pc, hF, ht, q10⟩ := pieces_raw (h := s4) (cs := m) (by omega) bm.nd
  have sortd : ∃ S : List (List P3), srt (F.map encT) = S.map encT := by obtain ⟨S, e, _⟩ := srt_enc ordL dataL pc.nd; exact ⟨S, e⟩
  obtain ⟨S, eS⟩ := sortd
  rw [eS] at q10
  have r10 : st10 [some (.scr ns), some (.lst (many3.map enc3)), e2, e3, some (.int k), some (.ref st.length), some (.tup (m.map enc3)), some (.lst (T1 ++ T2)), e8', e9', e10, e11, e12, e13, e14, e15] s4 = .nx [some (.scr ns), some (.lst (many3.map enc3)), e2, e3, some (.int k), some (.ref st.length), some (.tup (m.map enc3)), some (.lst (T1 ++ T2)), e8', e9', some (.ref (s4.length + t.length)), e11, e12, e13, e14, e15] (s4 ++ (t ++ [.lst (S.map encT)])) := by
    rw [← e_pieces] at q10
    simp [st10, q10]
  have r11 : st11 [some (.scr ns), some (.lst (many3.map enc3)), e2, e3, some (.int k), some (.ref st.length), some (.tup (m.map enc3)), some (.lst (T1 ++ T2)), e8', e9', some (.ref (s4.length + t.length)), e11, e12, e13, e14, e15] (s4 ++ (t ++ [.lst (S.map encT)])) = .nx [some (.scr ns), some (.lst (many3.map enc3)), e2, e3, some (.int k), some (.ref st.length), some (.tup (m.map enc3)), some (.lst (T1 ++ T2)), e8', e9', some (.ref (s4.length + t.length)), e11, e12, e13, e14, e15] (s4 ++ (t ++ [.lst (S.map encT)])) := by
    obtain ⟨F2, pc2, _, q11⟩ := l_pieces_s (h := s4 ++ (t ++ [.lst (S.map encT)])) (cs := m) (by omega) bm.nd
    rw [srt_pieces pc2 pc, eS] at q11
    have ne : nbD eqB (.ref (s4.length + t.length)) (.lst (S.map encT)) (s4 ++ (t ++ [.lst (S.map encT)])) = .ok (.bl false) (s4 ++ (t ++ [.lst (S.map encT)])) := by
      refine (neD_of (b := true) ?_)
      have v : viewD (s4 ++ (t ++ [Ob.lst (S.map encT)])) (.ref (s4.length + t.length)) = .lst (S.map encT) := by unfold viewD; dsimp only; rw [atT]
      unfold eqB
      rw [v]
      have ft : (D.lst (S.map encT)).fit 40 = true := fits_enc (n := 39) (fun a => fit_mono (by decide) _ (fitT a)) S
      show (if ((D.lst (S.map encT)).fit 40 && (D.lst (S.map encT)).fit 40) = true then some (PyData.eqv (D.lst (S.map encT)).data (D.lst (S.map encT)).data) else none) = _
      rw [ft, eqv_self]
      rfl
    simp [st11, q11, ne]
  have big : (2000 : Nat) < sizeLine := by decide
  have lS : S.length ≤ 200 := by
    have : (S.map encT).length = F.length := by
      rw [← eS]
      obtain ⟨S', e', _, pm⟩ := srt_enc ordL dataL pc.nd
      rw [e', List.length_map]; exact pm.length_eq
    rw [List.length_map] at this
    omega
  have r12 : st12 [some (.scr ns), some (.lst (many3.map enc3)), e2, e3, some (.int k), some (.ref st.length), some (.tup (m.map enc3)), some (.lst (T1 ++ T2)), e8', e9', some (.ref (s4.length + t.length)), e11, e12, e13, e14, e15] (s4 ++ (t ++ [.lst (S.map encT)])) = .nx [some (.scr ns), some (.lst (many3.map enc3)), e2, e3, some (.int k), some (.ref st.length), some (.tup (m.map enc3)), some (.lst (T1 ++ T2)), e8', e9', some (.ref (s4.length + t.length)), e11, e12, e13, e14, e15] (s4 ++ (t ++ [.lst (S.map encT ++ [.int 7])])) := by
    have z : S.length < sizeLine := by omega
    simp [st12, atT, setT, z]
  obtain ⟨mn, mx, co⟩ := cols_of bm.ne
  have q13 := cols_step (h := s4 ++ (t ++ [.lst (S.map encT ++ [.int 7])])) (m := m) (by omega) (e0 := some (.scr ns)) (e1 := some (.lst (many3.map enc3))) (e2 := e2) (e3 := e3) (e4 := some (.int k)) (e5 := some (.ref st.length)) (e7 := some (.lst (T1 ++ T2))) (e8 := e8') (e9 := e9') (e10 := some (.ref (s4.length + t.length))) (e11 := e11) (e12 := e12) (e13 := e13) (e14 := e14) (e15 := e15) co.mn
  have q14 := cols_step (h := s4 ++ (t ++ [.lst (S.map encT ++ [.int 7])])) (m := m) (by omega) (e0 := some (.scr ns)) (e1 := some (.lst (many3.map enc3))) (e2 := e2) (e3 := e3) (e4 := some (.int k)) (e5 := some (.ref st.length)) (e7 := some (.lst (T1 ++ T2))) (e8 := e8') (e9 := e9') (e10 := some (.ref (s4.length + t.length))) (e11 := some (bnd mn)) (e12 := e12) (e13 := e13) (e14 := e14) (e15 := e15) co.mx
  have r13 : st13 [some (.scr ns), some (.lst (many3.map enc3)), e2, e3, some (.int k), some (.ref st.length), some (.tup (m.map enc3)), some (.lst (T1 ++ T2)), e8', e9', some (.ref (s4.length + t.length)), e11, e12, e13, e14, e15] (s4 ++ (t ++ [.lst (S.map encT ++ [.int 7])])) = .nx [some (.scr ns), some (.lst (many3.map enc3)), e2, e3, some (.int k), some (.ref st.length), some (.tup (m.map enc3)), some (.lst (T1 ++ T2)), e8', e9', some (.ref (s4.length + t.length)), some (bnd mn), e12, e13, e14, e15] (s4 ++ (t ++ [.lst (S.map encT ++ [.int 7])])) := by
    unfold st13
    rw [v_set, v_call, v_cons, v_froz, q13]
    rfl
  have r14 : st14 [some (.scr ns), some (.lst (many3.map enc3)), e2, e3, some (.int k), some (.ref st.length), some (.tup (m.map enc3)), some (.lst (T1 ++ T2)), e8', e9', some (.ref (s4.length + t.length)), some (bnd mn), e12, e13, e14, e15] (s4 ++ (t ++ [.lst (S.map encT ++ [.int 7])])) = .nx [some (.scr ns), some (.lst (many3.map enc3)), e2, e3, some (.int k), some (.ref st.length), some (.tup (m.map enc3)), some (.lst (T1 ++ T2)), e8', e9', some (.ref (s4.length + t.length)), some (bnd mn), some (bnd mx), e13, e14, e15] (s4 ++ (t ++ [.lst (S.map encT ++ [.int 7])])) := by
    unfold st14
    rw [v_set, v_call, v_cons, v_froz, q14]
    rfl
  have r15 : st15 [some (.scr ns), some (.lst (many3.map enc3)), e2, e3, some (.int k), some (.ref st.length), some (.tup (m.map enc3)), some (.lst (T1 ++ T2)), e8', e9', some (.ref (s4.length + t.length)), some (bnd mn), some (bnd mx), e13, e14, e15] (s4 ++ (t ++ [.lst (S.map encT ++ [.int 7])])) = .nx [some (.scr ns), some (.lst (many3.map enc3)), e2, e3, some (.int k), some (.ref st.length), some (.tup (m.map enc3)), some (.lst (T1 ++ T2)), e8', e9', some (.ref (s4.length + t.length)), some (bnd mn), some (bnd mx), e13, e14, e15] (s4 ++ (t ++ [.lst (S.map encT ++ [.int 7])])) := by
    have bs : Lb.run f_bounds [.tup (m.map enc3)] (s4 ++ (t ++ [.lst (S.map encT ++ [.int 7])])) = .ok (.tup [bnd mn, bnd mx]) (s4 ++ (t ++ [.lst (S.map encT ++ [.int 7])])) := bounds_s co (by omega)
    have ne : nbD eqB (.tup [bnd mn, bnd mx]) (.tup [bnd mn, bnd mx]) (s4 ++ (t ++ [.lst (S.map encT ++ [.int 7])])) = .ok (.bl false) (s4 ++ (t ++ [.lst (S.map encT ++ [.int 7])])) := ne_same rfl
    obtain ⟨F3, pc3, _, q15⟩ := pieces_s (h := s4 ++ (t ++ [.lst (S.map encT ++ [.int 7])])) (cs := m) (by omega) bm.nd
    rw [srt_pieces pc3 pc, eS, ← e_pieces] at q15
    have eq : bD eqB (.lst (S.map encT)) (.ref (s4.length + t.length)) (s4 ++ (t ++ [.lst (S.map encT ++ [.int 7])])) = .ok (.bl false) (s4 ++ (t ++ [.lst (S.map encT ++ [.int 7])])) := by
      refine eqD_of ?_
      have v : viewD (s4 ++ (t ++ [Ob.lst (S.map encT ++ [.int 7])])) (.ref (s4.length + t.length)) = .lst (S.map encT ++ [.int 7]) := by unfold viewD; dsimp only; rw [atT]
      unfold eqB
      rw [v]
      have f1 : (D.lst (S.map encT)).fit 40 = true := fits_enc (n := 39) (fun a => fit_mono (by decide) _ (fitT a)) S
      have f2 : (D.lst (S.map encT ++ [.int 7])).fit 40 = true := by
        show (S.map encT ++ [D.int 7]).all (D.fit 39) = true
        rw [List.all_append, fits_enc (n := 39) (fun a => fit_mono (by decide) _ (fitT a)) S]
        rfl
      show (if ((D.lst (S.map encT)).fit 40 && (D.lst (S.map encT ++ [.int 7])).fit 40) = true then some (PyData.eqv (D.lst (S.map encT)).data (D.lst (S.map encT ++ [.int 7])).data) else none) = _
      rw [f1, f2]
      have ev : PyData.eqv (D.lst (S.map encT)).data (D.lst (S.map encT ++ [.int 7])).data = false := by
        simp only [D.data, PyData.eqv]
        rw [Bool.eq_false_iff]
        intro z
        have := eqvAll_len z
        rw [datas_map, datas_map] at this
        simp at this
      rw [ev]
      rfl
    simp [st15, bs, ne, q15, eq]
  refine ⟨_, _, (seq_nx r5).trans ((seq_nx r6).trans ((seq_nx r7).trans ((seq_nx r8).trans ((seq_nx r9).trans ((seq_nx r10).trans ((seq_nx r11).trans ((seq_nx r12).trans ((seq_nx r13).trans ((seq_nx r14).trans r15))))))))), ?_, _, _, _, _, _, _, _, _, rfl⟩
  rw [List.all_append, g4.low, List.all_append, ht]
  simp only [List.all_cons, List.all_nil, Bool.and_true, Bool.true_and]
  exact lows_all fun d hd => by
    rcases List.mem_append.mp hd with hd | hd
    · obtain ⟨p, _, rfl⟩ := List.mem_map.mp hd; exact lowT p 0
    · rw [List.mem_singleton] at hd; subst hd; rfl
theorem main : Main 63 := by
  intro ns hns
  have hj : ∃ j : Int, (6 ≤ j ∧ j ≤ 40) ∧ ∀ e : En, e[0]? = some (some (.scr ns)) → iRng1 (aCons (eCall maxA (aCons (eC (.int 6)) (aCons (eCall minA (aCons (eC (.int 40)) (aCons (eCall lenD (aCons (eVar 0) aNil)) aNil))) aNil))) aNil) e [] = .ok (.fix (rng 0 j.toNat)) [] := by
    have mo : minOk [D.int 40, D.int (ns.length : Nat)] = true := minOk_ints [40, (ns.length : Nat)]
    have q : ∀ e : En, e[0]? = some (some (.scr ns)) → aCons (eCall maxA (aCons (eC (.int 6)) (aCons (eCall minA (aCons (eC (.int 40)) (aCons (eCall lenD (aCons (eVar 0) aNil)) aNil))) aNil))) aNil e [] = .ok [.int (if (if ((ns.length : Nat) : Int) < 40 then ((ns.length : Nat) : Int) else 40) > 6 then (if ((ns.length : Nat) : Int) < 40 then ((ns.length : Nat) : Int) else 40) else 6)] [] := fun e he => by
      have l1 : lenD [.scr ns] ([] : Hs) = .ok (.int (ns.length : Nat)) [] := by show R.ok (D.int ((ns.map D.int).length : Nat)) [] = _; rw [List.length_map]
      have m1 : minA [.int 40, .int (ns.length : Nat)] ([] : Hs) = .ok (.int (if ((ns.length : Nat) : Int) < 40 then ((ns.length : Nat) : Int) else 40)) [] := by
        show (if minOk [D.int 40, D.int (ns.length : Nat)] = true then R.ok (minF (.int 40) [.int (ns.length : Nat)]) [] else .bad) = _
        rw [if_pos mo]
        have : minF (.int 40) [.int (ns.length : Nat)] = .int (if ((ns.length : Nat) : Int) < 40 then ((ns.length : Nat) : Int) else 40) := by
          show (if PySem.W.dataLt (.int ((ns.length : Nat) : Int)) (.int 40) = true then D.int (ns.length : Nat) else .int 40) = _
          rw [PySem.W.dataLt_int]
          by_cases hlt : ((ns.length : Nat) : Int) < 40
          · rw [decide_eq_true hlt, if_pos rfl, if_pos hlt]
          · rw [decide_eq_false hlt, if_neg Bool.false_ne_true, if_neg hlt]
        rw [this]
      have m2 : ∀ i : Int, maxA [.int 6, .int i] ([] : Hs) = .ok (.int (if i > 6 then i else 6)) [] := fun i => rfl
      simp [he, l1, m1, m2]
    refine ⟨_, ?_, fun e he => rng1_ok (q e he) ?_⟩
    · split <;> split at * <;> omega
    · split <;> split at * <;> omega
  obtain ⟨j, hj, qi⟩ := hj
  obtain ⟨e', st', r, ⟨x2, x3, x4, x5, x6, x7, x8, x9, x10, x11, x12, x13, x14, x15, rfl⟩, hs⟩ := forL_inv (G := gN 4) (S := turn) (fun _ e s => (∃ x2 x3 x4 x5 x6 x7 x8 x9 x10 x11 x12 x13 x14 x15, e = [some (.scr ns), some (.lst (many3.map enc3)), x2, x3, x4, x5, x6, x7, x8, x9, x10, x11, x12, x13, x14, x15]) ∧ s.all (Ob.low 0) = true)
    (rng 0 j.toNat) 0 [some (.scr ns), some (.lst (many3.map enc3)), some (.int 2), some (.int 9), none, none, none, none, none, none, none, none, none, none, none, none] [] (fun i x e s hi ⟨⟨x2, x3, x4, x5, x6, x7, x8, x9, x10, x11, x12, x13, x14, x15, he⟩, hs⟩ => by
      subst he
      obtain ⟨hi40, rfl⟩ := rng_get _ 0 i x hi
      obtain ⟨e', st', q, hs', y5, y6, y7, y8, y9, y10, y11, y12, he'⟩ := turn_ok (ns := ns) (k := 0 + (i : Int)) (e2 := x2) (e3 := x3) (e5 := x5) (e6 := x6) (e7 := x7) (e8 := x8) (e9 := x9) (e10 := x10) (e11 := x11) (e12 := x12) (e13 := x13) (e14 := x14) (e15 := x15) (by omega) hs
      subst he'
      exact ⟨_, rfl, _, st', .inl q, ⟨_, _, _, _, _, _, _, _, _, _, _, _, _, _, rfl⟩, hs'⟩)
    ⟨⟨_, _, _, _, _, _, _, _, _, _, _, _, _, _, rfl⟩, rfl⟩
  refine ⟨st', ?_⟩
  rw [law_is]
  refine fn_rt ?_
  show sSeq (sSet 1 (eFroz (lDisp aNil))) _ [some (.scr ns), none, none, none, none, none, none, none, none, none, none, none, none, none, none, none] [] = _
  refine (seq_nx (e1 := [some (.scr ns), some (.lst []), none, none, none, none, none, none, none, none, none, none, none, none, none, none]) (h1 := []) (by simp)).trans ?_
  refine (seq_nx (many_ok ns)).trans ?_
  refine (seq_nx ((for_of (qi _ rfl)).trans r)).trans rfl
end
end K01

open PySem PySem.W PyProof.Rows
set_option maxRecDepth 100000 in
set_option maxHeartbeats 0 in
theorem PySem.Challenge.cw_layerbody_k01_what_are_bodies_holds : PySem.Challenge.rw_layerbody_k01_what_are_bodies.Holds := by
  w_on; o_law; k_head; (case hw => w_witness2)
  k_fill
  refine K01.walk (l := PySem.Challenge.rw_layerbody_k01_what_are_bodies) rfl (by decide) rfl (fun w h Y => PySem.W.kIn_of Y) ?F
  case F =>
    intro w mg fa h KX G hmg
    refine' K01.all_mk K01.main KX G hmg ?a1 ?l1 ?c1 ?k1 ?a2 ?l2 ?c2 ?k2 ?a3 ?l3 ?c3 ?k3 ?a4 ?l4 ?c4 ?k4 ?a5 ?l5 ?c5 ?k5 ?a6 ?l6 ?c6 ?k6 ?a7 ?l7 ?c7 ?k7 ?a8 ?l8 ?c8 ?k8 ?a9 ?l9 ?c9 ?k9 ?a10 ?l10 ?c10 ?k10 ?a11 ?l11 ?c11 ?k11 ?a12 ?l12 ?c12 ?k12 ?a13 ?l13 ?c13 ?k13 ?a14 ?l14 ?c14 ?k14 ?a15 ?l15 ?c15 ?k15 ?a16 ?l16 ?c16 ?k16 ?a17 ?l17 ?c17 ?k17 ?a18 ?l18 ?c18 ?k18 ?a19 ?l19 ?c19 ?k19 ?a20 ?l20 ?c20 ?k20 ?a21 ?l21 ?c21 ?k21 ?a22 ?l22 ?c22 ?k22 ?z_abs ?z_all ?z_bool ?z_int ?z_isinstance ?z_len ?z_list ?z_max ?z_min ?z_range ?z_set ?z_sorted ?z_str ?z_sum ?z_tuple ?z_zip ?g_EDGE ?g_MOST_CELLS ?g_SIDES ?kl3 ?kc3 ?kd3 ?kl4 ?kc4 ?kd4 ?kl7 ?kc7 ?kd7 ?kl10 ?kc10 ?kd10 ?kl13 ?kc13 ?kd13 ?g_TOP
    (case a1 => k_is); (case l1 => k_is); (case c1 => k_is); (case k1 => k_is); (case a2 => k_is); (case l2 => k_is)
    (case c2 => k_is); (case k2 => k_is); (case a3 => k_is); (case l3 => k_is); (case c3 => k_is); (case k3 => k_is)
    (case a4 => k_is); (case l4 => k_is); (case c4 => k_is); (case k4 => k_is); (case a5 => k_is); (case l5 => k_is)
    (case c5 => k_is); (case k5 => k_is); (case a6 => k_is); (case l6 => k_is); (case c6 => k_is); (case k6 => k_is)
    (case a7 => k_is); (case l7 => k_is); (case c7 => k_is); (case k7 => k_is); (case a8 => k_is); (case l8 => k_is)
    (case c8 => k_is); (case k8 => k_is); (case a9 => k_is); (case l9 => k_is); (case c9 => k_is); (case k9 => k_is)
    (case a10 => k_is); (case l10 => k_is); (case c10 => k_is); (case k10 => k_is); (case a11 => k_is); (case l11 => k_is)
    (case c11 => k_is); (case k11 => k_is); (case a12 => k_is); (case l12 => k_is); (case c12 => k_is); (case k12 => k_is)
    (case a13 => k_is); (case l13 => k_is); (case c13 => k_is); (case k13 => k_is); (case a14 => k_is); (case l14 => k_is)
    (case c14 => k_is); (case k14 => k_is); (case a15 => k_is); (case l15 => k_is); (case c15 => k_is); (case k15 => k_is)
    (case a16 => k_is); (case l16 => k_is); (case c16 => k_is); (case k16 => k_is); (case a17 => k_is); (case l17 => k_is)
    (case c17 => k_is); (case k17 => k_is); (case a18 => k_is); (case l18 => k_is); (case c18 => k_is); (case k18 => k_is)
    (case a19 => k_is); (case l19 => k_is); (case c19 => k_is); (case k19 => k_is); (case a20 => k_is); (case l20 => k_is)
    (case c20 => k_is); (case k20 => k_is); (case a21 => k_is); (case l21 => k_is); (case c21 => k_is); (case k21 => k_is)
    (case a22 => k_is); (case l22 => k_is); (case c22 => k_is); (case k22 => k_is); (case z_abs => k_is); (case z_all => k_is)
    (case z_bool => k_is); (case z_int => k_is); (case z_isinstance => k_is); (case z_len => k_is); (case z_list => k_is); (case z_max => k_is)
    (case z_min => k_is); (case z_range => k_is); (case z_set => k_is); (case z_sorted => k_is); (case z_str => k_is); (case z_sum => k_is)
    (case z_tuple => k_is); (case z_zip => k_is); (case g_EDGE => k_is); (case g_MOST_CELLS => k_is); (case g_SIDES => k_is); (case kl3 => k_is)
    (case kc3 => rfl); (case kd3 => rfl); (case kl4 => k_is); (case kc4 => rfl); (case kd4 => rfl); (case kl7 => k_is)
    (case kc7 => rfl); (case kd7 => rfl); (case kl10 => k_is); (case kc10 => rfl); (case kd10 => rfl); (case kl13 => k_is)
    (case kc13 => rfl); (case kd13 => rfl); (case g_TOP => k_is)
#print axioms PySem.Challenge.cw_layerbody_k01_what_are_bodies_holds
